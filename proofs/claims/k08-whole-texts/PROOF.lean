import PyProof.Rows.All
import Wide.All
import OpenK.AllK
import Wide.FinOn
import PySem.Challenge.RW_worthshares_k08_whole_texts
import HandS.ForMost
import HandS.WordsExc
import HandS.Walk
import HandS.DictComp
import HandS.Zip
import HandS.Conv
import HandS.TupAny
import HandS.Deep
import HandS.IsInst
import KE.SortData
import KE.KDictZip
import KE.KDictKeyed
import HandS.Lambda
import HandS.Star
import KE.GoesZip
import KE.GoesMore
import HandS.Wide
import PyProof.Rows.InDataRows
import PyProof.ListNew
import KE.KDictDisplayH
import KE.KDictCopyH
import HandS.Style
import HandS.HeadEnd
import HandS.Defaults
import HandS.Head0
import HandS.Head1
import HandS.Head2
import HandS.HeadHook1
import HandS.HeadHook2
import HandS.Ends
import KE.KDictWalk
import KE.KPairComp
import PyProof.EnumMake
import HandS.TupMul
import HandS.Text
import HandS.Iter
import HandS.ExcOwn
import HandS.ExcIs
import HandS.HeadHook4
import HandS.HeadWalk
import HandS.ExcSuper
import HandS.ExcInit
import HandS.ExcCtx
import KE.KExcSuper
import HandS.SuiteRaise
import HandS.RaiseFrom
import HandS.Codes
set_option Elab.async false
set_option linter.all false
set_option maxRecDepth 100000
set_option Elab.async false
set_option linter.all false
set_option maxRecDepth 100000
namespace Pv
open PySem PySem.Spec PyProof.Rows L2

/-! ### values of any depth, what an evaluation gives -/
inductive D where
  | non | bl (b : Bool) | int (i : Int) | str (s : Str) | tup (l : List D) | lst (l : List D) | ro (l : List D) | rt (l : List D)
  | dK (l : List (Key × D)) | dT (l : List (List Key × D)) | obj (c : Nat) (l : List D) | rng (i j : Int) | dF (l : List (Key × D))
  deriving Inhabited

/-- a slot: no value, a value for good, a list or dict of the def's own, the same while a loop walks it, a shared cell -/
inductive Sl where
  | un | sh (d : D) | own (d : D) | lk (d : D) | ref (n : Nat)
  deriving Inhabited
inductive Arg where
  | sh (d : D) | ref (n : Nat)
  deriving Inhabited
def Arg.sl : Arg → Sl
  | .sh d => .sh d
  | .ref n => .ref n
/-- what an expression gives: fr: a new list or dict that nobody else holds -/
structure R where
  fr : Bool
  d : D
  deriving Inhabited
abbrev Sto := List D
inductive Out (α : Type) where
  | ok (a : α) (S : Sto) | exc (c : Nat) (fs : List D) (S : Sto) | bad
def Out.bind {α β : Type} (o : Out α) (f : α → Sto → Out β) : Out β := match o with
  | .ok a S => f a S
  | .exc c fs S => .exc c fs S
  | .bad => .bad
abbrev SEnv := List Sl
abbrev Ex := SEnv → Sto → Out R
abbrev Ax := SEnv → Sto → Out (List Arg)
abbrev Ix := SEnv → Sto → Out (List D)
inductive Fl where
  | nx (e : SEnv) | ret (r : R)
abbrev Sx := SEnv → Sto → Out Fl
def Out.post {α : Type} (o : Out α) (Q : α → Sto → Prop) (E : Nat → List D → Sto → Prop) : Prop := match o with
  | .ok a S => Q a S
  | .exc c fs S => E c fs S
  | .bad => False
theorem post_bind {α β : Type} {o : Out α} {f : α → Sto → Out β} {Q : β → Sto → Prop} {E : Nat → List D → Sto → Prop} : (o.bind f).post Q E ↔ o.post (fun a S => (f a S).post Q E) E := by
  cases o <;> exact Iff.rfl
theorem post_mono {α : Type} {o : Out α} {Q Q' : α → Sto → Prop} {E E' : Nat → List D → Sto → Prop} (h : o.post Q E) (hQ : ∀ a S, Q a S → Q' a S) (hE : ∀ c fs S, E c fs S → E' c fs S) : o.post Q' E' := by
  cases o with
  | ok a S => exact hQ _ _ h
  | exc c fs S => exact hE _ _ _ h
  | bad => exact h

/-! ### how a value lies in the heap; P: what is there for good -/
mutual
inductive Rep (K : PySem.W.Frag) (G : Nat → Option (Addr × List Str)) (P : Hp) : D → V → Prop
  | non : Rep K G P .non .non
  | bl (b : Bool) : Rep K G P (.bl b) (.bl b)
  | int (i : Int) : Rep K G P (.int i) (.int i)
  | str (s : Str) : Rep K G P (.str s) (.str s)
  | tup {a : Addr} {xs : List V} {l : List D} : P a = some (.tup xs) → Reps K G P l xs → Rep K G P (.tup l) (.ref a)
  | rt {a : Addr} {xs : List V} {l : List D} : SqT K P a xs → Reps K G P l xs → Rep K G P (.rt l) (.ref a)
  | lst {a : Addr} {xs : List V} {l : List D} : P a = some (.lst xs) → Reps K G P l xs → Rep K G P (.lst l) (.ref a)
  | ro {a : Addr} {xs : List V} {l : List D} : SqL K P a xs → Reps K G P l xs → Rep K G P (.ro l) (.ref a)
  | dK {a : Addr} {kvs : List (Key × V)} {l : List (Key × D)} : P a = some (.dK kvs) → RepK K G P l kvs → Rep K G P (.dK l) (.ref a)
  | dT {a : Addr} {kvs : List (List Key × V)} {l : List (List Key × D)} : P a = some (.dT kvs) → RepT K G P l kvs → Rep K G P (.dT l) (.ref a)
  | obj {a C dx : Addr} {fs : List (Str × V)} {ns : List Str} {c : Nat} {l : List D} : P a = some (.ins C dx fs) → G c = some (C, ns) → fs.map (·.1) = ns.take l.length → Reps K G P l (fs.map (·.2)) → Rep K G P (.obj c l) (.ref a)
  | rng {a : Addr} {i j : Int} : P a = some (.rng i j) → Rep K G P (.rng i j) (.ref a)
  | dF {a : Addr} {o : Obj} {kvs : List (Key × V)} {l : List (Key × D)} : P a = some (.frz o (.dK kvs)) → RepK K G P l kvs → Rep K G P (.dF l) (.ref a)
inductive Reps (K : PySem.W.Frag) (G : Nat → Option (Addr × List Str)) (P : Hp) : List D → List V → Prop
  | nil : Reps K G P [] []
  | cons {d : D} {v : V} {l : List D} {xs : List V} : Rep K G P d v → Reps K G P l xs → Reps K G P (d :: l) (v :: xs)
inductive RepK (K : PySem.W.Frag) (G : Nat → Option (Addr × List Str)) (P : Hp) : List (Key × D) → List (Key × V) → Prop
  | nil : RepK K G P [] []
  | cons {k : Key} {d : D} {v : V} {l : List (Key × D)} {xs : List (Key × V)} : Rep K G P d v → RepK K G P l xs → RepK K G P ((k, d) :: l) ((k, v) :: xs)
inductive RepT (K : PySem.W.Frag) (G : Nat → Option (Addr × List Str)) (P : Hp) : List (List Key × D) → List (List Key × V) → Prop
  | nil : RepT K G P [] []
  | cons {k : List Key} {d : D} {v : V} {l : List (List Key × D)} {xs : List (List Key × V)} : Rep K G P d v → RepT K G P l xs → RepT K G P ((k, d) :: l) ((k, v) :: xs)
end
section
variable {K : PySem.W.Frag} {G : Nat → Option (Addr × List Str)} {P P' H H' : Hp}
theorem same_sqT {a : Addr} {xs : List V} (e : Same P P') (h : SqT K P a xs) : SqT K P' a xs := by
  rcases h with (h | ⟨o, h⟩) | h
  · exact .inl (.inl (e _ _ h))
  · exact .inl (.inr ⟨o, e _ _ h⟩)
  · exact .inr h
mutual
theorem Rep.mono (e : Same P P') : ∀ {d : D} {v : V}, Rep K G P d v → Rep K G P' d v
  | _, _, .non => .non
  | _, _, .bl b => .bl b
  | _, _, .int b => .int b
  | _, _, .str b => .str b
  | _, _, .tup h r => .tup (e _ _ h) (Reps.mono e r)
  | _, _, .rt h r => .rt (same_sqT e h) (Reps.mono e r)
  | _, _, .lst h r => .lst (e _ _ h) (Reps.mono e r)
  | _, _, .ro h r => .ro (e.seq h) (Reps.mono e r)
  | _, _, .dK h r => .dK (e _ _ h) (RepK.mono e r)
  | _, _, .dT h r => .dT (e _ _ h) (RepT.mono e r)
  | _, _, .obj h g n r => .obj (e _ _ h) g n (Reps.mono e r)
  | _, _, .rng h => .rng (e _ _ h)
  | _, _, .dF h r => .dF (e _ _ h) (RepK.mono e r)
theorem Reps.mono (e : Same P P') : ∀ {d : List D} {v : List V}, Reps K G P d v → Reps K G P' d v
  | _, _, .nil => .nil
  | _, _, .cons h r => .cons (Rep.mono e h) (Reps.mono e r)
theorem RepK.mono (e : Same P P') : ∀ {d : List (Key × D)} {v : List (Key × V)}, RepK K G P d v → RepK K G P' d v
  | _, _, .nil => .nil
  | _, _, .cons h r => .cons (Rep.mono e h) (RepK.mono e r)
theorem RepT.mono (e : Same P P') : ∀ {d : List (List Key × D)} {v : List (List Key × V)}, RepT K G P d v → RepT K G P' d v
  | _, _, .nil => .nil
  | _, _, .cons h r => .cons (Rep.mono e h) (RepT.mono e r)
end
theorem Reps.length : ∀ {l : List D} {xs : List V}, Reps K G P l xs → l.length = xs.length
  | _, _, .nil => rfl
  | _, _, .cons _ r => congrArg (· + 1) (Reps.length r)
theorem Reps.get : ∀ {l : List D} {xs : List V} {i : Nat} {d : D}, Reps K G P l xs → l[i]? = some d → ∃ v, xs[i]? = some v ∧ Rep K G P d v
  | _, _, _, _, .nil, e => by simp at e
  | _, _, 0, _, .cons h r, e => by simp at e; subst e; exact ⟨_, rfl, h⟩
  | _, _, i + 1, d, .cons h r, e => by
    obtain ⟨v, h1, h2⟩ := Reps.get (i := i) (d := d) r (by simpa using e)
    exact ⟨v, by simpa using h1, h2⟩
theorem Reps.getV : ∀ {l : List D} {xs : List V} {i : Nat} {v : V}, Reps K G P l xs → xs[i]? = some v → ∃ d, l[i]? = some d ∧ Rep K G P d v
  | _, _, _, _, .nil, e => by simp at e
  | _, _, 0, _, .cons h r, e => by simp at e; subst e; exact ⟨_, rfl, h⟩
  | _, _, i + 1, d, .cons h r, e => by
    obtain ⟨v, h1, h2⟩ := Reps.getV (i := i) (v := d) r (by simpa using e)
    exact ⟨v, by simpa using h1, h2⟩
theorem Reps.append : ∀ {l l' : List D} {xs xs' : List V}, Reps K G P l xs → Reps K G P l' xs' → Reps K G P (l ++ l') (xs ++ xs')
  | _, _, _, _, .nil, s => s
  | _, _, _, _, .cons h r, s => .cons h (Reps.append r s)
theorem Reps.take : ∀ {l : List D} {xs : List V} (n : Nat), Reps K G P l xs → Reps K G P (l.take n) (xs.take n)
  | _, _, 0, _ => .nil
  | _, _, _ + 1, .nil => .nil
  | _, _, n + 1, .cons h r => .cons h (Reps.take n r)
theorem Reps.drop : ∀ {l : List D} {xs : List V} (n : Nat), Reps K G P l xs → Reps K G P (l.drop n) (xs.drop n)
  | _, _, 0, r => r
  | _, _, _ + 1, .nil => .nil
  | _, _, n + 1, .cons h r => Reps.drop n r
theorem Reps.set {d : D} {v : V} (h : Rep K G P d v) : ∀ {l : List D} {xs : List V} (n : Nat), Reps K G P l xs → Reps K G P (l.set n d) (xs.set n v)
  | _, _, _, .nil => .nil
  | _, _, 0, .cons _ r => .cons h r
  | _, _, n + 1, .cons g r => .cons g (Reps.set h n r)
theorem RepK.length : ∀ {l : List (Key × D)} {xs : List (Key × V)}, RepK K G P l xs → l.length = xs.length
  | _, _, .nil => rfl
  | _, _, .cons _ r => congrArg (· + 1) (RepK.length r)
theorem RepT.length : ∀ {l : List (List Key × D)} {xs : List (List Key × V)}, RepT K G P l xs → l.length = xs.length
  | _, _, .nil => rfl
  | _, _, .cons _ r => congrArg (· + 1) (RepT.length r)

/-- what is there for good stands in the heap (a dict: perhaps locked) -/
def IsDic : HO → Prop
  | .dK _ => True
  | .dT _ => True
  | _ => False
/-- no table of code objects, no mark of one -/
def ntb : HO → Bool
  | .tbl _ => false
  | .xd _ => false
  | _ => true
abbrev NTb (u : HO) : Prop := ntb u = true
theorem ntb_tbl {u : HO} (h : NTb u) (ps : Array Value) : u ≠ .tbl ps := fun z => by subst z; cases h
theorem ntb_mut {u : HO} (h : Mut (some u)) : NTb u := by
  cases u <;> first | rfl | exact h.elim
/-- told in P of a table of code objects: each of them bears the name q -/
def mkT (q : Str) : HO := .xd [(q, .non)]
def Le (P H : Hp) : Prop := ∀ a u, P a = some u → (H a = some u ∧ NTb u) ∨ (IsDic u ∧ ∃ o, H a = some (.frz o u)) ∨ ∃ q, u = mkT q ∧ LamX.TabS H a q
theorem Le.ext (l : Le P H) (e : ∀ b o, H b = some o → H' b = some o) : Le P H' := fun a u h => by
  rcases l a u h with ⟨q, nq⟩ | ⟨m, o, q⟩ | ⟨q, q1, q2⟩
  · exact .inl ⟨e _ _ q, nq⟩
  · exact .inr (.inl ⟨m, o, e _ _ q⟩)
  · exact .inr (.inr ⟨q, q1, q2.ext e⟩)
theorem Le.up {p : Addr} {o : HO} (l : Le P H) (n : H p = none) : Le P (upd H p o) := l.ext fun b o e => by rw [upd_ne (ne_of_none e n)]; exact e
theorem Le.none {a : Addr} (l : Le P H) (h : H a = none) : P a = none := by
  cases q : P a with
  | none => rfl
  | some u =>
    rcases l a u q with ⟨e, _⟩ | ⟨_, o, e⟩ | ⟨_, _, ps, e, _⟩ <;> rw [h] at e <;> cases e
theorem Le.sqL {a : Addr} {xs : List V} (l : Le P H) (h : SqL K P a xs) : SqL K H a xs := by
  rcases h with (h | ⟨o, h⟩) | h
  · rcases l _ _ h with ⟨e, _⟩ | ⟨m, _⟩ | ⟨_, m, _⟩
    · exact .inl (.inl e)
    · exact m.elim
    · cases m
  · rcases l _ _ h with ⟨e, _⟩ | ⟨m, _⟩ | ⟨_, m, _⟩
    · exact .inl (.inr ⟨o, e⟩)
    · exact m.elim
    · cases m
  · exact .inr h
theorem Le.lst {a : Addr} {xs : List V} (l : Le P H) (h : P a = some (.lst xs)) : H a = some (.lst xs) := by
  rcases l _ _ h with ⟨e, _⟩ | ⟨m, _⟩ | ⟨_, m, _⟩
  · exact e
  · exact m.elim
  · cases m
theorem Le.tup {a : Addr} {xs : List V} (l : Le P H) (h : P a = some (.tup xs)) : H a = some (.tup xs) := by
  rcases l _ _ h with ⟨e, _⟩ | ⟨m, _⟩ | ⟨_, m, _⟩
  · exact e
  · exact m.elim
  · cases m
theorem Le.sqT {a : Addr} {xs : List V} (l : Le P H) (h : SqT K P a xs) : SqT K H a xs := by
  rcases h with (h | ⟨o, h⟩) | h
  · rcases l _ _ h with ⟨e, _⟩ | ⟨m, _⟩ | ⟨_, m, _⟩
    · exact .inl (.inl e)
    · exact m.elim
    · cases m
  · rcases l _ _ h with ⟨e, _⟩ | ⟨m, _⟩ | ⟨_, m, _⟩
    · exact .inl (.inr ⟨o, e⟩)
    · exact m.elim
    · cases m
  · exact .inr h
theorem Le.frz {a : Addr} {o : Obj} {u : HO} (l : Le P H) (h : P a = some (.frz o u)) : H a = some (.frz o u) := by
  rcases l _ _ h with ⟨e, _⟩ | ⟨m, _⟩ | ⟨_, m, _⟩
  · exact e
  · exact m.elim
  · cases m
theorem Le.rd {a : Addr} {u : HO} (l : Le P H) (h : P a = some u) (nx : ∀ q, u ≠ mkT q := by intro q z; cases z) : Rd H a u := by
  rcases l _ _ h with ⟨e, _⟩ | ⟨_, o, e⟩ | ⟨q, m, _⟩
  · exact .inl e
  · exact .inr ⟨o, e⟩
  · exact absurd m (nx q)

/-- neither a table nor a code object -/
def Plain : Option HO → Prop
  | some (.lst _) => True
  | some (.dK _) => True
  | some (.dT _) => True
  | some (.ins _ _ _) => True
  | some (.frz _ _) => True
  | _ => False
theorem Plain.tabs {h0 : Hp} {D p : Addr} {u : HO} {q : Str} (pl : Plain (h0 D)) (t : LamX.TabS h0 p q) : LamX.TabS (upd h0 D u) p q := by
  obtain ⟨ps, e1, e2, e3⟩ := t
  have np : p ≠ D := fun z => by rw [← z, e1] at pl; exact pl
  refine ⟨ps, by rw [upd_ne np]; exact e1, e2, fun pos cv hc => ?_⟩
  obtain ⟨k, k1, k2⟩ := e3 pos cv hc
  have nk : k ≠ D := fun z => by
    have k3 : h0 k = some (.ext _) := k2
    rw [← z, k3] at pl; exact pl
  exact ⟨k, k1, by rw [upd_ne nk]; exact k2⟩
theorem Le.wr {D : Addr} {u : HO} (l : Le P H) (p : P D = Option.none) (pl : Plain (H D)) : Le P (upd H D u) := fun a w e => by
  have ne : a ≠ D := fun z => by subst z; rw [p] at e; cases e
  rcases l a w e with ⟨q, nq⟩ | ⟨m, o, q⟩ | ⟨q, q1, q2⟩
  · exact .inl ⟨by rw [upd_ne ne]; exact q, nq⟩
  · exact .inr (.inl ⟨m, o, by rw [upd_ne ne]; exact q⟩)
  · exact .inr (.inr ⟨q, q1, pl.tabs q2⟩)

/-- a list or dict that may be written: the root at a, its parts for good -/
inductive Root (K : PySem.W.Frag) (G : Nat → Option (Addr × List Str)) (P H : Hp) : D → Addr → Prop
  | lst {a : Addr} {xs : List V} {l : List D} : H a = some (.lst xs) → Reps K G P l xs → Root K G P H (.lst l) a
  | dK {a : Addr} {kvs : List (Key × V)} {l : List (Key × D)} : H a = some (.dK kvs) → RepK K G P l kvs → Root K G P H (.dK l) a
  | dT {a : Addr} {kvs : List (List Key × V)} {l : List (List Key × D)} : H a = some (.dT kvs) → RepT K G P l kvs → Root K G P H (.dT l) a
  | obj {a C dx : Addr} {fs : List (Str × V)} {ns : List Str} {c : Nat} {l : List D} : H a = some (.ins C dx fs) → G c = some (C, ns) → fs.map (·.1) = ns.take l.length → Reps K G P l (fs.map (·.2)) → Root K G P H (.obj c l) a
theorem Root.there {d : D} {a : Addr} (r : Root K G P H d a) : ∃ u, H a = some u ∧ Mut (some u) := by
  cases r with
  | lst h _ => exact ⟨_, h, trivial⟩
  | dK h _ => exact ⟨_, h, trivial⟩
  | dT h _ => exact ⟨_, h, trivial⟩
  | obj h _ _ _ => exact ⟨_, h, trivial⟩
theorem Root.plain {d : D} {a : Addr} (r : Root K G P H d a) : Plain (H a) := by
  cases r with
  | lst h _ => rw [h]; trivial
  | dK h _ => rw [h]; trivial
  | dT h _ => rw [h]; trivial
  | obj h _ _ _ => rw [h]; trivial
theorem Root.mono {d : D} {a : Addr} (r : Root K G P H d a) (e : Same P P') (k : ∀ u, H a = some u → H' a = some u) : Root K G P' H' d a := by
  cases r with
  | lst h r => exact .lst (k _ h) (r.mono e)
  | dK h r => exact .dK (k _ h) (r.mono e)
  | dT h r => exact .dT (k _ h) (r.mono e)
  | obj h g n r => exact .obj (k _ h) g n (r.mono e)
/-- the root laid down for good -/
theorem Root.rep {d : D} {a : Addr} (r : Root K G P H d a) (n : P a = none) : ∃ u, H a = some u ∧ Mut (some u) ∧ Rep K G (upd P a u) d (.ref a) := by
  have sm : ∀ u, Same P (upd P a u) := fun u b o e => by rw [upd_ne (ne_of_none e n)]; exact e
  cases r with
  | lst h r => exact ⟨_, h, trivial, .lst upd_same (r.mono (sm _))⟩
  | dK h r => exact ⟨_, h, trivial, .dK upd_same (r.mono (sm _))⟩
  | dT h r => exact ⟨_, h, trivial, .dT upd_same (r.mono (sm _))⟩
  | obj h g m r => exact ⟨_, h, trivial, .obj upd_same g m (r.mono (sm _))⟩

/-! ### a step from (P, H) to (P', H'): cells at ρ may be written, all else stays -/
structure Step (ρ : List Addr) (P H P' H' : Hp) : Prop where
  le : Le P' H'
  pp : Same P P'
  hh : ∀ a u, H a = some u → a ∉ ρ → NTb u → H' a = some u
  dom : ∀ a, H' a = none → H a = none
  new : ∀ a u, a ∉ ρ → P a = none → H a = some u → (∀ xs, u ≠ .tup xs) → NTb u → P' a = none
  cel : ∀ a ∈ ρ, P a = none → P' a = none
  mrk : ∀ a q, P' a = some (mkT q) → P a = some (mkT q)
theorem mk_upd {p : Addr} {o : HO} (nt : NTb o) : ∀ a q, upd P p o a = some (mkT q) → P a = some (mkT q) := fun a q e => by
  by_cases z : a = p
  · subst z; rw [upd_same] at e; cases e; cases nt
  · rw [upd_ne z] at e; exact e
theorem Step.refl {ρ : List Addr} (l : Le P H) : Step ρ P H P H := ⟨l, Same.refl P, fun _ _ e _ _ => e, fun _ e => e, fun _ _ _ n _ _ _ => n, fun _ _ n => n, fun _ _ e => e⟩
theorem Step.trans {ρ : List Addr} {P1 H1 P2 H2 : Hp} (a : Step ρ P H P1 H1) (b : Step ρ P1 H1 P2 H2) : Step ρ P H P2 H2 :=
  ⟨b.le, a.pp.trans b.pp, fun c u e n x => b.hh c u (a.hh c u e n x) n x, fun c e => a.dom c (b.dom c e),
    fun c u m n e t x => b.new c u m (a.new c u m n e t x) (a.hh c u e m x) t x, fun c m n => b.cel c m (a.cel c m n), fun c q e => a.mrk c q (b.mrk c q e)⟩
/-- a new object, not yet for good -/
theorem Step.alloc {ρ : List Addr} {p : Addr} {o : HO} (l : Le P H) (n : H p = none) : Step ρ P H P (upd H p o) :=
  ⟨l.up n, Same.refl P, fun a u e _ _ => by rw [upd_ne (ne_of_none e n)]; exact e, fun a e => by
      by_cases z : a = p
      · subst z; exact n
      · rw [upd_ne z] at e; exact e,
    fun _ _ _ q _ _ _ => q, fun _ _ q => q, fun _ _ e => e⟩
/-- a new object laid down for good -/
theorem Step.lay {ρ : List Addr} {p : Addr} {o : HO} (l : Le P H) (n : H p = none) (np : p ∉ ρ) (nt : NTb o := by rfl) : Step ρ P H (upd P p o) (upd H p o) :=
  ⟨fun a u e => by
      by_cases z : a = p
      · subst z; rw [upd_same] at e ⊢; cases e; exact .inl ⟨rfl, nt⟩
      · rw [upd_ne z] at e; exact l.up n a u e,
    fun a u e => by rw [upd_ne (ne_of_none e (l.none n))]; exact e, fun a u e _ _ => by rw [upd_ne (ne_of_none e n)]; exact e, fun a e => by
      by_cases z : a = p
      · subst z; exact n
      · rw [upd_ne z] at e; exact e,
    fun a u _ q e _ _ => by rw [upd_ne (ne_of_none e n)]; exact q,
    fun a m q => by rw [upd_ne (show a ≠ p from fun z => np (by rw [← z]; exact m))]; exact q, mk_upd nt⟩
/-- a new object that stands is laid down for good -/
theorem Step.freeze {ρ : List Addr} {P1 H1 : Hp} {p : Addr} {o : HO} (s : Step ρ P H P1 H1) (n : H p = none) (np : p ∉ ρ) (n1 : P1 p = none) (e1 : H1 p = some o) (nt : NTb o) : Step ρ P H (upd P1 p o) H1 :=
  ⟨fun a u e => by
      by_cases z : a = p
      · subst z; rw [upd_same] at e; cases e; exact .inl ⟨e1, nt⟩
      · rw [upd_ne z] at e; exact s.le a u e,
    fun a u e => by
      have ne : a ≠ p := fun z => by subst z; rw [s.pp _ _ e] at n1; cases n1
      rw [upd_ne ne]; exact s.pp a u e, s.hh, s.dom,
    fun a u m q e t x => by rw [upd_ne (ne_of_none e n)]; exact s.new a u m q e t x,
    fun a m q => by rw [upd_ne (show a ≠ p from fun z => np (by rw [← z]; exact m))]; exact s.cel a m q, fun a q e => s.mrk a q (mk_upd nt a q e)⟩
/-- a tuple that stands is laid down for good -/
theorem Step.tup {ρ : List Addr} {p : Addr} {xs : List V} (l : Le P H) (np : p ∉ ρ) (e1 : H p = some (.tup xs)) : Step ρ P H (upd P p (.tup xs)) H :=
  ⟨fun a u e => by
      by_cases z : a = p
      · subst z; rw [upd_same] at e; cases e; exact .inl ⟨e1, rfl⟩
      · rw [upd_ne z] at e; exact l a u e,
    fun a u e => by
      by_cases z : a = p
      · subst z
        rw [upd_same]
        rcases l a u e with ⟨q, _⟩ | ⟨_, o, q⟩ | ⟨_, _, ps, q, _⟩
        · rw [e1] at q; exact q
        · rw [e1] at q; cases q
        · rw [e1] at q; cases q
      · rw [upd_ne z]; exact e, fun _ _ e _ _ => e, fun _ e => e,
    fun a u m q e t x => by
      have ne : a ≠ p := fun z => by subst z; rw [e1] at e; cases e; exact t _ rfl
      rw [upd_ne ne]; exact q,
    fun a m q => by rw [upd_ne (show a ≠ p from fun z => np (by rw [← z]; exact m))]; exact q, mk_upd rfl⟩

/-! ### the cells -/
structure StoOk (K : PySem.W.Frag) (G : Nat → Option (Addr × List Str)) (ρ : List Addr) (P H : Hp) (S : Sto) : Prop where
  len : ρ.length = S.length
  nd : ρ.Nodup
  at_ : ∀ (n : Nat) (d : D), S[n]? = some d → ∃ a, ρ[n]? = some a ∧ P a = none ∧ Root K G P H d a
theorem StoOk.mem {ρ : List Addr} {S : Sto} (s : StoOk K G ρ P H S) {a : Addr} (h : a ∈ ρ) : P a = none ∧ ∃ u, H a = some u ∧ Mut (some u) := by
  obtain ⟨n, hn, e⟩ := List.getElem_of_mem h
  have hS : n < S.length := by rw [← s.len]; exact hn
  obtain ⟨b, hb, pb, r⟩ := s.at_ n S[n] (List.getElem?_eq_getElem hS)
  rw [List.getElem?_eq_getElem hn] at hb
  have hb' : ρ[n] = b := Option.some.inj hb
  rw [e] at hb'
  subst hb'
  exact ⟨pb, r.there⟩
theorem StoOk.plain {ρ : List Addr} {S : Sto} (s : StoOk K G ρ P H S) {a : Addr} (h : a ∈ ρ) : Plain (H a) := by
  obtain ⟨n, hn, e⟩ := List.getElem_of_mem h
  have hS : n < S.length := by rw [← s.len]; exact hn
  obtain ⟨b, hb, pb, r⟩ := s.at_ n S[n] (List.getElem?_eq_getElem hS)
  rw [List.getElem?_eq_getElem hn] at hb
  have hb' : ρ[n] = b := Option.some.inj hb
  rw [e] at hb'
  subst hb'
  exact r.plain
theorem StoOk.new {ρ : List Addr} {S : Sto} (s : StoOk K G ρ P H S) {a : Addr} (h : H a = none) : a ∉ ρ := fun m => by
  obtain ⟨_, u, e, _⟩ := s.mem m
  rw [h] at e; cases e
theorem StoOk.inP {ρ : List Addr} {S : Sto} (s : StoOk K G ρ P H S) {a : Addr} {u : HO} (h : P a = some u) : a ∉ ρ := fun m => by
  obtain ⟨e, _⟩ := s.mem m
  rw [h] at e; cases e
/-- a step that writes no cell -/
theorem StoOk.step {ρ : List Addr} {S : Sto} (s : StoOk K G ρ P H S) (st : Step ρ P H P' H') (k : ∀ a ∈ ρ, ∀ u, H a = some u → H' a = some u) : StoOk K G ρ P' H' S :=
  ⟨s.len, s.nd, fun n d e => by
    obtain ⟨a, ha, pa, r⟩ := s.at_ n d e
    exact ⟨a, ha, st.cel a (List.mem_of_getElem? ha) pa, r.mono st.pp (k a (List.mem_of_getElem? ha))⟩⟩
theorem StoOk.alloc {ρ : List Addr} {S : Sto} {p : Addr} {o : HO} (s : StoOk K G ρ P H S) (l : Le P H) (n : H p = none) : StoOk K G ρ P (upd H p o) S :=
  s.step (Step.alloc l n) fun a m u e => by rw [upd_ne (ne_of_none e n)]; exact e
theorem StoOk.lay {ρ : List Addr} {S : Sto} {p : Addr} {o : HO} (s : StoOk K G ρ P H S) (l : Le P H) (n : H p = none) (nt : NTb o := by rfl) : StoOk K G ρ (upd P p o) (upd H p o) S :=
  s.step (Step.lay l n (s.new n) nt) fun a m u e => by rw [upd_ne (ne_of_none e n)]; exact e
theorem StoOk.freeze {ρ : List Addr} {S : Sto} {p : Addr} {o : HO} (s : StoOk K G ρ P H S) (n : p ∉ ρ) (n1 : P p = none) : StoOk K G ρ (upd P p o) H S :=
  ⟨s.len, s.nd, fun i d e => by
    obtain ⟨a, ha, pa, r⟩ := s.at_ i d e
    have ne : a ≠ p := fun z => n (z ▸ List.mem_of_getElem? ha)
    exact ⟨a, ha, by rw [upd_ne ne]; exact pa, r.mono (fun b u e => by rw [upd_ne (ne_of_none e n1)]; exact e) fun _ e => e⟩⟩

/-! ### what an expression gives -/
def RepR (K : PySem.W.Frag) (G : Nat → Option (Addr × List Str)) (H P' H' : Hp) (r : R) (v : V) : Prop :=
  if r.fr = true then ∃ a, v = .ref a ∧ H a = none ∧ P' a = none ∧ Root K G P' H' r.d a else Rep K G P' r.d v
theorem RepR.sh {P' H' : Hp} {d : D} {v : V} (h : Rep K G P' d v) : RepR K G H P' H' ⟨false, d⟩ v := h
theorem RepR.frz {ρ : List Addr} {S : Sto} {P' H' : Hp} {r : R} {v : V} (h : RepR K G H P' H' r v) (st : Step ρ P H P' H') (so : StoOk K G ρ P' H' S) (so0 : ∀ a, H a = none → a ∉ ρ) :
    ∃ P2, Step ρ P H P2 H' ∧ StoOk K G ρ P2 H' S ∧ Same P' P2 ∧ Rep K G P2 r.d v := by
  unfold RepR at h
  split at h
  · obtain ⟨a, rfl, n, n1, ro⟩ := h
    obtain ⟨u, hu, mu, rp⟩ := ro.rep n1
    exact ⟨upd P' a u, st.freeze n (so0 a n) n1 hu (ntb_mut mu), so.freeze (so0 a n) n1, fun b o e => by rw [upd_ne (ne_of_none e n1)]; exact e, rp⟩
  · exact ⟨P', st, so, Same.refl _, h⟩
end
end Pv

set_option Elab.async false
set_option linter.all false
set_option maxRecDepth 100000
namespace Pv
open PySem PySem.Spec PyProof.Rows L2

structure Cc where
  K : PySem.W.Frag
  G : Nat → Option (Addr × List Str)
  xc : Nat → Value
  ρ : List Addr
  P0 : Hp
  H0 : Hp
  E : XK

def SlOk (c : Cc) (P H : Hp) : Sl → Option (Option V) → Prop
  | .un, _ => True
  | .sh d, o => ∃ v, o = some (some v) ∧ Rep c.K c.G P d v
  | .own d, o => ∃ a, o = some (some (.ref a)) ∧ P a = none ∧ c.H0 a = none ∧ Root c.K c.G P H d a
  | .lk d, o => ∃ a od u, o = some (some (.ref a)) ∧ P a = none ∧ c.H0 a = none ∧ H a = some (.frz od u) ∧ Root c.K c.G P (upd H a u) d a
  | .ref n, o => ∃ a, o = some (some (.ref a)) ∧ c.ρ[n]? = some a
def Sl.isOwn : Sl → Bool
  | .own _ => true
  | .lk _ => true
  | _ => false
def sget (env : SEnv) (i : Nat) : Sl := env.getD i .un

structure Stt (c : Cc) (P H : Hp) (env : SEnv) (σ : L2.St) (S : Sto) : Prop where
  st : Step c.ρ c.P0 c.H0 P H
  r0 : ∀ a, c.H0 a = none → a ∉ c.ρ
  so : StoOk c.K c.G c.ρ P H S
  ln : env.length = σ.length
  sl : ∀ i : Nat, SlOk c P H (sget env i) (σ[i]?)
  dj : ∀ (i j : Nat) (a : Addr), (sget env i).isOwn = true → (sget env j).isOwn = true → σ[i]? = some (some (.ref a)) → σ[j]? = some (some (.ref a)) → i = j

section
variable {c : Cc} {P H P1 H1 : Hp} {env : SEnv} {σ : L2.St} {S S1 : Sto}
theorem Stt.le (s : Stt c P H env σ S) : Le P H := s.st.le
theorem own_kept (r0 : ∀ a, c.H0 a = none → a ∉ c.ρ) (st : Step c.ρ P H P1 H1) {a : Addr} {u : HO} (h0 : c.H0 a = none) (hp : P a = none) (hu : H a = some u) (ht : ∀ xs, u ≠ .tup xs) (hn : NTb u) : P1 a = none ∧ H1 a = some u :=
  ⟨st.new a u (r0 a h0) hp hu ht hn, st.hh a u hu (r0 a h0) hn⟩
theorem SlOk.step {s : Sl} {o : Option (Option V)} (r0 : ∀ a, c.H0 a = none → a ∉ c.ρ) (st : Step c.ρ P H P1 H1) (h : SlOk c P H s o) : SlOk c P1 H1 s o := by
  cases s with
  | un => trivial
  | sh d => obtain ⟨v, e, r⟩ := h; exact ⟨v, e, r.mono st.pp⟩
  | own d =>
    obtain ⟨a, e, hp, h0, r⟩ := h
    obtain ⟨u, hu, mu⟩ := r.there
    obtain ⟨q1, q2⟩ := own_kept r0 st h0 hp hu (fun xs z => by subst z; exact mu) (ntb_mut mu)
    exact ⟨a, e, q1, h0, r.mono st.pp fun w hw => by rw [hu] at hw; cases hw; exact q2⟩
  | lk d =>
    obtain ⟨a, od, u, e, hp, h0, hf, r⟩ := h
    obtain ⟨q1, q2⟩ := own_kept r0 st h0 hp hf (fun xs z => nomatch z) rfl
    exact ⟨a, od, u, e, q1, h0, q2, r.mono st.pp fun w hw => by rw [upd_same] at hw ⊢; exact hw⟩
  | ref n => exact h
theorem Stt.step (s : Stt c P H env σ S) (st : Step c.ρ P H P1 H1) (so : StoOk c.K c.G c.ρ P1 H1 S1) : Stt c P1 H1 env σ S1 :=
  ⟨s.st.trans st, s.r0, so, s.ln, fun i => (s.sl i).step s.r0 st, s.dj⟩
theorem Stt.new0 (s : Stt c P H env σ S) : ∀ a, H a = none → a ∉ c.ρ := fun a h => s.r0 a (s.st.dom a h)

/-! ### what is wanted of an evaluation's end -/
def ExcAt (c : Cc) (P' H' : Hp) (cl : Nat) (fs : List D) (C : Value) (d : Option Addr) : Prop :=
  C = c.xc cl ∧ (match fs with
    | [] => d = none
    | _ => ∃ dx l, d = some dx ∧ H' dx = some (.xd l) ∧ Reps c.K c.G P' fs (l.map (·.2)))
def XP (c : Cc) (P H : Hp) : Nat → List D → Sto → Prop := fun cl fs S' => ∀ C d P' H', Step c.ρ P H P' H' → StoOk c.K c.G c.ρ P' H' S' → ExcAt c P' H' cl fs C d → c.E C d H'
def QX (c : Cc) (P H : Hp) (Q : VK) : R → Sto → Prop := fun r S' => ∀ v P' H', Step c.ρ P H P' H' → StoOk c.K c.G c.ρ P' H' S' → RepR c.K c.G H P' H' r v → Q v H'
def PX (c : Cc) (P H : Hp) (Q : VK) (o : Out R) : Prop := o.post (QX c P H Q) (XP c P H)
theorem XP.step (st : Step c.ρ P H P1 H1) {cl : Nat} {fs : List D} {S' : Sto} (h : XP c P H cl fs S') : XP c P1 H1 cl fs S' := fun C d P' H' s so x => h C d P' H' (st.trans s) so x
theorem QX.step {Q : VK} (st : Step c.ρ P H P1 H1) {r : R} {S' : Sto} (h : QX c P H Q r S') : QX c P1 H1 Q r S' := fun v P' H' s so rr => h v P' H' (st.trans s) so (by
  unfold RepR at rr ⊢
  split at rr
  · rename_i hf
    rw [if_pos hf]
    obtain ⟨a, e, n, q⟩ := rr
    exact ⟨a, e, st.dom a n, q⟩
  · rename_i hf
    rw [if_neg hf]
    exact rr)
theorem PX.step {Q : VK} (st : Step c.ρ P H P1 H1) {o : Out R} (h : PX c P H Q o) : PX c P1 H1 Q o := post_mono h (fun _ _ q => q.step st) fun _ _ _ q => q.step st
/-- a value for good, nothing changed -/
theorem PX.ret {Q : VK} {d : D} {v : V} (s : Stt c P H env σ S) (h : PX c P H Q (.ok ⟨false, d⟩ S)) (r : Rep c.K c.G P d v) : Q v H := h v P H (Step.refl s.le) s.so r

/-! ### readings -/
def TEx (c : Cc) (x : Ex) : TE := fun σ H Q => ∃ P env S, Stt c P H env σ S ∧ PX c P H Q (x env S)
theorem tex_bind {x : Ex} {f : R → Sto → Out R} {Q Q' : VK} (s : Stt c P H env σ S) (h : PX c P H Q ((x env S).bind f))
    (k : ∀ r S1 v P1 H1, Step c.ρ P H P1 H1 → Stt c P1 H1 env σ S1 → Rep c.K c.G P1 r.d v → PX c P1 H1 Q (f r S1) → Q' v H1) : TEx c x σ H Q' :=
  ⟨P, env, S, s, post_mono (post_bind.mp h) (fun r S1 q v P1 H1 st so rr => by
    obtain ⟨P2, st2, so2, _, rp⟩ := rr.frz st so s.new0
    exact k r S1 v P2 H1 st2 (s.step st2 so2) rp (PX.step st2 q)) fun _ _ _ q => q⟩
/-- a test -/
def tru (d : D) : Option Bool := match d with
  | .bl b => some b
  | _ => none
def QT (c : Cc) (P H : Hp) (Q : Bool → Hp → Prop) : R → Sto → Prop := fun r S' => ∃ b, r = ⟨false, .bl b⟩ ∧ ∀ P' H', Step c.ρ P H P' H' → StoOk c.K c.G c.ρ P' H' S' → Q b H'
def TTx (c : Cc) (x : Ex) : TT := fun σ H Q => ∃ P env S, Stt c P H env σ S ∧ (x env S).post (QT c P H Q) (XP c P H)
theorem ttx_bind {α : Type} {x : Ex} {f : R → Sto → Out α} {QQ : α → Sto → Prop} {Q' : Bool → Hp → Prop} (s : Stt c P H env σ S) (h : ((x env S).bind f).post QQ (XP c P H)) (hb : ∀ r S1, (f r S1).post QQ (XP c P H) → ∃ b, r = ⟨false, .bl b⟩)
    (k : ∀ b S1 P1 H1, Step c.ρ P H P1 H1 → Stt c P1 H1 env σ S1 → (f ⟨false, .bl b⟩ S1).post QQ (XP c P H) → Q' b H1) : TTx c x σ H Q' :=
  ⟨P, env, S, s, post_mono (post_bind.mp h) (fun r S1 q => by
    obtain ⟨b, rfl⟩ := hb r S1 q
    exact ⟨b, rfl, fun P1 H1 st so => k b S1 P1 H1 st (s.step st so) q⟩) fun _ _ _ q => q⟩
end
theorem pe_imp {X : Cx} {e : Expr} {t t' : TE} (h : PE X e t) (i : ∀ σ H Q, t' σ H Q → t σ H Q) : PE X e t' := ⟨fun pins s σ H Q I w => h.run pins s σ H Q I (i σ H Q w)⟩
theorem pt_imp {X : Cx} {e : Expr} {t t' : TT} (h : PT X e t) (i : ∀ σ H Q, t' σ H Q → t σ H Q) : PT X e t' := ⟨fun pins s σ H Q I w => h.run pins s σ H Q I (i σ H Q w)⟩
theorem pw_imp {X : Cx} {e : Expr} {t t' : TT} (h : PW X e t) (i : ∀ σ H Q, t' σ H Q → t σ H Q) : PW X e t' := ⟨fun whole pins s σ H Q I w => h.run whole pins s σ H Q I (i σ H Q w)⟩
theorem pa_imp {X : Cx} {e : List Expr} {t t' : TA} (h : PA X e t) (i : ∀ σ H Q, t' σ H Q → t σ H Q) : PA X e t' := ⟨fun pos pins s σ H Q I w => h.run pos pins s σ H Q I (i σ H Q w)⟩
theorem ps_imp {X : Cx} {e : Stmt} {t t' : TS} (h : PS X e t) (i : ∀ D σ H, t' D σ H → t D σ H) : PS X e t' := ⟨fun pins s σ H D I w => h.run pins s σ H D I (i D σ H w)⟩
theorem pss_imp {X : Cx} {e : List Stmt} {t t' : TS} (h : PSs X e t) (i : ∀ D σ H, t' D σ H → t D σ H) : PSs X e t' := ⟨fun pins s σ H D I w => h.run pins s σ H D I (i D σ H w)⟩
theorem pi_imp {X : Cx} {tg e : Expr} {t t' : TI} (h : PI X tg e t) (i : ∀ σ H Q, t' σ H Q → t σ H Q) : PI X tg e t' := ⟨fun pins s σ H Q I w => h.run pins s σ H Q I (i σ H Q w)⟩

/-! ### the language: each word a function -/
def var (i : Nat) : Ex := fun env S => match sget env i with
  | .sh d => .ok ⟨false, d⟩ S
  | _ => .bad
def con (d : D) : Ex := fun _ S => .ok ⟨false, d⟩ S
def op2 (f : D → D → Option R) (x y : Ex) : Ex := fun env S => (x env S).bind fun a S => (y env S).bind fun b S => match f a.d b.d with
  | some r => .ok r S
  | none => .bad
def op1 (f : D → Option R) (x : Ex) : Ex := fun env S => (x env S).bind fun a S => match f a.d with
  | some r => .ok r S
  | none => .bad
/-- by truth, of bools -/
def andX (x y : Ex) : Ex := fun env S => (x env S).bind fun a S => match a with
  | ⟨false, .bl true⟩ => y env S
  | ⟨false, .bl false⟩ => .ok ⟨false, .bl false⟩ S
  | _ => .bad
def orX (x y : Ex) : Ex := fun env S => (x env S).bind fun a S => match a with
  | ⟨false, .bl true⟩ => .ok ⟨false, .bl true⟩ S
  | ⟨false, .bl false⟩ => y env S
  | _ => .bad
def notX (x : Ex) : Ex := fun env S => (x env S).bind fun a S => match a with
  | ⟨false, .bl b⟩ => .ok ⟨false, .bl (!b)⟩ S
  | _ => .bad
def iteX (t x y : Ex) : Ex := fun env S => (t env S).bind fun a S => match a with
  | ⟨false, .bl true⟩ => x env S
  | ⟨false, .bl false⟩ => y env S
  | _ => .bad

section
variable {X : Cx} {c : Cc} {a b : Expr} {x y z : Ex} {pos : Pos}
theorem pd_var (i : Nat) {nm : Str} (hN : X.N[i]? = some nm) (hv : Vis X.env.scope nm) (hd : (nm == ("__debug__" : Str)) = false) (hcd : (nm == ("__classdict__" : Str)) = false) : PE X (.Name nm pos) (TEx c (var i)) :=
  pe_imp (pe_var hN hv hd hcd) fun σ H Q ⟨P, env, S, s, h⟩ => by
    unfold var at h
    cases q : sget env i with
    | sh d =>
      rw [q] at h
      have sl := s.sl i
      rw [q] at sl
      obtain ⟨v, e, r⟩ := sl
      exact ⟨v, e, PX.ret s h r⟩
    | _ => rw [q] at h; exact h.elim
theorem pd_con {e : Expr} {v : V} {d : D} (he : PE X e (tC v)) (r : ∀ P, Rep c.K c.G P d v) : PE X e (TEx c (con d)) :=
  pe_imp he fun σ H Q ⟨P, env, S, s, h⟩ => PX.ret s h (r P)
/-- an operator by values -/
def rOp2 (c : Cc) (f : D → D → Option R) : R2 := fun v w H Q => ∃ P S a b r, Le P H ∧ (∀ a, H a = none → a ∉ c.ρ) ∧ StoOk c.K c.G c.ρ P H S ∧ Rep c.K c.G P a v ∧ Rep c.K c.G P b w ∧ f a b = some r ∧ QX c P H Q r S
def rOp1 (c : Cc) (f : D → Option R) : V → Hp → VK → Prop := fun v H Q => ∃ P S a r, Le P H ∧ (∀ a, H a = none → a ∉ c.ρ) ∧ StoOk c.K c.G c.ρ P H S ∧ Rep c.K c.G P a v ∧ f a = some r ∧ QX c P H Q r S
theorem op2_top {f : D → D → Option R} : ∀ σ H Q, TEx c (op2 f x y) σ H Q → tOp (rOp2 c f) (TEx c x) (TEx c y) σ H Q := fun σ H Q ⟨P, env, S, s, h⟩ =>
  tex_bind s h fun r S1 v P1 H1 st1 s1 rp1 h1 => tex_bind s1 h1 fun r2 S2 w P2 H2 st2 s2 rp2 h2 => by
    cases q : f r.d r2.d with
    | none => simp only [q] at h2; exact h2.elim
    | some r3 =>
      simp only [q] at h2
      exact ⟨P2, S2, r.d, r2.d, r3, s2.le, s2.new0, s2.so, rp1.mono st2.pp, rp2, q, h2⟩
theorem op1_top {f : D → Option R} : ∀ σ H Q, TEx c (op1 f x) σ H Q → tUn (rOp1 c f) (TEx c x) σ H Q := fun σ H Q ⟨P, env, S, s, h⟩ =>
  tex_bind s h fun r S1 v P1 H1 st1 s1 rp1 h1 => by
    cases q : f r.d with
    | none => simp only [q] at h1; exact h1.elim
    | some r3 =>
      simp only [q] at h1
      exact ⟨P1, S1, r.d, r3, s1.le, s1.new0, s1.so, rp1, q, h1⟩
theorem pd_bin {op : Operator} {f : D → D → Option R} (ho : OpR X (binaryOp op) (rOp2 c f)) (ha : PE X a (TEx c x)) (hb : PE X b (TEx c y)) : PE X (.BinOp a op b pos) (TEx c (op2 f x y)) := pe_imp (pe_op ho ha hb) op2_top
theorem pd_cmp {op : CmpOp} {f : D → D → Option R} (ho : OpR X (compareOp op) (rOp2 c f)) (ha : PE X a (TEx c x)) (hb : PE X b (TEx c y)) (hm : behindInMarks op b = false) : PE X (.Compare a [op] [b] pos) (TEx c (op2 f x y)) := pe_imp (pe_cmpR ho ha hb hm) op2_top
theorem pd_un {op : UnaryOp} {f : D → Option R} (ho : UnR X (unaryOp op) (rOp1 c f)) (ha : PE X a (TEx c x)) : PE X (.UnaryOp op a pos) (TEx c (op1 f x)) := pe_imp (pe_un ho ha) op1_top
/-- bools only -/
def boolR (f : D → D → Option R) : Prop := ∀ a b r, f a b = some r → ∃ k, r = ⟨false, .bl k⟩
theorem pq_cmp {op : CmpOp} {f : D → D → Option R} (hf : boolR f) (ho : OpR X (compareOp op) (rOp2 c f)) (ha : PE X a (TEx c x)) (hb : PE X b (TEx c y)) (hm : behindInMarks op b = false) : PT X (.Compare a [op] [b] pos) (TTx c (op2 f x y)) :=
  pt_imp (pt_cmpR ho ha hb hm) fun σ H Q ⟨P, env, S, s, h⟩ => op2_top (c := c) (f := f) σ H _ ⟨P, env, S, s, post_bind.mpr (post_mono (post_bind.mp h) (fun r S1 q => post_bind.mpr (post_mono (post_bind.mp q) (fun r2 S2 q2 => by
    cases e : f r.d r2.d with
    | none => simp only [e] at q2 ⊢; exact q2
    | some r3 =>
      simp only [e] at q2 ⊢
      obtain ⟨k, rfl⟩ := hf _ _ _ e
      intro v P' H' st so rr
      obtain ⟨b, eb, w⟩ := q2
      cases eb
      cases rr
      exact ⟨k, rfl, w P' H' st so⟩) fun _ _ _ q => q)) fun _ _ _ q => q)⟩
/-- an expression whose value is a bool, as a test -/
theorem pq_val {e : Expr} (h : PE X e (TEx c x)) (he : ∀ whole, isTrue e X.env whole = (do let v ← whole; standAt e.pos; holding [v] (truthy v))) : PT X e (TTx c x) :=
  pt_imp (pt_val h he) fun σ H Q ⟨P, env, S, s, h⟩ => ⟨P, env, S, s, post_mono h (fun r S1 q v P' H' st so rr => by
    obtain ⟨b, rfl, w⟩ := q
    cases rr
    exact ⟨b, rfl, w P' H' st so⟩) fun _ _ _ q => q⟩
end
end Pv

set_option Elab.async false
set_option linter.all false
set_option maxRecDepth 100000
namespace Pv
open PySem PySem.Spec PyProof.Rows L2

section
variable {c : Cc} {P H P1 H1 : Hp} {env : SEnv} {σ : L2.St} {S S1 : Sto}
theorem tex_bindG {α : Type} {x : Ex} {f : R → Sto → Out α} {QQ : α → Sto → Prop} {Q' : VK} (s : Stt c P H env σ S) (h : ((x env S).bind f).post QQ (XP c P H))
    (k : ∀ r S1 v P1 H1, Step c.ρ P H P1 H1 → Stt c P1 H1 env σ S1 → Rep c.K c.G P1 r.d v → (f r S1).post QQ (XP c P H) → Q' v H1) : TEx c x σ H Q' :=
  ⟨P, env, S, s, post_mono (post_bind.mp h) (fun r S1 q v P1 H1 st so rr => by
    obtain ⟨P2, st2, so2, _, rp⟩ := rr.frz st so s.new0
    exact k r S1 v P2 H1 st2 (s.step st2 so2) rp q) fun _ _ _ q => q⟩
theorem xp_step {α : Type} {o : Out α} {QQ QQ' : α → Sto → Prop} (st : Step c.ρ P H P1 H1) (h : o.post QQ (XP c P H)) (hq : ∀ a S, QQ a S → QQ' a S) : o.post QQ' (XP c P1 H1) := post_mono h hq fun _ _ _ q => q.step st
end

section
variable {X : Cx} {c : Cc} {a b e : Expr} {es : List Expr} {x y z : Ex} {pos : Pos}
/-! ### and, or, not, if .. else -/
theorem bool_eq {r : R} {b : Bool} (h : r = ⟨false, .bl b⟩) : r = ⟨false, .bl b⟩ := h
theorem and_inv {α : Type} {r : R} {g : Out R} {S1 : Sto} {QQ : R → Sto → Prop} {E : Nat → List D → Sto → Prop}
    (h : ((match r with | ⟨false, .bl true⟩ => g | ⟨false, .bl false⟩ => .ok ⟨false, .bl false⟩ S1 | _ => .bad : Out R)).post QQ E) : ∃ b, r = ⟨false, .bl b⟩ := by
  obtain ⟨fr, d⟩ := r
  cases fr with
  | true => exact h.elim
  | false =>
    cases d with
    | bl b => exact ⟨b, rfl⟩
    | _ => exact h.elim
theorem or_inv {r : R} {g : Out R} {S1 : Sto} {QQ : R → Sto → Prop} {E : Nat → List D → Sto → Prop}
    (h : ((match r with | ⟨false, .bl true⟩ => .ok ⟨false, .bl true⟩ S1 | ⟨false, .bl false⟩ => g | _ => .bad : Out R)).post QQ E) : ∃ b, r = ⟨false, .bl b⟩ := by
  obtain ⟨fr, d⟩ := r
  cases fr with
  | true => exact h.elim
  | false =>
    cases d with
    | bl b => exact ⟨b, rfl⟩
    | _ => exact h.elim
theorem not_inv {r : R} {S1 : Sto} {QQ : R → Sto → Prop} {E : Nat → List D → Sto → Prop}
    (h : ((match r with | ⟨false, .bl b⟩ => .ok ⟨false, .bl (!b)⟩ S1 | _ => .bad : Out R)).post QQ E) : ∃ b, r = ⟨false, .bl b⟩ := by
  obtain ⟨fr, d⟩ := r
  cases fr with
  | true => exact h.elim
  | false =>
    cases d with
    | bl b => exact ⟨b, rfl⟩
    | _ => exact h.elim
theorem ite_inv {α : Type} {r : R} {g g' : Out α} {QQ : α → Sto → Prop} {E : Nat → List D → Sto → Prop}
    (h : ((match r with | ⟨false, .bl true⟩ => g | ⟨false, .bl false⟩ => g' | _ => .bad : Out α)).post QQ E) : ∃ b, r = ⟨false, .bl b⟩ := by
  obtain ⟨fr, d⟩ := r
  cases fr with
  | true => exact h.elim
  | false =>
    cases d with
    | bl b => exact ⟨b, rfl⟩
    | _ => exact h.elim
theorem qt_step {P H P1 H1 : Hp} {Q : Bool → Hp → Prop} {r : R} {S : Sto} (st : Step c.ρ P H P1 H1) (h : QT c P H Q r S) : QT c P1 H1 Q r S := by
  obtain ⟨b, e, w⟩ := h
  exact ⟨b, e, fun P' H' s so => w P' H' (st.trans s) so⟩
theorem pw1_and (ha : PT X a (TTx c x)) : PW X (.BoolOp .And [a] pos) (TTx c x) := pw_and1 ha
theorem pw1_or (ha : PT X a (TTx c x)) : PW X (.BoolOp .Or [a] pos) (TTx c x) := pw_or1 ha
theorem pww_and {rest : List Expr} (ha : PT X a (TTx c x)) (hb : PW X (.BoolOp .And (b :: rest) pos) (TTx c y)) : PW X (.BoolOp .And (a :: b :: rest) pos) (TTx c (andX x y)) :=
  pw_imp (pw_and ha hb) fun σ H Q ⟨P, env, S, s, h⟩ => ttx_bind s h (fun r S1 q => and_inv (α := Unit) q) fun k S1 P1 H1 st1 s1 q => by
    cases k with
    | true => exact ⟨P1, env, S1, s1, xp_step st1 q fun _ _ w => qt_step st1 w⟩
    | false =>
      obtain ⟨k, ek, w⟩ := q
      cases ek
      exact w P1 H1 st1 s1.so
theorem pww_or {rest : List Expr} (ha : PT X a (TTx c x)) (hb : PW X (.BoolOp .Or (b :: rest) pos) (TTx c y)) : PW X (.BoolOp .Or (a :: b :: rest) pos) (TTx c (orX x y)) :=
  pw_imp (pw_or ha hb) fun σ H Q ⟨P, env, S, s, h⟩ => ttx_bind s h (fun r S1 q => or_inv q) fun k S1 P1 H1 st1 s1 q => by
    cases k with
    | false => exact ⟨P1, env, S1, s1, xp_step st1 q fun _ _ w => qt_step st1 w⟩
    | true =>
      obtain ⟨k, ek, w⟩ := q
      cases ek
      exact w P1 H1 st1 s1.so
theorem pq_not (ha : PT X a (TTx c x)) : PT X (.UnaryOp .Not a pos) (TTx c (notX x)) :=
  pt_imp (pt_not ha) fun σ H Q ⟨P, env, S, s, h⟩ => ttx_bind s h (fun r S1 q => not_inv q) fun k S1 P1 H1 st1 s1 q => by
    obtain ⟨k', ek, w⟩ := q
    cases ek
    exact w P1 H1 st1 s1.so
/-- .. as values -/
theorem pd_one {op} (h : PE X a (TEx c x)) : PE X (.BoolOp op [a] pos) (TEx c x) := pe_one h
theorem pd_and {rest : List Expr} (ha : PE X a (TEx c x)) (hb : PE X (.BoolOp .And (b :: rest) pos) (TEx c y)) : PE X (.BoolOp .And (a :: b :: rest) pos) (TEx c (andX x y)) :=
  pe_imp (pe_and ha hb) fun σ H Q ⟨P, env, S, s, h⟩ => tex_bind s h fun r S1 v P1 H1 st1 s1 rp q => by
    obtain ⟨k, rfl⟩ := and_inv (α := Unit) q
    cases rp
    refine ⟨k, rfl, ?_⟩
    cases k with
    | true => exact iteT ⟨P1, env, S1, s1, q⟩
    | false => exact iteF (PX.ret s1 q (.bl false))
theorem pd_or {rest : List Expr} (ha : PE X a (TEx c x)) (hb : PE X (.BoolOp .Or (b :: rest) pos) (TEx c y)) : PE X (.BoolOp .Or (a :: b :: rest) pos) (TEx c (orX x y)) :=
  pe_imp (pe_or ha hb) fun σ H Q ⟨P, env, S, s, h⟩ => tex_bind s h fun r S1 v P1 H1 st1 s1 rp q => by
    obtain ⟨k, rfl⟩ := or_inv q
    cases rp
    refine ⟨k, rfl, ?_⟩
    cases k with
    | true => exact iteT (PX.ret s1 q (.bl true))
    | false => exact iteF ⟨P1, env, S1, s1, q⟩
theorem pd_not (ha : PE X a (TEx c x)) : PE X (.UnaryOp .Not a pos) (TEx c (notX x)) :=
  pe_imp (pe_not ha) fun σ H Q ⟨P, env, S, s, h⟩ => tex_bind s h fun r S1 v P1 H1 st1 s1 rp q => by
    obtain ⟨k, rfl⟩ := not_inv q
    cases rp
    exact ⟨k, rfl, PX.ret s1 q (.bl _)⟩
theorem pd_ite {t : Expr} (ht : PT X t (TTx c z)) (ha : PE X a (TEx c x)) (hb : PE X b (TEx c y)) : PE X (.IfExp t a b pos) (TEx c (iteX z x y)) :=
  pe_imp (pe_ifExp ht ha hb) fun σ H Q ⟨P, env, S, s, h⟩ => ttx_bind s h (fun r S1 q => ite_inv q) fun k S1 P1 H1 st1 s1 q => by
    cases k with
    | true => exact iteT ⟨P1, env, S1, s1, xp_step st1 q fun _ _ w => QX.step st1 w⟩
    | false => exact iteF ⟨P1, env, S1, s1, xp_step st1 q fun _ _ w => QX.step st1 w⟩
/-- a < b < c -/
def chain (f g : D → D → Option R) (x y z : Ex) : Ex := fun env S => (x env S).bind fun a S => (y env S).bind fun b S => match f a.d b.d with
  | some ⟨false, .bl true⟩ => (z env S).bind fun e S => match g b.d e.d with
    | some r => .ok r S
    | none => .bad
  | some ⟨false, .bl false⟩ => .ok ⟨false, .bl false⟩ S
  | _ => .bad
theorem chain_inv {o : Option R} {g g' : Out R} {QQ : R → Sto → Prop} {E : Nat → List D → Sto → Prop}
    (h : ((match o with | some ⟨false, .bl true⟩ => g | some ⟨false, .bl false⟩ => g' | _ => .bad : Out R)).post QQ E) : ∃ b, o = some ⟨false, .bl b⟩ := by
  cases o with
  | none => exact h.elim
  | some r =>
    obtain ⟨fr, d⟩ := r
    cases fr with
    | true => exact h.elim
    | false =>
      cases d with
      | bl b => exact ⟨b, rfl⟩
      | _ => exact h.elim
theorem pd_chain {op op' : CmpOp} {f g : D → D → Option R} {t : Expr} (hf : OpR X (compareOp op) (rOp2 c f)) (hg : OpR X (compareOp op') (rOp2 c g)) (ha : PE X a (TEx c x)) (hb : PE X b (TEx c y)) (ht : PE X t (TEx c z))
    (hm : lastMarks [op, op'] [b, t] = false) : PE X (.Compare a [op, op'] [b, t] pos) (TEx c (chain f g x y z)) := by
  refine pe_imp (pe_chain hf hg ha hb ht hm) fun σ H Q ⟨P, env, S, s, h⟩ => ?_
  refine tex_bind s h fun r S1 v P1 H1 st1 s1 rp1 h1 => tex_bind s1 h1 fun r2 S2 w P2 H2 st2 s2 rp2 h2 => ?_
  obtain ⟨k, ek⟩ := chain_inv h2
  refine ⟨P2, S2, r.d, r2.d, _, s2.le, s2.new0, s2.so, rp1.mono st2.pp, rp2, ek, fun v3 P3 H3 st3 so3 rr => ?_⟩
  cases rr
  refine ⟨k, rfl, ?_⟩
  rw [ek] at h2
  have s3 := s2.step st3 so3
  cases k with
  | false => exact iteF (PX.ret s3 (PX.step st3 h2) (.bl false))
  | true =>
    refine iteT (tex_bind s3 (PX.step st3 h2) fun r4 S4 v4 P4 H4 st4 s4 rp4 h4 => ?_)
    cases q : g r2.d r4.d with
    | none => simp only [q] at h4; exact h4.elim
    | some r5 =>
      simp only [q] at h4
      exact ⟨P4, S4, r2.d, r4.d, r5, s4.le, s4.new0, s4.so, rp2.mono (st3.pp.trans st4.pp), rp4, q, h4⟩
theorem pq_chain {op op' : CmpOp} {f g : D → D → Option R} {t : Expr} (hgb : boolR g) (hf : OpR X (compareOp op) (rOp2 c f)) (hg : OpR X (compareOp op') (rOp2 c g)) (ha : PE X a (TEx c x)) (hb : PE X b (TEx c y)) (ht : PE X t (TEx c z))
    (hm : lastMarks [op, op'] [b, t] = false) : PT X (.Compare a [op, op'] [b, t] pos) (TTx c (chain f g x y z)) := by
  refine pt_imp (pt_chain hf hg ha hb ht hm) fun σ H Q ⟨P, env, S, s, h⟩ => ?_
  refine tex_bindG s h fun r S1 v P1 H1 st1 s1 rp1 h1 => tex_bindG s1 (xp_step st1 h1 fun _ _ w => qt_step st1 w) fun r2 S2 w P2 H2 st2 s2 rp2 h2 => ?_
  obtain ⟨k, ek⟩ := chain_inv h2
  refine ⟨P2, S2, r.d, r2.d, _, s2.le, s2.new0, s2.so, rp1.mono st2.pp, rp2, ek, fun v3 P3 H3 st3 so3 rr => ?_⟩
  cases rr
  refine ⟨k, rfl, ?_⟩
  rw [ek] at h2
  have s3 := s2.step st3 so3
  cases k with
  | false =>
    obtain ⟨b, eb, w⟩ := h2
    cases eb
    exact iteF ⟨false, rfl, w P3 H3 (st2.trans st3) so3⟩
  | true =>
    refine iteT (tex_bindG s3 (xp_step (st2.trans st3) h2 fun _ _ w => qt_step (st2.trans st3) w) fun r4 S4 v4 P4 H4 st4 s4 rp4 h4 => ?_)
    cases q : g r2.d r4.d with
    | none => simp only [q] at h4; exact h4.elim
    | some r5 =>
      simp only [q] at h4
      obtain ⟨k2, rfl⟩ := hgb _ _ _ q
      obtain ⟨b, eb, w⟩ := h4
      cases eb
      refine ⟨P4, S4, r2.d, r4.d, _, s4.le, s4.new0, s4.so, rp2.mono (st3.pp.trans st4.pp), rp4, q, fun v5 P5 H5 st5 so5 rr => ?_⟩
      cases rr
      exact ⟨k2, rfl, w P5 H5 (st4.trans st5) so5⟩

/-! ### items of a display, of a built-in's call -/
abbrev Lx := SEnv → Sto → Out (List D)
def lnil : Lx := fun _ S => .ok [] S
def lcons (x : Ex) (l : Lx) : Lx := fun env S => (x env S).bind fun a S => (l env S).bind fun ds S => .ok (a.d :: ds) S
def seqD : D → Option (List D)
  | .tup l => some l
  | .lst l => some l
  | .rt l => some l
  | _ => none
def lstar (x : Ex) (l : Lx) : Lx := fun env S => (x env S).bind fun a S => match seqD a.d with
  | some l0 => (l env S).bind fun ds S => .ok (l0 ++ ds) S
  | none => .bad
def QL (c : Cc) (P H : Hp) (Q : List V → Hp → Prop) : List D → Sto → Prop := fun ds S' => ∀ vs P' H', Step c.ρ P H P' H' → StoOk c.K c.G c.ρ P' H' S' → Reps c.K c.G P' ds vs → Q vs H'
theorem ql_step {P H P1 H1 : Hp} {Q : List V → Hp → Prop} {r : List D} {S : Sto} (st : Step c.ρ P H P1 H1) (h : QL c P H Q r S) : QL c P1 H1 Q r S := fun vs P' H' s so => h vs P' H' (st.trans s) so
def TLx (c : Cc) (l : Lx) : TA := fun σ H Q => ∃ P env S, Stt c P H env σ S ∧ (l env S).post (QL c P H Q) (XP c P H)
theorem tlx_bind {α : Type} {P H : Hp} {env : SEnv} {σ : L2.St} {S : Sto} {l : Lx} {f : List D → Sto → Out α} {QQ : α → Sto → Prop} {Q' : List V → Hp → Prop} (s : Stt c P H env σ S) (h : ((l env S).bind f).post QQ (XP c P H))
    (k : ∀ r S1 v P1 H1, Step c.ρ P H P1 H1 → Stt c P1 H1 env σ S1 → Reps c.K c.G P1 r v → (f r S1).post QQ (XP c P H) → Q' v H1) : TLx c l σ H Q' :=
  ⟨P, env, S, s, post_mono (post_bind.mp h) (fun r S1 q v P1 H1 st so rr => k r S1 v P1 H1 st (s.step st so) rr q) fun _ _ _ q => q⟩
theorem pl_nil : PA X [] (TLx c lnil) := pa_imp pa_nil fun σ H Q ⟨P, env, S, s, h⟩ => h [] P H (Step.refl s.le) s.so .nil
theorem pl_cons {l : Lx} (ha : PE X e (TEx c x)) (hr : PA X es (TLx c l)) (hs : starEach (e :: es) X.env = (false, eval e X.env) :: starEach es X.env) : PA X (e :: es) (TLx c (lcons x l)) :=
  pa_imp (pa_cons ha hr hs) fun σ H Q ⟨P, env, S, s, h⟩ => tex_bindG s h fun r S1 v P1 H1 st1 s1 rp1 h1 => tlx_bind s1 (xp_step st1 h1 fun _ _ w => ql_step st1 w) fun ds S2 vs P2 H2 st2 s2 rp2 h2 =>
    h2 (v :: vs) P2 H2 st2 s2.so (.cons (rp1.mono st2.pp) rp2)
theorem seqD_rep {d : D} {l : List D} {K : PySem.W.Frag} {G : Nat → Option (Addr × List Str)} {P H : Hp} {v : V} (e : seqD d = some l) (r : Rep K G P d v) (le : Le P H) : ∃ p xs, v = V.ref p ∧ (SqT K H p xs ∨ SqL K H p xs) ∧ Reps K G P l xs := by
  cases r with
  | tup h r => cases e; exact ⟨_, _, rfl, .inl (.inl (.inl (le.tup h))), r⟩
  | rt h r => cases e; exact ⟨_, _, rfl, .inl (le.sqT h), r⟩
  | lst h r => cases e; exact ⟨_, _, rfl, .inr (.inl (.inl (le.lst h))), r⟩
  | _ => cases e
theorem pl_star {l : Lx} {p : Pos} (hK : X.K = c.K) (ha : PE X e (TEx c x)) (hr : PA X es (TLx c l)) : PA X (.Starred e p :: es) (TLx c (lstar x l)) :=
  pa_imp (StX.pa_star ha hr) fun σ H Q ⟨P, env, S, s, h⟩ => tex_bindG s h fun r S1 v P1 H1 st1 s1 rp1 h1 => by
    cases q : seqD r.d with
    | none => simp only [q] at h1; exact h1.elim
    | some l0 =>
      simp only [q] at h1
      obtain ⟨p, xs, e1, sq, rx⟩ := seqD_rep q rp1 s1.le
      refine ⟨p, xs, e1, by rw [hK]; exact sq, tlx_bind s1 (xp_step st1 h1 fun _ _ w => ql_step st1 w) fun ds S2 vs P2 H2 st2 s2 rp2 h2 => ?_⟩
      exact h2 (xs ++ vs) P2 H2 st2 s2.so ((rx.mono st2.pp).append rp2)
def line : Nat := 16777216
theorem line_eq : line = sizeLine := by rw [sizeLine_eq]; rfl
def tupX (l : Lx) : Ex := fun env S => (l env S).bind fun ds S => if ds.length ≤ line then .ok ⟨false, .tup ds⟩ S else .bad
def lstX (l : Lx) : Ex := fun env S => (l env S).bind fun ds S => if ds.length ≤ line then .ok ⟨true, .lst ds⟩ S else .bad
theorem px_tup {P H : Hp} {env : SEnv} {σ : L2.St} {S : Sto} {Q : VK} {ds : List D} {vs : List V} (s : Stt c P H env σ S) (r : Reps c.K c.G P ds vs) (h : PX c P H Q (.ok ⟨false, .tup ds⟩ S)) : ∀ p, H p = none → Q (.ref p) (upd H p (.tup vs)) := fun p n =>
  h (.ref p) (upd P p (.tup vs)) _ (Step.lay s.le n (s.new0 p n)) (s.so.lay s.le n) (RepR.sh (.tup upd_same (r.mono fun b o e => by rw [upd_ne (ne_of_none e (s.le.none n))]; exact e)))
theorem px_lst {P H : Hp} {env : SEnv} {σ : L2.St} {S : Sto} {Q : VK} {ds : List D} {vs : List V} (s : Stt c P H env σ S) (r : Reps c.K c.G P ds vs) (h : PX c P H Q (.ok ⟨true, .lst ds⟩ S)) : ∀ p, H p = none → Q (.ref p) (upd H p (.lst vs)) := fun p n =>
  h (.ref p) P _ (Step.alloc s.le n) (s.so.alloc s.le n) (by unfold RepR; rw [if_pos rfl]; exact ⟨p, rfl, n, s.le.none n, .lst upd_same r⟩)
theorem pd_tup {l : Lx} {k : Nat} (h : PA X es (TLx c l)) : PE X (.Tuple es k pos) (TEx c (tupX l)) :=
  pe_imp (pe_tup h) fun σ H Q ⟨P, env, S, s, h⟩ => tlx_bind s h fun ds S1 vs P1 H1 st1 s1 rp h1 => by
    by_cases hl : ds.length ≤ line
    · rw [if_pos hl] at h1
      exact ⟨by rw [← rp.length, ← line_eq]; exact hl, px_tup s1 rp (QX.step st1 h1)⟩
    · rw [if_neg hl] at h1; exact h1.elim
theorem pd_lst {l : Lx} (h : PA X es (TLx c l)) : PE X (.List es pos) (TEx c (lstX l)) :=
  pe_imp (pe_lst h) fun σ H Q ⟨P, env, S, s, h⟩ => tlx_bind s h fun ds S1 vs P1 H1 st1 s1 rp h1 => by
    by_cases hl : ds.length ≤ line
    · rw [if_pos hl] at h1
      exact ⟨by rw [← rp.length, ← line_eq]; exact hl, px_lst s1 rp (QX.step st1 h1)⟩
    · rw [if_neg hl] at h1; exact h1.elim
/-- a built-in's call by values -/
def biX (f : List D → Option R) (l : Lx) : Ex := fun env S => (l env S).bind fun ds S => match f ds with
  | some r => .ok r S
  | none => .bad
def rBi (c : Cc) (f : List D → Option R) : List V → Hp → VK → Prop := fun vs H Q => ∃ P S ds r, Le P H ∧ (∀ a, H a = none → a ∉ c.ρ) ∧ StoOk c.K c.G c.ρ P H S ∧ Reps c.K c.G P ds vs ∧ f ds = some r ∧ QX c P H Q r S
theorem bi_top {f : List D → Option R} {l : Lx} : ∀ σ H Q, TEx c (biX f l) σ H Q → tCB (rBi c f) (TLx c l) σ H Q := fun σ H Q ⟨P, env, S, s, h⟩ =>
  tlx_bind s h fun ds S1 vs P1 H1 st1 s1 rp h1 => by
    cases q : f ds with
    | none => simp only [q] at h1; exact h1.elim
    | some r3 =>
      simp only [q] at h1
      exact ⟨P1, S1, ds, r3, s1.le, s1.new0, s1.so, rp, q, QX.step st1 h1⟩
end
end Pv

set_option Elab.async false
set_option linter.all false
set_option maxRecDepth 100000
namespace Pv
open PySem PySem.Spec PyProof.Rows L2

/-! ### arguments, calls -/
def ArgOk (K : PySem.W.Frag) (G : Nat → Option (Addr × List Str)) (ρ : List Addr) (P : Hp) : Arg → V → Prop
  | .sh d, v => Rep K G P d v
  | .ref n, v => ∃ a, v = .ref a ∧ ρ[n]? = some a
abbrev ArgsOk (K : PySem.W.Frag) (G : Nat → Option (Addr × List Str)) (ρ : List Addr) (P : Hp) : List Arg → List V → Prop := Paired (ArgOk K G ρ P)
theorem ArgOk.mono {K : PySem.W.Frag} {G : Nat → Option (Addr × List Str)} {ρ : List Addr} {P P' : Hp} (e : Same P P') : ∀ {a : Arg} {v : V}, ArgOk K G ρ P a v → ArgOk K G ρ P' a v
  | .sh _, _, h => Rep.mono e h
  | .ref _, _, h => h
def anil : Ax := fun _ S => .ok [] S
def aval (x : Ex) (l : Ax) : Ax := fun env S => (x env S).bind fun a S => (l env S).bind fun as S => .ok (.sh a.d :: as) S
def aname (i : Nat) (l : Ax) : Ax := fun env S => match sget env i with
  | .sh d => (l env S).bind fun as S => .ok (.sh d :: as) S
  | .ref n => (l env S).bind fun as S => .ok (.ref n :: as) S
  | _ => .bad
def callX (cf : Nat → List Arg → Sto → Out R) (f : Nat) (l : Ax) : Ex := fun env S => (l env S).bind fun as S => cf f as S
def QA (c : Cc) (P H : Hp) (Q : List V → Hp → Prop) : List Arg → Sto → Prop := fun as S' => ∀ vs P' H', Step c.ρ P H P' H' → StoOk c.K c.G c.ρ P' H' S' → ArgsOk c.K c.G c.ρ P' as vs → Q vs H'
theorem qa_step {c : Cc} {P H P1 H1 : Hp} {Q : List V → Hp → Prop} {r : List Arg} {S : Sto} (st : Step c.ρ P H P1 H1) (h : QA c P H Q r S) : QA c P1 H1 Q r S := fun vs P' H' s so => h vs P' H' (st.trans s) so
def TAx (c : Cc) (l : Ax) : TA := fun σ H Q => ∃ P env S, Stt c P H env σ S ∧ (l env S).post (QA c P H Q) (XP c P H)
/-- a def's promise: it gives what cf says -/
def spF (K : PySem.W.Frag) (G : Nat → Option (Addr × List Str)) (xc : Nat → Value) (n : Nat) (cf : List Arg → Sto → Out R) : Sp := fun vs H Q E => ∃ ρ P S as, Le P H ∧ StoOk K G ρ P H S ∧ ArgsOk K G ρ P as vs ∧ vs.length = n ∧ PX ⟨K, G, xc, ρ, P, H, E⟩ P H Q (cf as S)

section
variable {X : Cx} {c : Cc} {a b e : Expr} {es : List Expr} {x y z : Ex} {pos : Pos} {P H P1 H1 : Hp} {env : SEnv} {σ : L2.St} {S S1 : Sto}
theorem tax_bind {α : Type} {l : Ax} {f : List Arg → Sto → Out α} {QQ : α → Sto → Prop} {Q' : List V → Hp → Prop} (s : Stt c P H env σ S) (h : ((l env S).bind f).post QQ (XP c P H))
    (k : ∀ r S1 v P1 H1, Step c.ρ P H P1 H1 → Stt c P1 H1 env σ S1 → ArgsOk c.K c.G c.ρ P1 r v → (f r S1).post QQ (XP c P H) → Q' v H1) : TAx c l σ H Q' :=
  ⟨P, env, S, s, post_mono (post_bind.mp h) (fun r S1 q v P1 H1 st so rr => k r S1 v P1 H1 st (s.step st so) rr q) fun _ _ _ q => q⟩
theorem px_nil : PA X [] (TAx c anil) := pa_imp pa_nil fun σ H Q ⟨P, env, S, s, h⟩ => h [] P H (Step.refl s.le) s.so .nil
theorem px_val {l : Ax} (ha : PE X e (TEx c x)) (hr : PA X es (TAx c l)) (hs : starEach (e :: es) X.env = (false, eval e X.env) :: starEach es X.env) : PA X (e :: es) (TAx c (aval x l)) :=
  pa_imp (pa_cons ha hr hs) fun σ H Q ⟨P, env, S, s, h⟩ => tex_bindG s h fun r S1 v P1 H1 st1 s1 rp1 h1 => tax_bind s1 (xp_step st1 h1 fun _ _ w => qa_step st1 w) fun ds S2 vs P2 H2 st2 s2 rp2 h2 =>
    h2 (v :: vs) P2 H2 st2 s2.so (.cons (show ArgOk _ _ _ _ (.sh r.d) v from rp1.mono st2.pp) rp2)
theorem px_name {l : Ax} (i : Nat) {nm : Str} {p : Pos} (hN : X.N[i]? = some nm) (hv : Vis X.env.scope nm) (hd : (nm == ("__debug__" : Str)) = false) (hcd : (nm == ("__classdict__" : Str)) = false) (hr : PA X es (TAx c l)) : PA X (.Name nm p :: es) (TAx c (aname i l)) :=
  pa_imp (pa_cons (pe_var hN hv hd hcd) hr (by rfl)) fun σ H Q ⟨P, env, S, s, h⟩ => by
    unfold aname at h
    have sl := s.sl i
    cases q : sget env i with
    | sh d =>
      rw [q] at h sl
      obtain ⟨v, e, r⟩ := sl
      exact ⟨v, e, tax_bind s h fun ds S2 vs P2 H2 st2 s2 rp2 h2 => h2 (v :: vs) P2 H2 st2 s2.so (.cons (show ArgOk _ _ _ _ (.sh d) v from r.mono st2.pp) rp2)⟩
    | ref n =>
      rw [q] at h sl
      obtain ⟨a, e, r⟩ := sl
      exact ⟨.ref a, e, tax_bind s h fun ds S2 vs P2 H2 st2 s2 rp2 h2 => h2 (.ref a :: vs) P2 H2 st2 s2.so (.cons (show ArgOk _ _ _ _ (.ref n) (.ref a) from ⟨a, rfl, r⟩) rp2)⟩
    | _ => rw [q] at h; exact h.elim
theorem call_top {cf : Nat → List Arg → Sto → Out R} {f n : Nat} {l : Ax} (hl : ∀ P H env σ S as S1, Stt c P H env σ S → l env S = .ok as S1 → as.length = n) : ∀ σ H Q, TEx c (callX cf f l) σ H Q → tCall (spF c.K c.G c.xc n (cf f)) [] c.E (TAx c l) σ H Q := fun σ H Q ⟨P, env, S, s, h⟩ => by
  have hlen : (l env S).post (fun as _ => as.length = n) fun _ _ _ => True := by
    cases q : l env S with
    | ok as S1 => exact hl _ _ _ _ _ _ _ s q
    | exc _ _ _ => trivial
    | bad => unfold PX callX at h; rw [q] at h; exact h.elim
  refine ⟨P, env, S, s, ?_⟩
  have h2 := post_bind.mp (show ((l env S).bind fun as S => cf f as S).post (QX c P H Q) (XP c P H) from h)
  cases q : l env S with
  | ok as S1 =>
    rw [q] at h2 hlen
    intro vs P1 H1 st so rr
    refine ⟨c.ρ, P1, S1, as, st.le, so, by rw [List.append_nil]; exact rr, by rw [List.append_nil, ← Paired.length rr]; exact hlen, ?_⟩
    exact PX.step (c := c) st (show PX c P H Q (cf f as S1) from h2)
  | exc cl fs S1 => rw [q] at h2; exact h2
  | bad => rw [q] at h2; exact h2.elim

/-! ### statements -/
def QF (c : Cc) (P : Hp) (D : Ends) : Fl → Sto → Prop := fun fl S' => match fl with
  | .nx env' => ∀ P' H' σ', Same P P' → Stt c P' H' env' σ' S' → D.nx σ' H'
  | .ret r => ∀ v P' H', Step c.ρ c.P0 c.H0 P' H' → StoOk c.K c.G c.ρ P' H' S' → RepR c.K c.G c.H0 P' H' r v → D.rt v H'
def PF (c : Cc) (P : Hp) (D : Ends) (o : Out Fl) : Prop := o.post (QF c P D) (XP c c.P0 c.H0)
theorem QF.step {D : Ends} {fl : Fl} {S' : Sto} (e : Same P P1) (h : QF c P D fl S') : QF c P1 D fl S' := by
  cases fl with
  | nx env' => exact fun P' H' σ' s st => h P' H' σ' (e.trans s) st
  | ret r => exact h
theorem PF.step {D : Ends} {o : Out Fl} (e : Same P P1) (h : PF c P D o) : PF c P1 D o := post_mono h (fun _ _ q => q.step e) fun _ _ _ q => q
def TSx (c : Cc) (b : Sx) : TS := fun D σ H => ∃ P env S, Stt c P H env σ S ∧ PF c P D (b env S)
def skip : Sx := fun env S => .ok (.nx env) S
def seqS (a b : Sx) : Sx := fun env S => (a env S).bind fun fl S => match fl with
  | .nx env' => b env' S
  | .ret r => .ok (.ret r) S
theorem sx_nil : PSs X [] (TSx c skip) := pss_imp pss_nil fun D σ H ⟨P, env, S, s, h⟩ => h P H σ (Same.refl P) s
theorem sx_one {st : Stmt} {a : Sx} (h : PS X st (TSx c a)) : PSs X [st] (TSx c a) := pss_one h
theorem sx_cons {st : Stmt} {rest : List Stmt} {a b : Sx} (h1 : PS X st (TSx c a)) (h2 : PSs X rest (TSx c b)) : PSs X (st :: rest) (TSx c (seqS a b)) :=
  pss_imp (pss_cons h1 h2) fun D σ H ⟨P, env, S, s, h⟩ => ⟨P, env, S, s, post_mono (post_bind.mp h) (fun fl S1 q => by
    cases fl with
    | nx env' => exact fun P' H' σ' e s' => ⟨P', env', S1, s', PF.step e q⟩
    | ret r => exact q) fun _ _ _ q => q⟩
/-- an expression within a statement -/
theorem te_in {α : Type} {f : R → Sto → Out α} {QQ : α → Sto → Prop} {Q' : VK} (s : Stt c P H env σ S) (h : ((x env S).bind f).post QQ (XP c c.P0 c.H0))
    (k : ∀ r S1 v P1 H1, Step c.ρ P H P1 H1 → Stt c P1 H1 env σ S1 → Rep c.K c.G P1 r.d v → (f r S1).post QQ (XP c c.P0 c.H0) → Q' v H1) : TEx c x σ H Q' :=
  ⟨P, env, S, s, post_mono (post_bind.mp h) (fun r S1 q v P1 H1 st so rr => by
    obtain ⟨P2, st2, so2, _, rp⟩ := rr.frz st so s.new0
    exact k r S1 v P2 H1 st2 (s.step st2 so2) rp q) fun _ _ _ q => q.step s.st⟩
theorem tt_in {α : Type} {f : R → Sto → Out α} {QQ : α → Sto → Prop} {Q' : Bool → Hp → Prop} (s : Stt c P H env σ S) (h : ((x env S).bind f).post QQ (XP c c.P0 c.H0)) (hb : ∀ r S1, (f r S1).post QQ (XP c c.P0 c.H0) → ∃ b, r = ⟨false, .bl b⟩)
    (k : ∀ b S1 P1 H1, Step c.ρ P H P1 H1 → Stt c P1 H1 env σ S1 → (f ⟨false, .bl b⟩ S1).post QQ (XP c c.P0 c.H0) → Q' b H1) : TTx c x σ H Q' :=
  ⟨P, env, S, s, post_mono (post_bind.mp h) (fun r S1 q => by
    obtain ⟨b, rfl⟩ := hb r S1 q
    exact ⟨b, rfl, fun P1 H1 st so => k b S1 P1 H1 st (s.step st so) q⟩) fun _ _ _ q => q.step s.st⟩

theorem sget_set_self {i : Nat} {s : Sl} (h : i < env.length) : sget (env.set i s) i = s := by
  unfold sget
  rw [List.getD_eq_getElem?_getD, List.getElem?_set_self h]
  rfl
theorem sget_set_ne {i j : Nat} {s : Sl} (h : i ≠ j) : sget (env.set i s) j = sget env j := by
  unfold sget
  rw [List.getD_eq_getElem?_getD, List.getD_eq_getElem?_getD, List.getElem?_set_ne h]
/-- a slot takes a value -/
theorem Stt.setG {i : Nat} {s' : Sl} {v : V} (s : Stt c P H env σ S) (ok : SlOk c P H s' (some (some v))) (dj : s'.isOwn = true → ∀ j a, j ≠ i → v = .ref a → (sget env j).isOwn = true → σ[j]? ≠ some (some (.ref a))) :
    Stt c P H (env.set i s') (σ.set i (some v)) S := by
  by_cases hi : i < env.length
  · have hs : i < σ.length := by rw [← s.ln]; exact hi
    refine ⟨s.st, s.r0, s.so, by rw [List.length_set, List.length_set]; exact s.ln, fun j => ?_, fun j k a e1 e2 e3 e4 => ?_⟩
    · by_cases hj : i = j
      · subst hj
        rw [sget_set_self hi, List.getElem?_set_self hs]
        exact ok
      · rw [sget_set_ne hj, List.getElem?_set_ne hj]
        exact s.sl j
    · by_cases hj : i = j
      · by_cases hk : i = k
        · exact hj.symm.trans hk
        · subst hj
          rw [sget_set_self hi] at e1
          rw [sget_set_ne hk] at e2
          rw [List.getElem?_set_self hs] at e3
          rw [List.getElem?_set_ne hk] at e4
          exact absurd e4 (dj e1 k a (Ne.symm hk) (Option.some.inj (Option.some.inj e3)) e2)
      · by_cases hk : i = k
        · subst hk
          rw [sget_set_self hi] at e2
          rw [sget_set_ne hj] at e1
          rw [List.getElem?_set_self hs] at e4
          rw [List.getElem?_set_ne hj] at e3
          exact absurd e3 (dj e2 j a (Ne.symm hj) (Option.some.inj (Option.some.inj e4)) e1)
        · rw [sget_set_ne hj] at e1
          rw [sget_set_ne hk] at e2
          rw [List.getElem?_set_ne hj] at e3
          rw [List.getElem?_set_ne hk] at e4
          exact s.dj j k a e1 e2 e3 e4
  · rw [List.set_eq_of_length_le (by omega), List.set_eq_of_length_le (by rw [← s.ln]; omega)]
    exact s
theorem Stt.set {i : Nat} {d : D} {v : V} (s : Stt c P H env σ S) (r : Rep c.K c.G P d v) : Stt c P H (env.set i (.sh d)) (σ.set i (some v)) S :=
  s.setG ⟨v, rfl, r⟩ fun h => by cases h
/-- where the own ones lie -/
theorem Stt.ownAt (s : Stt c P H env σ S) {j : Nat} {a : Addr} (h : (sget env j).isOwn = true) (e : σ[j]? = some (some (.ref a))) : P a = none ∧ c.H0 a = none ∧ ∃ u, H a = some u := by
  have sl := s.sl j
  cases q : sget env j with
  | own d =>
    rw [q] at sl
    obtain ⟨b, e2, hp, h0, r⟩ := sl
    rw [e] at e2; cases e2
    obtain ⟨u, hu, _⟩ := r.there
    exact ⟨hp, h0, u, hu⟩
  | lk d =>
    rw [q] at sl
    obtain ⟨b, od, u, e2, hp, h0, hf, r⟩ := sl
    rw [e] at e2; cases e2
    exact ⟨hp, h0, _, hf⟩
  | _ => rw [q] at h; cases h
theorem Stt.setOwn {i : Nat} {d : D} {a : Addr} (s : Stt c P H env σ S) (h0 : c.H0 a = none) (hp : P a = none) (r : Root c.K c.G P H d a) (hn : ∀ j, j ≠ i → (sget env j).isOwn = true → σ[j]? ≠ some (some (.ref a))) :
    Stt c P H (env.set i (.own d)) (σ.set i (some (.ref a))) S :=
  s.setG ⟨a, rfl, hp, h0, r⟩ fun _ j b hj e ho q => by cases e; exact hn j hj ho q

def setS (i : Nat) (x : Ex) : Sx := fun env S => (x env S).bind fun r S => .ok (.nx (env.set i (.sh r.d))) S
def setO (i : Nat) (x : Ex) : Sx := fun env S => (x env S).bind fun r S => if r.fr = true then .ok (.nx (env.set i (.own r.d))) S else .bad
def retS (x : Ex) : Sx := fun env S => (x env S).bind fun r S => .ok (.ret r) S
def retO (i : Nat) : Sx := fun env S => match sget env i with
  | .own d => .ok (.ret ⟨true, d⟩) S
  | _ => .bad
def exS (x : Ex) : Sx := fun env S => (x env S).bind fun _ S => .ok (.nx env) S
def ifS (t : Ex) (a b : Sx) : Sx := fun env S => (t env S).bind fun r S => match r with
  | ⟨false, .bl true⟩ => a env S
  | ⟨false, .bl false⟩ => b env S
  | _ => .bad
theorem set_top {i : Nat} : ∀ D σ H, TSx c (setS i x) D σ H → tAsg (TEx c x) (gName i) D σ H := fun D σ H ⟨P, env, S, s, h⟩ =>
  te_in s h fun r S1 v P1 H1 st1 s1 rp h1 => h1 P1 H1 _ st1.pp (s1.set rp)
theorem setO_top {i : Nat} : ∀ D σ H, TSx c (setO i x) D σ H → tAsg (TEx c x) (gName i) D σ H := fun D σ H ⟨P, env, S, s, h⟩ =>
  ⟨P, env, S, s, post_mono (post_bind.mp h) (fun r S1 q v P1 H1 st so rr => by
    by_cases hf : r.fr = true
    · rw [if_pos hf] at q
      unfold RepR at rr
      rw [if_pos hf] at rr
      obtain ⟨a, rfl, n, n1, ro⟩ := rr
      have s1 := s.step st so
      refine q P1 H1 _ st.pp (s1.setOwn (s.st.dom a n) n1 ro fun j hj ho e => ?_)
      obtain ⟨_, _, u, hu⟩ := s.ownAt ho e
      rw [n] at hu; cases hu
    · rw [if_neg hf] at q; exact q.elim) fun _ _ _ q => q.step s.st⟩
theorem repR_up {r : R} {v : V} {P' H' : Hp} (st : Step c.ρ c.P0 c.H0 P H) (h : RepR c.K c.G H P' H' r v) : RepR c.K c.G c.H0 P' H' r v := by
  unfold RepR at h ⊢
  split at h
  · rename_i hf
    rw [if_pos hf]
    obtain ⟨a, e, n, q⟩ := h
    exact ⟨a, e, st.dom a n, q⟩
  · rename_i hf
    rw [if_neg hf]
    exact h
theorem sx_ret (he : PE X e (TEx c x)) : PS X (.Return (some e) pos) (TSx c (retS x)) :=
  ps_imp (ps_ret he) fun D σ H ⟨P, env, S, s, h⟩ => ⟨P, env, S, s, post_mono (post_bind.mp h) (fun r S1 q v P1 H1 st so rr => q v P1 H1 (s.st.trans st) so (repR_up s.st rr)) fun _ _ _ q => q.step s.st⟩
theorem sx_retN : PS X (.Return none pos) (TSx c (retS (con .non))) :=
  ps_imp ps_retN fun D σ H ⟨P, env, S, s, h⟩ => h .non P H s.st s.so (RepR.sh .non)
theorem sx_retO (i : Nat) {nm : Str} {p : Pos} (hN : X.N[i]? = some nm) (hv : Vis X.env.scope nm) (hd : (nm == ("__debug__" : Str)) = false) (hcd : (nm == ("__classdict__" : Str)) = false) : PS X (.Return (some (.Name nm p)) pos) (TSx c (retO i)) :=
  ps_imp (ps_ret (pe_var hN hv hd hcd)) fun D σ H ⟨P, env, S, s, h⟩ => by
    unfold retO at h
    have sl := s.sl i
    cases q : sget env i with
    | own d =>
      rw [q] at h sl
      obtain ⟨a, e, hp, h0, r⟩ := sl
      exact ⟨.ref a, e, h (.ref a) P H s.st s.so (by unfold RepR; rw [if_pos rfl]; exact ⟨a, rfl, h0, hp, r⟩)⟩
    | _ => rw [q] at h; exact h.elim
theorem sx_ex (he : PE X e (TEx c x)) (hs : swapsWith e none pos.line X.env = pure false) : PS X (.Expr e pos) (TSx c (exS x)) :=
  ps_imp (ps_expr he hs) fun D σ H ⟨P, env, S, s, h⟩ => te_in s h fun r S1 v P1 H1 st1 s1 rp h1 => h1 P1 H1 _ st1.pp s1
theorem sx_pass : PS X (.Pass pos) (TSx c skip) := ps_imp ps_pass fun D σ H ⟨P, env, S, s, h⟩ => h P H σ (Same.refl P) s
theorem sx_if {t : Expr} {as bs : List Stmt} {a b : Sx} (ht : PT X t (TTx c z)) (ha : PSs X as (TSx c a)) (hb : PSs X bs (TSx c b)) : PS X (.If t as bs pos) (TSx c (ifS z a b)) :=
  ps_imp (ps_if ht ha hb) fun D σ H ⟨P, env, S, s, h⟩ => tt_in s h (fun r S1 q => ite_inv q) fun k S1 P1 H1 st1 s1 q => by
    cases k with
    | true => exact iteT ⟨P1, env, S1, s1, PF.step st1.pp q⟩
    | false => exact iteF ⟨P1, env, S1, s1, PF.step st1.pp q⟩

/-! ### targets, loops -/
abbrev Tx := SEnv → D → Option SEnv
def tName (i : Nat) : Tx := fun env d => some (env.set i (.sh d))
def setAll : List Nat → List D → SEnv → Option SEnv
  | [], [], env => some env
  | i :: is, d :: ds, env => setAll is ds (env.set i (.sh d))
  | _, _, _ => none
def tTupl (is : List Nat) : Tx := fun env d => match d with
  | .tup ds => setAll is ds env
  | _ => none
/-- is: the slots that it stores to -/
def TGx (c : Cc) (is : List Nat) (tg : Tx) : TG := fun v σ H Q => ∃ P env S d env', Stt c P H env σ S ∧ Rep c.K c.G P d v ∧ tg env d = some env' ∧ ∀ σ', Stt c P H env' σ' S → (∀ vs : List Nat, (∀ i ∈ is, i ∈ vs) → wipe σ' vs = wipe σ vs) → Q σ' H
theorem wipe_set {σ : L2.St} {i : Nat} {x : Option V} : ∀ {vs : List Nat}, i ∈ vs → wipe (σ.set i x) vs = wipe σ vs
  | [], h => by cases h
  | v :: vs, h => by
    unfold wipe
    by_cases e : i = v
    · subst e
      by_cases hm : i ∈ vs
      · rw [wipe_set hm]
      · rw [wipe_out_set hm, List.set_set]
    · have hm : i ∈ vs := by
        rcases List.mem_cons.mp h with z | z
        · exact absurd z e
        · exact z
      rw [wipe_set hm]
where
  wipe_out_set {σ : L2.St} {i : Nat} {x : Option V} : ∀ {vs : List Nat}, i ∉ vs → wipe (σ.set i x) vs = (wipe σ vs).set i x
  | [], _ => rfl
  | v :: vs, h => by
    unfold wipe
    rw [wipe_out_set fun z => h (List.mem_cons_of_mem _ z), List.set_comm _ _ fun z => h (by rw [z]; exact List.mem_cons_self)]
theorem pg_imp {tg : Expr} {t t' : TG} (h : PG X tg t) (i : ∀ v σ H Q, t' v σ H Q → t v σ H Q) : PG X tg t' := ⟨fun pins s σ H v u Q I r w => h.run pins s σ H v u Q I r (i v σ H Q w)⟩
theorem tg_name {tg : Expr} {i : Nat} (h : PG X tg (gName i)) : PG X tg (TGx c [i] (tName i)) := pg_imp h fun v σ H Q ⟨P, env, S, d, env', s, r, e, k⟩ => by
  cases e
  exact k _ (s.set r) fun vs hv => wipe_set (hv i (by simp))
def gNames : List Nat → TGs
  | [] => gNil
  | i :: is => gCons (gName i) (gNames is)
theorem setAll_ok : ∀ {is : List Nat} {ds : List D} {vs : List V} {env env' : SEnv} {σ : L2.St} {Q : L2.St → Hp → Prop}, Stt c P H env σ S → Reps c.K c.G P ds vs → setAll is ds env = some env' → (∀ σ', Stt c P H env' σ' S → (∀ vs : List Nat, (∀ i ∈ is, i ∈ vs) → wipe σ' vs = wipe σ vs) → Q σ' H) → gNames is vs σ H Q
  | [], [], _, env, env', σ, Q, s, r, e, k => by
    cases r
    cases e
    exact ⟨rfl, k _ s fun _ _ => rfl⟩
  | [], _ :: _, _, _, _, _, _, _, _, e, _ => by cases e
  | _ :: _, [], _, _, _, _, _, _, _, e, _ => by cases e
  | i :: is, d :: ds, _, env, env', σ, Q, s, r, e, k => by
    cases r with
    | cons r1 r2 => exact ⟨_, _, rfl, setAll_ok (is := is) (s.set r1) r2 e fun σ' s' hw => k σ' s' fun vs hv => (hw vs fun j hj => hv j (List.mem_cons_of_mem _ hj)).trans (wipe_set (hv i List.mem_cons_self))⟩
theorem setAll_len : ∀ {is : List Nat} {ds : List D} {env env' : SEnv}, setAll is ds env = some env' → ds.length = is.length
  | [], [], _, _, _ => rfl
  | [], _ :: _, _, _, e => by cases e
  | _ :: _, [], _, _, e => by cases e
  | i :: is, d :: ds, env, env', e => congrArg (· + 1) (setAll_len (is := is) e)
theorem tg_tup {es : List Expr} {k : Nat} {is : List Nat} {p : Pos} (hK : X.K = c.K) (hc : X.calm = true) (h : PGs X es (gNames is)) (hn : (assignEach es X.env).length = is.length) (hst : (assignEach es X.env).findIdx? (·.1) = none) : PG X (.Tuple es k p) (TGx c is (tTupl is)) :=
  pg_imp (pg_tup hc h hn hst) fun v σ H Q ⟨P, env, S, d, env', s, r, e, k⟩ => by
    unfold tTupl at e
    cases r with
    | tup sq rs =>
      refine ⟨_, _, rfl, by rw [hK]; exact .inl (.inl (s.le.tup sq)), ?_, setAll_ok s rs e k⟩
      rw [← rs.length, setAll_len e]
    | _ => cases e
/-- what a loop walks: the items -/
structure WalkD (c : Cc) (J : It) (P1 : Hp) (ds : List D) : Prop where
  w : Walk J ds.length (fun H => Le P1 H) (fun i H x H' => ∃ d, ds[i]? = some d ∧ ∀ P S, Same P1 P → Le P H → StoOk c.K c.G c.ρ P H S → ∃ P', Step c.ρ P H P' H' ∧ StoOk c.K c.G c.ρ P' H' S ∧ Rep c.K c.G P' d x)
def QI (c : Cc) (P H : Hp) (R : It → Hp → Prop) : List D → Sto → Prop := fun ds S1 => ∀ J P1 H1, Step c.ρ P H P1 H1 → StoOk c.K c.G c.ρ P1 H1 S1 → WalkD c J P1 ds → R J H1
def TIx (c : Cc) (it : Ix) : TI := fun σ H R => ∃ P env S, Stt c P H env σ S ∧ (it env S).post (QI c P H R) (XP c P H)
def forL (tg : Tx) (b : Sx) : List D → SEnv → Sto → Out Fl
  | [], env, S => .ok (.nx env) S
  | d :: ds, env, S => match tg env d with
    | none => .bad
    | some env1 => (b env1 S).bind fun fl S => match fl with
      | .nx env2 => forL tg b ds env2 S
      | .ret r => .ok (.ret r) S
def forS (tg : Tx) (it : Ix) (b : Sx) : Sx := fun env S => (it env S).bind fun ds S => forL tg b ds env S
theorem sx_for {tgt iter : Expr} {body : List Stmt} {tg : Tx} {it : Ix} {b : Sx} (hp : PassesOwn (model X.prog X.w) X.A X.env X.xe) (hc : X.calm = true) (hi : PI X tgt iter (TIx c it)) {is : List Nat} (hg : PG X tgt (TGx c is tg)) (hb : PSs X body (TSx c b))
    (hs : ∀ x, foldedSetIterable iter X.env x = pure x) : PS X (.For tgt iter body [] pos) (TSx c (forS tg it b)) := by
  refine ps_imp (ps_for hp hc hi hg hb hs) fun D σ H ⟨P, env, S, s, h⟩ => ⟨P, env, S, s, post_mono (post_bind.mp h) (fun ds S1 q J P1 H1 st so wd => ?_) fun _ _ _ q => q.step s.st⟩
  have s1 := s.step st so
  refine for_it wd.w (fun i σ H => ∃ P env S, Stt c P H env σ S ∧ Same P1 P ∧ PF c P1 D (forL tg b (ds.drop i) env S)) ⟨P1, env, S1, s1, Same.refl _, PF.step st.pp q⟩ (fun i σ H _ ⟨P, _, _, s, e, _⟩ a u h => s.le a u (e a u h)) ?_ ?_
  · rintro i x σ2 H2 H3 hi ⟨P2, env2, S2, s2, e2, q2⟩ ⟨d, hd, y⟩
    obtain ⟨P3, st3, so3, r3⟩ := y P2 S2 e2 s2.le s2.so
    have s3 := s2.step st3 so3
    have hdr : ds.drop i = d :: ds.drop (i + 1) := by
      rw [List.drop_eq_getElem_cons hi]
      rw [List.getElem?_eq_getElem hi] at hd
      rw [Option.some.inj hd]
    rw [hdr] at q2
    unfold forL at q2
    cases qt : tg env2 d with
    | none => rw [qt] at q2; exact q2.elim
    | some env3 =>
      rw [qt] at q2
      refine ⟨P3, env2, S2, d, env3, s3, r3, qt, fun σ' s4 _ => ⟨P3, env3, S2, s4, post_mono (post_bind.mp q2) (fun fl S4 q4 => ?_) fun _ _ _ q => q⟩⟩
      cases fl with
      | nx env5 => exact fun P5 H5 σ5 e5 s5 => ⟨P5, env5, S4, s5, e2.trans (st3.pp.trans e5), q4⟩
      | ret r => exact q4
  · rintro σ2 H2 ⟨P2, env2, S2, s2, e2, q2⟩
    rw [List.drop_length] at q2
    exact q2 P2 H2 σ2 e2 s2
def whileL (t : Ex) (b : Sx) : Nat → SEnv → Sto → Out Fl
  | 0, _, _ => .bad
  | n + 1, env, S => (t env S).bind fun r S => match r with
    | ⟨false, .bl true⟩ => (b env S).bind fun fl S => match fl with
      | .nx env2 => whileL t b n env2 S
      | .ret r => .ok (.ret r) S
    | ⟨false, .bl false⟩ => .ok (.nx env) S
    | _ => .bad
def whileS (n : Nat) (t : Ex) (b : Sx) : Sx := fun env S => whileL t b n env S
theorem sx_while {t : Expr} {body : List Stmt} {b : Sx} (n : Nat) (hp : PassesOwn (model X.prog X.w) X.A X.env X.xe) (ht : PT X t (TTx c z)) (hb : PSs X body (TSx c b)) : PS X (.While t body [] pos) (TSx c (whileS n z b)) := by
  refine ps_imp (ps_while hp ht hb) fun D σ H ⟨P, env, S, s, h⟩ => ⟨fun m σ H => ∃ P2 env S, Stt c P2 H env σ S ∧ Same P P2 ∧ PF c P D (whileL z b m env S), ⟨n, P, env, S, s, Same.refl _, h⟩, ?_⟩
  rintro m σ2 H2 ⟨P2, env2, S2, s2, e2, q2⟩
  cases m with
  | zero => exact q2.elim
  | succ m =>
    unfold whileL at q2
    refine tt_in s2 q2 (fun r S1 q => ite_inv q) fun k S1 P3 H3 st3 s3 q3 => ?_
    cases k with
    | true =>
      refine iteT ⟨_, fun σ' H' w => ⟨m, Nat.lt_succ_self m, w⟩, P3, env2, S1, s3, post_mono (post_bind.mp q3) (fun fl S4 q4 => ?_) fun _ _ _ q => q⟩
      cases fl with
      | nx env5 => exact fun P5 H5 σ5 e5 s5 => ⟨P5, env5, S4, s5, e2.trans (st3.pp.trans e5), q4⟩
      | ret r => exact q4
    | false => exact iteF (q3 P3 H3 σ2 (e2.trans st3.pp) s3)

/-! ### a def -/
def runF (b : Sx) (m : Nat) (as : List Arg) (S : Sto) : Out R := (b (as.map Arg.sl ++ List.replicate (m - as.length) .un) S).bind fun fl S => match fl with
  | .nx _ => .ok ⟨false, .non⟩ S
  | .ret r => .ok r S
theorem start_ok {K : PySem.W.Frag} {G : Nat → Option (Addr × List Str)} {xc : Nat → Value} {ρ : List Addr} {as : List Arg} {vs : List V} {E : XK} {N : List Str} (le : Le P H) (so : StoOk K G ρ P H S) (ra : ArgsOk K G ρ P as vs) (hl : vs.length ≤ N.length) :
    Stt ⟨K, G, xc, ρ, P, H, E⟩ P H (as.map Arg.sl ++ List.replicate (N.length - as.length) .un) (L2.start N vs) S := by
  have al := Paired.length ra
  have own : ∀ i, (sget (as.map Arg.sl ++ List.replicate (N.length - as.length) .un) i).isOwn = false := fun i => by
    unfold sget
    rw [List.getD_eq_getElem?_getD]
    by_cases hi : i < as.length
    · rw [List.getElem?_append_left (by simpa using hi), List.getElem?_map, List.getElem?_eq_getElem hi]
      show (Arg.sl as[i]).isOwn = false
      cases as[i] <;> rfl
    · rw [List.getElem?_append_right (by simpa using hi), List.getElem?_replicate]
      split <;> rfl
  refine ⟨Step.refl le, fun a h => so.new h, so, ?_, fun i => ?_, fun i j a e => by rw [own i] at e; cases e⟩
  · unfold L2.start
    rw [List.length_append, List.length_append, List.length_map, List.length_map, List.length_replicate, List.length_replicate]
    omega
  · unfold sget L2.start
    rw [List.getD_eq_getElem?_getD]
    by_cases hi : i < as.length
    · have hv : i < vs.length := by omega
      rw [List.getElem?_append_left (by simpa using hi), List.getElem?_map, List.getElem?_eq_getElem hi, List.getElem?_append_left (by simpa using hv), List.getElem?_map, List.getElem?_eq_getElem hv]
      obtain ⟨v, e, r⟩ := paired_get ra (List.getElem?_eq_getElem hi)
      rw [List.getElem?_eq_getElem hv] at e
      cases e
      show SlOk _ P H (Arg.sl as[i]) (some (some vs[i]))
      cases q : as[i] with
      | sh d => rw [q] at r; exact ⟨_, rfl, r⟩
      | ref n =>
        rw [q] at r
        obtain ⟨a, e, w⟩ := r
        exact ⟨a, by rw [e], w⟩
    · rw [List.getElem?_append_right (by simpa using hi), List.getElem?_replicate]
      have : ((if i - (as.map Arg.sl).length < N.length - as.length then some Sl.un else none) : Option Sl).getD .un = .un := by split <;> rfl
      rw [this]
      trivial
end
end Pv

set_option Elab.async false
set_option linter.all false
set_option maxRecDepth 100000
namespace Pv
open PySem PySem.Spec PyProof.Rows L2

def clr (env : SEnv) : List Nat → SEnv
  | [] => env
  | v :: vs => (clr env vs).set v .un
def nox {α : Type} (o : Out α) : Out α := match o with
  | .ok a S => .ok a S
  | _ => .bad
theorem nox_post {α : Type} {o : Out α} {QQ : α → Sto → Prop} {E E' : Nat → List D → Sto → Prop} (h : (nox o).post QQ E) : o.post QQ E' := by
  cases o with
  | ok a S => exact h
  | _ => exact h.elim
/-- within a comprehension's block nothing is raised -/
abbrev Cc.in0 (c : Cc) : Cc := { c with E := E0 }
section
variable {X : Cx} {c : Cc} {P H P1 H1 : Hp} {env : SEnv} {σ : L2.St} {S S1 : Sto} {x y z : Ex} {pos : Pos}
theorem Stt.setUn (i : Nat) (s : Stt c P H env σ S) : Stt c P H (env.set i .un) (σ.set i none) S := by
  by_cases hi : i < env.length
  · have hs : i < σ.length := by rw [← s.ln]; exact hi
    refine ⟨s.st, s.r0, s.so, by rw [List.length_set, List.length_set]; exact s.ln, fun j => ?_, fun j k a e1 e2 e3 e4 => ?_⟩
    · by_cases hj : i = j
      · subst hj
        rw [sget_set_self hi]
        trivial
      · rw [sget_set_ne hj, List.getElem?_set_ne hj]
        exact s.sl j
    · by_cases hj : i = j
      · subst hj; rw [sget_set_self hi] at e1; cases e1
      · by_cases hk : i = k
        · subst hk; rw [sget_set_self hi] at e2; cases e2
        · rw [sget_set_ne hj] at e1
          rw [sget_set_ne hk] at e2
          rw [List.getElem?_set_ne hj] at e3
          rw [List.getElem?_set_ne hk] at e4
          exact s.dj j k a e1 e2 e3 e4
  · rw [List.set_eq_of_length_le (by omega), List.set_eq_of_length_le (by rw [← s.ln]; omega)]
    exact s
theorem Stt.clr (s : Stt c P H env σ S) : ∀ vs : List Nat, Stt c P H (Pv.clr env vs) (wipe σ vs) S
  | [] => s
  | v :: vs => (Stt.clr s vs).setUn v
theorem SlOk.in0 {s : Sl} {o : Option (Option V)} (h : SlOk c P H s o) : SlOk c.in0 P H s o := by cases s <;> exact h
theorem Stt.in0 (s : Stt c P H env σ S) : Stt c.in0 P H env σ S := ⟨s.st, s.r0, s.so, s.ln, fun i => (s.sl i).in0, s.dj⟩
/-- the object at D, new since (P1, H1), is changed -/
theorem Step.wr {ρ : List Addr} {D : Addr} {u : HO} (st : Step ρ P H P1 H1) (n : H D = none) (p1 : P1 D = none) (hd : Plain (H1 D)) : Step ρ P H P1 (upd H1 D u) :=
  ⟨st.le.wr p1 hd,
    st.pp, fun a w e m x => by
      have ne : a ≠ D := fun z => by subst z; rw [n] at e; cases e
      rw [upd_ne ne]; exact st.hh a w e m x,
    fun a e => by
      by_cases z : a = D
      · subst z; rw [upd_same] at e; cases e
      · rw [upd_ne z] at e; exact st.dom a e, st.new, st.cel, st.mrk⟩
theorem StoOk.wr {K : PySem.W.Frag} {G : Nat → Option (Addr × List Str)} {ρ : List Addr} {D : Addr} {u : HO} (s : StoOk K G ρ P H S) (nd : D ∉ ρ) : StoOk K G ρ P (upd H D u) S :=
  ⟨s.len, s.nd, fun n d e => by
    obtain ⟨a, ha, pa, r⟩ := s.at_ n d e
    have ne : a ≠ D := fun z => nd (z ▸ List.mem_of_getElem? ha)
    exact ⟨a, ha, pa, r.mono (Same.refl P) fun w hw => by rw [upd_ne ne]; exact hw⟩⟩
theorem Stt.wr {D : Addr} {u : HO} (s : Stt c P H env σ S) (n : c.H0 D = none) (p : P D = none) (hd : Plain (H D)) (hn : ∀ j, (sget env j).isOwn = true → σ[j]? ≠ some (some (.ref D))) : Stt c P (upd H D u) env σ S := by
  refine ⟨s.st.wr n p hd, s.r0, s.so.wr (s.r0 D n), s.ln, fun i => ?_, s.dj⟩
  have sl := s.sl i
  have hni := hn i
  cases q : sget env i with
  | un => trivial
  | sh d => rw [q] at sl; exact sl
  | ref m => rw [q] at sl; exact sl
  | own d =>
    rw [q] at sl hni
    obtain ⟨a, e, hp, h0, r⟩ := sl
    have ne : a ≠ D := fun z => hni rfl (by rw [e, z])
    exact ⟨a, e, hp, h0, r.mono (Same.refl P) fun w hw => by rw [upd_ne ne]; exact hw⟩
  | lk d =>
    rw [q] at sl hni
    obtain ⟨a, od, w, e, hp, h0, hf, r⟩ := sl
    have ne : a ≠ D := fun z => hni rfl (by rw [e, z])
    exact ⟨a, od, w, e, hp, h0, by rw [upd_ne ne]; exact hf, r.mono (Same.refl P) fun w' hw => by rw [upd_same] at hw ⊢; exact hw⟩

/-! ### what is walked within an expression: all that stands, stays -/
structure WalkE (c : Cc) (J : It) (P1 H1 : Hp) (ds : List D) : Prop where
  w : Walk J ds.length (fun H => ∃ P, Step c.ρ P1 H1 P H) (fun i H x H' => ∃ d, ds[i]? = some d ∧ ∀ P S, Same P1 P → Le P H → StoOk c.K c.G c.ρ P H S → ∃ P', Step c.ρ P H P' H' ∧ StoOk c.K c.G c.ρ P' H' S ∧ Rep c.K c.G P' d x)
theorem WalkD.e {J : It} {ds : List D} (w : WalkD c J P1 ds) : WalkE c J P1 H1 ds := ⟨w.w.mono (fun H ⟨P, st⟩ a u e => st.le a u (st.pp a u e)) fun _ _ _ _ _ _ y => y⟩
def QIe (c : Cc) (P H : Hp) (R : It → Hp → Prop) : List D → Sto → Prop := fun ds S1 => ∀ J P1 H1, Step c.ρ P H P1 H1 → StoOk c.K c.G c.ρ P1 H1 S1 → WalkE c J P1 H1 ds → R J H1
def TIe (c : Cc) (it : Ix) : TI := fun σ H R => ∃ P env S, Stt c P H env σ S ∧ (it env S).post (QIe c P H R) (XP c P H)
theorem ti_e {tg e : Expr} {it : Ix} (h : PI X tg e (TIx c it)) : PI X tg e (TIe c it) := pi_imp h fun σ H R ⟨P, env, S, s, h⟩ => ⟨P, env, S, s, post_mono h (fun ds S1 q J P1 H1 st so w => q J P1 H1 st so w.e) fun _ _ _ q => q⟩
/-! ### list comprehensions -/
def compL (tg : Tx) (t e : Ex) (env : SEnv) : List D → Sto → Out (List D)
  | [], S => .ok [] S
  | d :: ds, S => match tg env d with
    | none => .bad
    | some env1 => (nox (t env1 S)).bind fun r S => match r with
      | ⟨false, .bl true⟩ => (nox (e env1 S)).bind fun v S => (compL tg t e env ds S).bind fun out S => .ok (v.d :: out) S
      | ⟨false, .bl false⟩ => compL tg t e env ds S
      | _ => .bad
def compX (vs : List Nat) (tg : Tx) (it : Ix) (t e : Ex) : Ex := fun env S => (it env S).bind fun ds S => if ds.length ≤ line then (compL tg t e (clr env vs) ds S).bind fun out S => .ok ⟨true, .lst out⟩ S else .bad
def EF : Nat → List D → Sto → Prop := fun _ _ _ => False
theorem nox_in {α : Type} {x : Ex} {f : R → Sto → Out α} {QQ : α → Sto → Prop} {E : Nat → List D → Sto → Prop} {Q' : VK} (s : Stt c P H env σ S) (h : ((nox (x env S)).bind f).post QQ E)
    (k : ∀ r S1 v P1 H1, Step c.ρ P H P1 H1 → Stt c P1 H1 env σ S1 → Rep c.K c.G P1 r.d v → (f r S1).post QQ E → Q' v H1) : TEx c.in0 x σ H Q' :=
  ⟨P, env, S, s.in0, post_mono (nox_post (E' := EF) (post_bind.mp h)) (fun r S1 q v P1 H1 st so rr => by
    obtain ⟨P2, st2, so2, _, rp⟩ := rr.frz st so s.new0
    exact k r S1 v P2 H1 st2 (s.step st2 so2) rp q) fun _ _ _ q => q.elim⟩
theorem nox_tt {α : Type} {x : Ex} {f : R → Sto → Out α} {QQ : α → Sto → Prop} {E : Nat → List D → Sto → Prop} {Q' : Bool → Hp → Prop} (s : Stt c P H env σ S) (h : ((nox (x env S)).bind f).post QQ E) (hb : ∀ r S1, (f r S1).post QQ E → ∃ b, r = ⟨false, .bl b⟩)
    (k : ∀ b S1 P1 H1, Step c.ρ P H P1 H1 → Stt c P1 H1 env σ S1 → (f ⟨false, .bl b⟩ S1).post QQ E → Q' b H1) : TTx c.in0 x σ H Q' :=
  ⟨P, env, S, s.in0, post_mono (nox_post (E' := EF) (post_bind.mp h)) (fun r S1 q => by
    obtain ⟨b, rfl⟩ := hb r S1 q
    exact ⟨b, rfl, fun P1 H1 st so => k b S1 P1 H1 st (s.step st so) q⟩) fun _ _ _ q => q.elim⟩
/-- the state of a comprehension's loop at turn i -/
def LcInv (c : Cc) (tg : Tx) (t e : Ex) (env : SEnv) (σ : L2.St) (P1 H1 : Hp) (D0 : Addr) (ds : List D) (QQ : List D → Sto → Prop) (E : Nat → List D → Sto → Prop) (i : Nat) (H : Hp) : Prop :=
  ∃ P S acc av, Stt c P H env σ S ∧ Step c.ρ P1 H1 P H ∧ P D0 = none ∧ H D0 = some (.lst av) ∧ Reps c.K c.G P acc av ∧ acc.length ≤ i ∧ (compL tg t e env (ds.drop i) S).post (fun out S' => QQ (acc ++ out) S') E
theorem lc_top {vs : List Nat} {tg : Tx} {it : Ix} {t e : Ex} {is : List Nat} (his : ∀ i ∈ is, i ∈ vs) : ∀ σ H Q, TEx c (compX vs tg it t e) σ H Q → tLc (TIe c it) (TGx c.in0 is tg) (TTx c.in0 t) (TEx c.in0 e) vs σ H Q := by
  rintro σ H Q ⟨P, env, S, s, h⟩
  refine ⟨P, env, S, s, post_mono (post_bind.mp h) (fun ds S1 q J P1 H1 st so wd D0 nD => ?_) fun _ _ _ q => q⟩
  have s1 := s.step st so
  have hl : ds.length ≤ line := by
    by_cases hl : ds.length ≤ line
    · exact hl
    · rw [if_neg hl] at q; exact q.elim
  rw [if_pos hl] at q
  have q := post_bind.mp q
  have nP : P1 D0 = none := st.le.none nD
  have n0 : c.H0 D0 = none := s1.st.dom D0 nD
  have nown : ∀ j, (sget (Pv.clr env vs) j).isOwn = true → (wipe σ vs)[j]? ≠ some (some (.ref D0)) := fun j hj e2 => by
    obtain ⟨_, _, u, hu⟩ := (s1.clr vs).ownAt hj e2
    rw [nD] at hu; cases hu
  have sa : Stt c P1 (upd H1 D0 (.lst [])) (Pv.clr env vs) (wipe σ vs) S1 := (s1.clr vs).step (Step.alloc st.le nD) (so.alloc st.le nD)
  refine lc_it wd.w (D := D0) (LcInv c tg t e (Pv.clr env vs) (wipe σ vs) P1 H1 D0 ds (fun out S' => QX c P H Q ⟨true, .lst out⟩ S') (XP c P H)) ⟨P1, S1, [], [], sa, Step.alloc st.le nD, nP, upd_same, .nil, Nat.le_refl _, by rw [List.drop_zero]; exact q⟩ ?_ ?_ ?_
  · rintro i H2 _ ⟨P2, S2, acc, av, s2, st2, _⟩
    exact ⟨P2, st2⟩
  · rintro i x H2 H3 hi ⟨P2, S2, acc, av, s2, st2, p2, d2, r2, l2, q2⟩ ⟨d, hd, y⟩
    obtain ⟨P3, st3, so3, r3⟩ := y P2 S2 st2.pp s2.le s2.so
    have s3 := s2.step st3 so3
    have hdr : ds.drop i = d :: ds.drop (i + 1) := by
      rw [List.drop_eq_getElem_cons hi]
      rw [List.getElem?_eq_getElem hi] at hd
      rw [Option.some.inj hd]
    rw [hdr] at q2
    unfold compL at q2
    have kD : ∀ {Pa Ha Pb Hb : Hp}, Step c.ρ Pa Ha Pb Hb → Pa D0 = none → (∀ {w}, Ha D0 = some (.lst w) → Pb D0 = none ∧ Hb D0 = some (.lst w)) := fun {Pa Ha Pb Hb} sx pa {w} hw =>
      ⟨sx.new D0 _ (s.r0 D0 n0) pa hw (fun xs z => nomatch z) rfl, sx.hh D0 _ hw (s.r0 D0 n0) rfl⟩
    obtain ⟨p3, d3⟩ := kD st3 p2 d2
    cases qt : tg (Pv.clr env vs) d with
    | none => rw [qt] at q2; exact q2.elim
    | some env3 =>
      rw [qt] at q2
      refine ⟨P3, Pv.clr env vs, S2, d, env3, s3.in0, r3, qt, fun σ' s4' hw => ⟨(hw vs his).trans (wipe_wipe σ vs), ?_⟩⟩
      have s4 : Stt c P3 H3 env3 σ' S2 := ⟨s4'.st, s4'.r0, s4'.so, s4'.ln, fun j => by have := s4'.sl j; cases hq : sget env3 j <;> rw [hq] at this <;> exact this, s4'.dj⟩
      refine nox_tt s4 q2 (fun r Sx q => ite_inv q) fun k S5 P5 H5 st5 s5 q5 => ?_
      obtain ⟨p5, d5⟩ := kD st5 p3 d3
      have back : ∀ {Pk Hk : Hp} {Sk : Sto}, Step c.ρ P1 H1 Pk Hk → StoOk c.K c.G c.ρ Pk Hk Sk → Stt c Pk Hk (Pv.clr env vs) (wipe σ vs) Sk := fun {Pk Hk Sk} a b => (s1.clr vs).step a b
      have st15 := st2.trans (st3.trans st5)
      cases k with
      | false => exact iteF ⟨P5, S5, acc, av, back st15 s5.so, st15, p5, d5, r2.mono (st3.pp.trans st5.pp), Nat.le_succ_of_le l2, q5⟩
      | true =>
        refine iteT (nox_in s5 q5 fun r S6 v P6 H6 st6 s6 r6 q6 => ?_)
        obtain ⟨p6, d6⟩ := kD st6 p5 d5
        have st16 := st15.trans st6
        have la := r2.length
        refine ⟨av, d6, by rw [← la, ← line_eq]; omega, P6, S6, acc ++ [r.d], av ++ [v], ?_, st16.wr nD p6 (by rw [d6]; trivial), p6, upd_same, (r2.mono (st3.pp.trans (st5.pp.trans st6.pp))).append (.cons r6 .nil), by rw [List.length_append]; exact Nat.succ_le_succ l2, ?_⟩
        · exact (back st16 s6.so).wr n0 p6 (by rw [d6]; trivial) nown
        · exact post_mono (post_bind.mp q6) (fun out S7 q7 => by rw [List.append_assoc]; exact q7) fun _ _ _ q => q
  · rintro H2 ⟨P2, S2, acc, av, s2, st2, p2, d2, r2, l2, q2⟩
    rw [List.drop_length] at q2
    have q2 : QX c P H Q ⟨true, .lst (acc ++ [])⟩ S2 := q2
    rw [List.append_nil] at q2
    refine q2 (.ref D0) P2 H2 (st.trans st2) s2.so ?_
    unfold RepR
    rw [if_pos rfl]
    exact ⟨D0, rfl, st.dom D0 nD, p2, .lst d2 r2⟩
where
  wipe_wipe (σ : L2.St) : ∀ vs : List Nat, wipe (wipe σ vs) vs = wipe σ vs := fun vs => ww σ vs vs fun _ h => h
  ww (σ : L2.St) : ∀ (us vs : List Nat), (∀ i ∈ us, i ∈ vs) → wipe (wipe σ us) vs = wipe σ vs
    | [], _, _ => rfl
    | u :: us, vs, h => by
      show wipe ((wipe σ us).set u none) vs = _
      rw [wipe_set (h u List.mem_cons_self)]
      exact ww σ us vs fun i hi => h i (List.mem_cons_of_mem _ hi)
theorem pd_lc {elt tgt iter : Expr} {ifs : List Expr} {scope : Scope} {own : List (Str × Nat)} {tg : Tx} {it : Ix} {t e : Ex} {is : List Nat} (hc : X.calm = true) (hN : X.N.Nodup) (hi : PI X tgt iter (TIe c it)) (ok : BlkOk X.N X.env.scope scope own) (his : ∀ i ∈ is, i ∈ own.map (·.2))
    (hg : ∀ (s : Shared) (H : Hp) (C : Addr) (cl : List (Str × Addr)) (fp : List Addr), PG (X.blk s H scope (compEnvC scope cl C X.env) fp) tgt (TGx c.in0 is tg)) (ht : ∀ (s : Shared) (H : Hp) (C : Addr) (cl : List (Str × Addr)) (fp : List Addr), PTs (X.blk s H scope (compEnvC scope cl C X.env) fp) ifs (TTx c.in0 t))
    (he : ∀ (s : Shared) (H : Hp) (C : Addr) (cl : List (Str × Addr)) (fp : List Addr), PE (X.blk s H scope (compEnvC scope cl C X.env) fp) elt (TEx c.in0 e)) (hs : ∀ x, foldedSetIterable iter X.env x = pure x) :
    PE X (.ListComp elt [⟨tgt, iter, ifs, 0⟩] scope pos) (TEx c (compX (own.map (·.2)) tg it t e)) := pe_imp (pe_lc hc hN hi ok hg ht he hs) (lc_top his)
theorem pts_imp {es : List Expr} {t t' : TT} (h : PTs X es t) (i : ∀ σ H Q, t' σ H Q → t σ H Q) : PTs X es t' := ⟨fun pins s σ H Q I w => h.run pins s σ H Q I (i σ H Q w)⟩
theorem pts_none : PTs X [] (TTx c (con (.bl true))) := pts_imp pts_nil fun σ H Q ⟨P, env, S, s, h⟩ => by
  obtain ⟨b, e, w⟩ := h
  cases e
  exact w P H (Step.refl s.le) s.so
/-- name = [..] -/
theorem tAsg_lc {i : Nat} {vs : List Nat} {tg : Tx} {it : Ix} {t e : Ex} {is : List Nat} (his : ∀ i ∈ is, i ∈ vs) : ∀ D σ H, TSx c (setS i (compX vs tg it t e)) D σ H → tAsg (tLc (TIe c it) (TGx c.in0 is tg) (TTx c.in0 t) (TEx c.in0 e) vs) (gName i) D σ H := fun D σ H h =>
  lc_top his σ H _ (set_top D σ H h)
theorem tAsg_lcO {i : Nat} {vs : List Nat} {tg : Tx} {it : Ix} {t e : Ex} {is : List Nat} (his : ∀ i ∈ is, i ∈ vs) : ∀ D σ H, TSx c (setO i (compX vs tg it t e)) D σ H → tAsg (tLc (TIe c it) (TGx c.in0 is tg) (TTx c.in0 t) (TEx c.in0 e) vs) (gName i) D σ H := fun D σ H h =>
  lc_top his σ H _ (setO_top D σ H h)

/-! ### what is walked -/
def iVal (x : Ex) : Ix := fun env S => (x env S).bind fun a S => match seqD a.d with
  | some l => .ok l S
  | none => .bad
def iRange1 (x : Ex) : Ix := fun env S => (x env S).bind fun a S => match a.d with
  | .int n => if n ≤ line then .ok ((List.range n.toNat).map fun (i : Nat) => D.int i) S else .bad
  | _ => .bad
def iRange2 (x y : Ex) : Ix := fun env S => (x env S).bind fun a S => (y env S).bind fun b S => match a.d, b.d with
  | .int m, .int n => if -line ≤ m ∧ n ≤ line then .ok ((List.range (n - m).toNat).map fun (i : Nat) => D.int (m + i)) S else .bad
  | _, _ => .bad
theorem qi_step {P H P1 H1 : Hp} {R : It → Hp → Prop} {r : List D} {S : Sto} (st : Step c.ρ P H P1 H1) (h : QI c P H R r S) : QI c P1 H1 R r S := fun J P' H' s so w => h J P' H' (st.trans s) so w
theorem walkD_at {J : It} {ds : List D} {xs : List V} {Gq : Hp → Prop} (w : Walk J ds.length Gq (YAt xs)) (hg : ∀ H, Le P1 H → Gq H) (r : Reps c.K c.G P1 ds xs) : WalkD c J P1 ds :=
  ⟨w.mono hg fun i H x H' hi _ y => by
    obtain ⟨rfl, e⟩ := y
    obtain ⟨d, hd, rd⟩ := r.getV e
    exact ⟨d, hd, fun P S e2 le so => ⟨P, Step.refl le, so, rd.mono e2⟩⟩⟩
end
end Pv

set_option Elab.async false
set_option linter.all false
set_option maxRecDepth 100000
namespace Pv
open PySem PySem.Spec PyProof.Rows L2

/-! ### zip of two sequences, each a list (false) or a tuple (true) -/
def ItK (k : Bool) (h : Heap) (it l : Addr) (i : Nat) : Prop := if k = true then h.IsTupleIter it l i else h.IsListIter it l i
def SqK (k : Bool) (h : Heap) (l : Addr) (its : Array Value) : Prop := if k = true then h.IsTuple l its else h.IsList l its
def nmK (k : Bool) : String := if k = true then "tuple_iterator" else "list_iterator"
theorem itK_obj {k : Bool} {h : Heap} {it l : Addr} {i : Nat} (x : ItK k h it l i) : ∃ o, h.get? it = some o ∧ ∀ v, o.data ≠ .cell v := by
  cases k with
  | true => obtain ⟨o, e, _, d⟩ := (show h.IsTupleIter it l i from x); exact ⟨o, e, fun v z => by rw [d] at z; cases z⟩
  | false => obtain ⟨o, e, _, d⟩ := (show h.IsListIter it l i from x); exact ⟨o, e, fun v z => by rw [d] at z; cases z⟩
theorem itK_keep {k : Bool} {h h' : Heap} {it l : Addr} {i : Nat} (x : ItK k h it l i) (hk : ∀ o, h.get? it = some o → h'.get? it = some o) : ItK k h' it l i := by
  cases k with
  | true => exact (show h.IsTupleIter it l i from x).at hk
  | false => exact (show h.IsListIter it l i from x).at hk
theorem drawK {prog : Program} {w : World} {A : Around} (k : Bool) (hh : A.handled = none) (it l : Addr) (ne : l ≠ it) (its : Array Value) :
    Draws prog w A it [it, l] its.size (fun i v => its[i]? = some v) (fun i h => ItK k h it l i ∧ SqK k h l its) := by
  cases k with
  | true => exact Draws.tuple hh it l ne its
  | false => exact Draws.list hh it l ne its
theorem sqK_lt {k : Bool} {h : Heap} {l : Addr} {its : Array Value} (x : SqK k h l its) : l < h.objs.size := by
  cases k with
  | true => obtain ⟨o, e, _⟩ := (show h.IsTuple l its from x); exact Heap.lt_size e
  | false => obtain ⟨o, e, _⟩ := (show h.IsList l its from x); exact Heap.lt_size e
def h1K (k : Bool) (h : Heap) (l : Addr) : Heap := h.push { cls := .type (nmK k), data := .fields #[.ref l, .int 0 0] }
def zipK (k1 k2 : Bool) (h : Heap) (l1 l2 : Addr) : Heap :=
  (((h1K k2 (h1K k1 h l1) l2).push { cls := .type "tuple", data := .seq #[.ref h.objs.size, .ref (h.objs.size + 1)] }).push { cls := .type "tuple", data := .seq #[.none, .none] }).push
    { cls := .type "zip", data := .fields #[.none, .bool false, .bool false, .ref (h.objs.size + 2), .ref (h.objs.size + 3)] }
theorem pyIterK {prog : Program} {w : World} {A : Around} {E : Value → Shared → Prop} {s : Shared} {l : Addr} {its : Array Value} {Q : Value → Shared → Prop} (k : Bool) (h : SqK k s.heap l its)
    (q : Q (.ref s.heap.objs.size) { s with heap := h1K k s.heap l }) : wpAny (model prog w) A (pyIter (.ref l)) Q E s := by
  cases k with
  | true => exact wpAny_pyIter_tuple (show s.heap.IsTuple l its from h) q
  | false => exact wpAny_pyIter_list (show s.heap.IsList l its from h) q
theorem sqK_push {k : Bool} {h : Heap} {l : Addr} {its : Array Value} (x : SqK k h l its) (o : Obj) : SqK k (h.push o) l its := by
  cases k with
  | true => exact Heap.IsTuple.push (show h.IsTuple l its from x) _
  | false => exact Heap.IsList.push (show h.IsList l its from x) _
theorem newK (k1 k2 : Bool) (l1 l2 : Addr) (xs ys : Array Value) :
    Meets (Builtin.«zip.__new__» ⟨[.type "zip", .ref l1, .ref l2], []⟩)
      (fun _ Q s => SqK k1 s.heap l1 xs ∧ SqK k2 s.heap l2 ys ∧ Q (.ok (.ret (.ref (s.heap.objs.size + 4)))) { s with heap := zipK k1 k2 s.heap l1 l2 }) :=
  Meets.of_wp fun prog w A Q s hyp => by
    obtain ⟨h0, gens, dr, tk, os⟩ := s
    obtain ⟨a1, a2, q⟩ := hyp
    have isZ := sub_zip
    have b1 : SqK k1 (Shared.heap ⟨h0, gens, dr, tk, os⟩) l1 xs := a1
    have b2 : SqK k2 (Shared.heap ⟨h1K k1 h0 l1, gens, dr, tk, os⟩) l2 ys := sqK_push a2 _
    have e1 : (h1K k1 h0 l1).objs.size = h0.objs.size + 1 := Heap.size_push ..
    have e2 : (h1K k2 (h1K k1 h0 l1) l2).objs.size = h0.objs.size + 2 := (Heap.size_push ..).trans (congrArg (· + 1) e1)
    wp_walk using pyIterK k1 b1, pyIterK k2 b2
    refine ⟨_, rfl, ?_⟩
    simp only [zipK, e1, e2, Heap.size_push, Nat.add_assoc] at q ⊢
    exact q

section
variable {prog : Program} {w : World} {A : Around} {E : Value → Shared → Prop} {s : Shared}
theorem call_zipK (k1 k2 : Bool) {l1 l2 : Addr} {xs ys : Array Value} {Q : Value → Shared → Prop} (a1 : SqK k1 s.heap l1 xs) (a2 : SqK k2 s.heap l2 ys)
    (h : ∀ h', IsZip h' (s.heap.objs.size + 4) (s.heap.objs.size + 2) (s.heap.objs.size + 3) .none →
      IsTupOf2 h' (s.heap.objs.size + 2) (.ref s.heap.objs.size) (.ref (s.heap.objs.size + 1)) →
      IsTupOf2 h' (s.heap.objs.size + 3) .none .none → ItK k1 h' s.heap.objs.size l1 0 → ItK k2 h' (s.heap.objs.size + 1) l2 0 →
      (∀ b o, s.heap.get? b = some o → h'.get? b = some o) → Q (.ref (s.heap.objs.size + 4)) { s with heap := h' }) :
    wpAny (model prog w) A (call (.type "zip") [.ref l1, .ref l2]) Q E s := by
  have n1 : (h1K k1 s.heap l1).objs.size = s.heap.objs.size + 1 := Heap.size_push ..
  have n2 : (h1K k2 (h1K k1 s.heap l1) l2).objs.size = s.heap.objs.size + 2 := (Heap.size_push ..).trans (congrArg (· + 1) n1)
  have i1 : (h1K k1 s.heap l1).get? s.heap.objs.size = some { cls := .type (nmK k1), data := .fields #[.ref l1, .int 0 0] } := Heap.get?_push_size _ rfl
  have i2 : (h1K k2 (h1K k1 s.heap l1) l2).get? (s.heap.objs.size + 1) = some { cls := .type (nmK k2), data := .fields #[.ref l2, .int 0 0] } := by
    rw [← n1]; exact Heap.get?_push_size _ rfl
  generalize hb : h1K k2 (h1K k1 s.heap l1) l2 = hB at n2 i2
  have i1' : hB.get? s.heap.objs.size = some { cls := .type (nmK k1), data := .fields #[.ref l1, .int 0 0] } := by rw [← hb]; exact Heap.get?_push_of_some _ i1
  have old : ∀ b o, s.heap.get? b = some o → hB.get? b = some o := fun b o e => by
    rw [← hb]; exact Heap.get?_push_of_some _ (Heap.get?_push_of_some _ e)
  have mk : ∀ {k : Bool} {hh : Heap} {it l : Addr}, hh.get? it = some { cls := .type (nmK k), data := .fields #[.ref l, .int 0 0] } → ItK k hh it l 0 := fun {k hh it l} e => by
    cases k <;> exact ⟨_, e, rfl, rfl⟩
  refine callType_new F.called_zip (by decide) (F.typeCall_zip_2 (.ref l1) (.ref l2)) (F.newCall_zip_2 (.ref l1) (.ref l2))
    (fun z => F.args_object_init_3 z (.ref l1) (.ref l2)) F.entry_zip_new (newK k1 k2 l1 l2 xs ys) ⟨a1, a2, ?_⟩
  have key : ∀ {T : Obj} {U : Obj} {W : Obj}, T.isFreed = false → U.isFreed = false → W.isFreed = false → let hE := ((hB.push T).push U).push W
      hE.get? (s.heap.objs.size + 2) = some T ∧ hE.get? (s.heap.objs.size + 3) = some U ∧ hE.get? (s.heap.objs.size + 4) = some W ∧ ∀ b o, hB.get? b = some o → hE.get? b = some o := by
    intro T U W fT fU fW
    have m1 : (hB.push T).objs.size = s.heap.objs.size + 3 := (Heap.size_push ..).trans (congrArg (· + 1) n2)
    have m2 : ((hB.push T).push U).objs.size = s.heap.objs.size + 4 := (Heap.size_push ..).trans (congrArg (· + 1) m1)
    refine ⟨?_, ?_, ?_, fun b o e => ?_⟩
    · rw [← n2]; exact Heap.get?_push_of_some _ (Heap.get?_push_of_some _ (Heap.get?_push_size _ fT))
    · rw [← m1]; exact Heap.get?_push_of_some _ (Heap.get?_push_size _ fU)
    · rw [← m2]; exact Heap.get?_push_size _ fW
    · exact Heap.get?_push_of_some _ (Heap.get?_push_of_some _ (Heap.get?_push_of_some _ e))
  have hz : zipK k1 k2 s.heap l1 l2 = ((hB.push { cls := .type "tuple", data := .seq #[.ref s.heap.objs.size, .ref (s.heap.objs.size + 1)] }).push { cls := .type "tuple", data := .seq #[.none, .none] }).push
    { cls := .type "zip", data := .fields #[.none, .bool false, .bool false, .ref (s.heap.objs.size + 2), .ref (s.heap.objs.size + 3)] } := by rw [← hb]; rfl
  obtain ⟨q2, q3, q4, qo⟩ := key (T := { cls := .type "tuple", data := .seq #[.ref s.heap.objs.size, .ref (s.heap.objs.size + 1)] }) (U := { cls := .type "tuple", data := .seq #[.none, .none] })
    (W := { cls := .type "zip", data := .fields #[.none, .bool false, .bool false, .ref (s.heap.objs.size + 2), .ref (s.heap.objs.size + 3)] }) rfl rfl rfl
  rw [← hz] at q2 q3 q4 qo
  exact ⟨⟨_, q4, rfl⟩, h _ q4 q2 q3 (mk (qo _ _ i1')) (mk (qo _ _ i2)) fun b o e => qo _ _ (old b o e)⟩
end

/-- a list or a tuple that is read -/
def SqA (K : PySem.W.Frag) (H : Hp) (k : Bool) (a : Addr) (xs : List V) : Prop := if k = true then SqT K H a xs else SqL K H a xs
theorem inv_sqA {X : Cx} {pins : List (Addr × Obj)} {σ : L2.St} {H : Hp} {s : Shared} {k : Bool} {a : Addr} {xs : List V} (I : Inv X pins σ H s) (h : SqA X.K H k a xs) : ∃ its : List Value, Vals xs its ∧ SqK k s.heap a its.toArray := by
  cases k with
  | true =>
    obtain ⟨its, r, p, _⟩ := I.tuple (show SqT X.K H a xs from h)
    exact ⟨its, r, p⟩
  | false =>
    obtain ⟨its, r, p, _⟩ := I.list (show SqL X.K H a xs from h)
    exact ⟨its, r, p.isList⟩
theorem inv_sqA_inj {X : Cx} {pins : List (Addr × Obj)} {σ : L2.St} {H : Hp} {s : Shared} {k : Bool} {a : Addr} {xs ys : List V} (I : Inv X pins σ H s) (h : SqA X.K H k a xs) (h' : SqA X.K H k a ys) : xs = ys := by
  cases k with
  | true => exact I.tuple_inj h h'
  | false => exact I.list_inj h h'
def ItzK (K : PySem.W.Frag) (k1 k2 : Bool) (a b : Addr) : It :=
  ⟨fun i H => ∃ (xs ys : List V) (x y : V), SqA K H k1 a xs ∧ SqA K H k2 b ys ∧ xs[i]? = some x ∧ ys[i]? = some y,
    fun i H v H' => ∃ T x y, v = .ref T ∧ H T = none ∧ H' = upd H T (.tup [x, y]) ∧ (∀ xs, SqA K H k1 a xs → xs[i]? = some x) ∧ ∀ ys, SqA K H k2 b ys → ys[i]? = some y,
    fun i H => ∃ xs ys : List V, SqA K H k1 a xs ∧ SqA K H k2 b ys ∧ i = min xs.length ys.length⟩
theorem turn_zipK {P : Program} {w : World} {K : PySem.W.Frag} {elts : List Expr} {kk : Nat} {tpos : Pos} {k1 k2 : Bool} {a b z TI TO i1 i2 : Addr} (ne1 : a ≠ i1) (ne2 : b ≠ i2) (S : ZipSep2 z TI TO i1 i2 [i1, a] [i2, b]) :
    Turn P w K (.Tuple elts kk tpos) (ItzK K k1 k2 a b) [z, TI, TO, i1, i2] z
      (fun i h => IsZip h z TI TO .none ∧ IsTupOf2 h TI (.ref i1) (.ref i2) ∧ (∃ x y, IsTupOf2 h TO x y) ∧ ItK k1 h i1 a i ∧ ItK k2 h i2 b i) where
  mem := by simp
  obj := fun i h st d hd => by
    obtain ⟨hz, hTI, ⟨x, y, hTO⟩, h1, h2⟩ := st
    simp only [List.mem_cons, List.not_mem_nil, or_false] at hd
    rcases hd with q | q | q | q | q <;> subst q
    · exact ⟨_, hz, fun v q => nomatch q⟩
    · exact ⟨_, hTI, fun v q => nomatch q⟩
    · exact ⟨_, hTO, fun v q => nomatch q⟩
    · exact itK_obj h1
    · exact itK_obj h2
  keep := fun i h h' st k => by
    obtain ⟨hz, hTI, ⟨x, y, hTO⟩, h1, h2⟩ := st
    exact ⟨k z (by simp) _ hz, k TI (by simp) _ hTI, ⟨x, y, k TO (by simp) _ hTO⟩, itK_keep h1 (k i1 (by simp)), itK_keep h2 (k i2 (by simp))⟩
  item := by
    intro X hP hw hK hc i pins s σ H E I hf st hg
    subst hP hw hK
    obtain ⟨hz, hTI, ⟨x0, y0, hTO⟩, h1, h2⟩ := st
    obtain ⟨xs, ys, x, y, sx, sy, gx, gy⟩ := hg
    obtain ⟨us, rx, px⟩ := inv_sqA I sx
    obtain ⟨vs, ry, py⟩ := inv_sqA I sy
    have lx := rx.length
    have ly := ry.length
    obtain ⟨lx1, _⟩ := List.getElem?_eq_some_iff.mp gx
    obtain ⟨ly1, _⟩ := List.getElem?_eq_some_iff.mp gy
    have hh : X.A.in1.handled = none := I.ok.hd hc
    have zl : z < s.heap.objs.size := Heap.lt_size hz
    refine wpAny_pyNext_zipD2_item S (drawK k1 hh i1 a ne1 us.toArray) (drawK k2 hh i2 b ne2 vs.toArray) hz hTI hTO ⟨h1, px⟩ ⟨h2, py⟩ (by rw [List.size_toArray]; omega) (by rw [List.size_toArray]; omega)
      fun u v h' tk eu ev z' TO' t1 t2 nT hsz kp => ?_
    obtain ⟨u', hu', ru⟩ := rx.get gx
    obtain ⟨v', hv', rv⟩ := ry.get gy
    have eu' : u' = u := by
      have e : us[i]? = some u := by simpa using eu
      rw [hu'] at e; exact Option.some.inj e
    have ev' : v' = v := by
      have e : vs[i]? = some v := by simpa using ev
      rw [hv'] at e; exact Option.some.inj e
    subst eu' ev'
    refine ⟨_, rfl, wpAny_letOwnedTupleGo_zip (s := { s with heap := h', toks := tk }) z' fun h2' z'' sb => ?_⟩
    have hT2 : h2'.get? s.heap.objs.size = some { cls := .type "tuple", data := .seq #[u', v'] } := (sb.2 _ (Nat.ne_of_gt zl)).trans nT
    have pairOk : ObjOk X.prog X.w (upd H s.heap.objs.size (.tup [x, y])) h2' s.heap.objs.size (.tup [x, y]) :=
      ⟨by show 2 ≤ sizeLine; decide, [u', v'], .cons ru (.cons rv .nil), ⟨_, hT2, rfl, _, rfl⟩⟩
    have I1 : Inv X pins σ (upd H s.heap.objs.size (.tup [x, y])) { s with heap := h2', toks := tk } :=
      I.turnedNew (t' := tk) (ch := [z, TI, TO, i1, i2]) (fun d o hb q => by
        simp only [List.mem_cons, List.not_mem_nil, or_false, not_or] at hb
        exact (sb.2 d hb.1).trans (kp d o hb.1 hb.2.2.1 hb.2.2.2.1 hb.2.2.2.2 q)) hf (Nat.le_refl _) pairOk
    have lt5 : ∀ d ∈ [z, TI, TO, i1, i2], d < s.heap.objs.size := fun d hd => by
      simp only [List.mem_cons, List.not_mem_nil, or_false] at hd
      rcases hd with q | q | q | q | q <;> subst q
      · exact zl
      · exact Heap.lt_size hTI
      · exact Heap.lt_size hTO
      · obtain ⟨_, e, _⟩ := itK_obj h1; exact Heap.lt_size e
      · obtain ⟨_, e, _⟩ := itK_obj h2; exact Heap.lt_size e
    refine ⟨.ref s.heap.objs.size, _, I1, rfl, ⟨_, x, y, rfl, I.hok.fresh (Nat.le_refl _), rfl, fun l hl => by rw [inv_sqA_inj I hl sx]; exact gx, fun l hl => by rw [inv_sqA_inj I hl sy]; exact gy⟩,
      ⟨z'', (sb.2 _ S.TIz).trans (kp _ _ S.TIz S.TITO S.TIi1 S.TIi2 hTI), ⟨_, _, (sb.2 _ S.TOz).trans TO'⟩, itK_keep t1.1 fun o q => (sb.2 _ (Ne.symm S.zi1)).trans q, itK_keep t2.1 fun o q => (sb.2 _ (Ne.symm S.zi2)).trans q⟩, fun d hd => ?_⟩
    rw [upd_ne (Nat.ne_of_lt (lt5 d hd))]
    exact (hf d hd).1
  done := by
    intro X hP hw hK hc i pins s σ H E I hf st hg
    subst hP hw hK
    obtain ⟨hz, hTI, ⟨x0, y0, hTO⟩, h1, h2⟩ := st
    obtain ⟨xs, ys, sx, sy, ei⟩ := hg
    obtain ⟨us, rx, px⟩ := inv_sqA I sx
    obtain ⟨vs, ry, py⟩ := inv_sqA I sy
    have lx := rx.length
    have ly := ry.length
    have hh : X.A.in1.handled = none := I.ok.hd hc
    have s1 : us.toArray.size = xs.length := by rw [List.size_toArray]; exact lx.symm
    have s2 : vs.toArray.size = ys.length := by rw [List.size_toArray]; exact ly.symm
    refine wpAny_pyNext_zipD2_end S (drawK k1 hh i1 a ne1 us.toArray) (drawK k2 hh i2 b ne2 vs.toArray) hz hTI hTO ⟨h1, px⟩ ⟨h2, py⟩ (by rw [s1]; omega) (by rw [s2]; omega) (by rw [s1, s2]; omega) fun h' tk kp => ?_
    exact ⟨rfl, I.turnedL (t' := tk) (ch := [z, TI, TO, i1, i2]) (fun d o hb q => by
      simp only [List.mem_cons, List.not_mem_nil, or_false, not_or] at hb
      exact kp d o hb.1 hb.2.2.1 hb.2.2.2.1 hb.2.2.2.2 q) hf⟩
  self := fun A i s Q E st h => wpAny_pyIter_zip st.1 h
theorem nmem2 {n x y : Nat} (h1 : n ≠ x) (h2 : n ≠ y) : n ∉ [x, y] := by simp [h1, h2]
theorem sepK {n a b : Nat} (ha : a < n) (hb : b < n) : ZipSep2 (n + 4) (n + 2) (n + 3) n (n + 1) [n, a] [n + 1, b] where
  TIz := Nat.ne_of_lt (by omega)
  TOz := Nat.ne_of_lt (by omega)
  TITO := Nat.ne_of_lt (by omega)
  TIi1 := Nat.ne_of_gt (by omega)
  mem1 := List.mem_cons_self
  zf1 := nmem2 (Nat.ne_of_gt (by omega)) (Nat.ne_of_gt (by omega))
  Tf1 := nmem2 (Nat.ne_of_gt (by omega)) (Nat.ne_of_gt (by omega))
  TIi2 := Nat.ne_of_gt (by omega)
  mem2 := List.mem_cons_self
  zf2 := nmem2 (Nat.ne_of_gt (by omega)) (Nat.ne_of_gt (by omega))
  Tf2 := nmem2 (Nat.ne_of_gt (by omega)) (Nat.ne_of_gt (by omega))
  sep1_2 := nmem2 (Nat.ne_of_lt (by omega)) (Nat.ne_of_gt hb)
  sep2_1 := nmem2 (Nat.ne_of_gt (by omega)) (Nat.ne_of_gt (by omega))
def iZipK (K : PySem.W.Frag) (ta : TA) : TI := fun σ H R => ta σ H fun vs H1 => ∃ k1 k2 a b xs ys, vs = [.ref a, .ref b] ∧ SqA K H1 k1 a xs ∧ SqA K H1 k2 b ys ∧ R (ItzK K k1 k2 a b) H1
theorem pi_zipK {X : Cx} {e e2 : Expr} {ta : TA} {p pos tpos : Pos} {elts : List Expr} {kk : Nat} (hg : Gl X "zip") (hm : X.mg "zip" = none) (ha : PA X [e, e2] ta)
    (hs : starEach [e, e2] X.env = (false, eval e X.env) :: starEach [e2] X.env) (hpl : (backTo pos (starEach [e2] X.env)).any (·.1) = false) :
    PI X (.Tuple elts kk tpos) (.Call (.Name "zip" p) [e, e2] [] pos) (iZipK X.K ta) := by
  refine ⟨fun pins s σ H R I hyp => ?_⟩
  refine Call_ (ld_blt I hg hm boot_zip (PyProof.Rows.callWith_type1 (thn (ha.run pos pins s σ H _ I hyp) fun us s1 ⟨vs, H1, I1, r1, q1⟩ => ?_) hs hpl))
  obtain ⟨k1, k2, a, b, xs, ys, ex, sx, sy, q⟩ := q1
  subst ex
  obtain ⟨u1, u2, rfl, e1, e2⟩ := vals2 r1
  cases e1
  cases e2
  obtain ⟨its, rv, px⟩ := inv_sqA I1 sx
  obtain ⟨its2, rv2, py⟩ := inv_sqA I1 sy
  have la := sqK_lt px
  have lb := sqK_lt py
  refine call_zipK k1 k2 px py fun h' hz hTI hTO i1 i2 kp => wpAny_pyIter_zip hz ?_
  have I2 : Inv X pins σ H1 { s1 with heap := h' } := I1.kept (t' := s1.toks) kp
  refine ⟨s1.heap.objs.size + 4, [s1.heap.objs.size + 4, s1.heap.objs.size + 2, s1.heap.objs.size + 3, s1.heap.objs.size, s1.heap.objs.size + 1], _, _, H1, rfl, I2,
    turn_zipK (k1 := k1) (k2 := k2) (Nat.ne_of_lt la) (Nat.ne_of_lt (Nat.lt_succ_of_lt lb)) (sepK la lb),
    ⟨hz, hTI, ⟨_, _, hTO⟩, i1, i2⟩, fun d hd => ?_, q⟩
  have hle : s1.heap.objs.size ≤ d := by
    simp only [List.mem_cons, List.not_mem_nil, or_false] at hd
    rcases hd with q | q | q | q | q <;> subst q <;> omega
  exact I1.fpOk hle (I1.hok.fresh hle)
/-- the walk of a zip -/
theorem walk_zipK {K : PySem.W.Frag} {k1 k2 : Bool} {a b : Addr} {xs ys : List V} {n : Nat} (hn : n = min xs.length ys.length) :
    Walk (ItzK K k1 k2 a b) n (fun H => SqA K H k1 a xs ∧ SqA K H k2 b ys) (YPair (fun i => xs[i]?) (fun i => ys[i]?)) := by
  subst hn
  refine ⟨fun i _ hi q => ?_, fun _ q => ⟨xs, ys, q.1, q.2, rfl⟩, fun i H v H' _ q y => ?_⟩
  · have h1 : i < xs.length := by omega
    have h2 : i < ys.length := by omega
    exact ⟨xs, ys, xs[i], ys[i], q.1, q.2, by simp [h1], by simp [h2]⟩
  · obtain ⟨T, x, z, e1, e2, e3, e4, e5⟩ := y
    exact ⟨T, x, z, e1, e2, e3, e4 xs q.1, e5 ys q.2⟩
end Pv

set_option Elab.async false
set_option linter.all false
set_option maxRecDepth 100000
namespace Pv
open PySem PySem.Spec PyProof.Rows L2

section
variable {X : Cx} {c : Cc} {P H P1 H1 : Hp} {env : SEnv} {σ : L2.St} {S S1 : Sto} {x y z : Ex} {pos : Pos} {e e2 tgt : Expr}
/-! ### walked: a list or a tuple -/
def itA (K : PySem.W.Frag) (k : Bool) (a : Addr) : It := if k = true then Itt K a else Itl K a
def iSeq (K : PySem.W.Frag) (tl : TE) : TI := fun σ H R => tl σ H fun x H1 => ∃ a k xs, x = V.ref a ∧ SqA K H1 k a xs ∧ R (itA K k a) H1
theorem pi_seq {tl : TE} (hl : PE X e tl) : PI X tgt e (iSeq X.K tl) := by
  refine ⟨fun pins s σ H R I hyp => thn (hl.run pins s σ H _ I hyp) fun v s1 ⟨x, H1, I1, r1, a, k, xs, ex, sq, q⟩ => ?_⟩
  subst ex
  cases r1
  have new1 : ∀ b ∈ [s1.heap.objs.size], FpOk X pins H1 b := fun b hb => by
    rw [List.mem_singleton.mp hb]
    exact I1.fpOk (Nat.le_refl _) (I1.hok.fresh (Nat.le_refl _))
  cases k with
  | true =>
    obtain ⟨its, rv, p, _⟩ := I1.tuple (show SqT X.K H1 a xs from sq)
    exact wpAny_pyIter_tuple (show s1.heap.IsTuple a its.toArray from p) ⟨s1.heap.objs.size, [s1.heap.objs.size], _, _, H1, rfl, I1.kept (t' := s1.toks) fun b o e => Heap.get?_push_of_some _ e,
      turn_tuple a _, ⟨_, Heap.get?_push_size _ rfl, rfl, rfl⟩, new1, q⟩
  | false =>
    obtain ⟨its, rv, p, _⟩ := I1.list (show SqL X.K H1 a xs from sq)
    exact wpAny_pyIter_list p.isList ⟨s1.heap.objs.size, [s1.heap.objs.size], _, _, H1, rfl, I1.kept (t' := s1.toks) fun b o e => Heap.get?_push_of_some _ e,
      turn_list a _, ⟨_, Heap.get?_push_size _ rfl, rfl, rfl⟩, new1, q⟩
theorem seqD_rep2 {d : D} {l : List D} {v : V} (q : seqD d = some l) (r : Rep c.K c.G P d v) : ∃ k a xs, v = V.ref a ∧ (∀ H, Le P H → SqA c.K H k a xs) ∧ Reps c.K c.G P l xs := by
  cases r with
  | tup h r => cases q; exact ⟨true, _, _, rfl, fun H le => .inl (.inl (le.tup h)), r⟩
  | rt h r => cases q; exact ⟨true, _, _, rfl, fun H le => le.sqT h, r⟩
  | lst h r => cases q; exact ⟨false, _, _, rfl, fun H le => .inl (.inl (le.lst h)), r⟩
  | _ => cases q
theorem walkD_seq {k : Bool} {a : Addr} {l : List D} {xs : List V} (sq : ∀ H, Le P1 H → SqA c.K H k a xs) (r : Reps c.K c.G P1 l xs) : WalkD c (itA c.K k a) P1 l := by
  cases k with
  | true => exact walkD_at (xs := xs) (by rw [r.length]; exact walk_tup) sq r
  | false => exact walkD_at (xs := xs) (by rw [r.length]; exact walk_list) sq r
theorem ti_val (hK : X.K = c.K) (he : PE X e (TEx c x)) : PI X tgt e (TIx c (iVal x)) :=
  pi_imp (pi_seq he) fun σ H R ⟨P, env, S, s, h⟩ => tex_bindG s h fun r S1 v P1 H1 st1 s1 rp h1 => by
    cases q : seqD r.d with
    | none => simp only [q] at h1; exact h1.elim
    | some l =>
      simp only [q] at h1
      obtain ⟨k, a, xs, e, sq, rx⟩ := seqD_rep2 q rp
      rw [hK]
      exact ⟨a, k, xs, e, sq H1 s1.le, h1 _ P1 H1 st1 s1.so (walkD_seq sq rx)⟩
/-! ### ranges -/
def iRg1 (l : Lx) : Ix := fun env S => (l env S).bind fun ds S => match ds with
  | [.int n] => if -line ≤ n ∧ n ≤ line then .ok ((List.range n.toNat).map fun (i : Nat) => D.int i) S else .bad
  | _ => .bad
def iRg2 (l : Lx) : Ix := fun env S => (l env S).bind fun ds S => match ds with
  | [.int m, .int n] => if (-line ≤ m ∧ m ≤ line) ∧ -line ≤ n ∧ n ≤ line then .ok ((List.range (n - m).toNat).map fun (i : Nat) => D.int (m + i)) S else .bad
  | _ => .bad
theorem walkD_rg (lo : Int) (n : Nat) : WalkD c (Itr lo n) P1 ((List.range n).map fun (i : Nat) => D.int (lo + i)) := by
  refine ⟨?_⟩
  rw [List.length_map, List.length_range]
  refine (walk_range (lo := lo) (n := n)).mono (fun _ _ => trivial) fun i H x H' hi _ y => ?_
  obtain ⟨rfl, rfl⟩ := y
  exact ⟨.int (lo + i), by rw [List.getElem?_map, List.getElem?_range hi]; rfl, fun P S e le so => ⟨P, Step.refl le, so, .int _⟩⟩
theorem line_62 : (line : Int) < 2 ^ 62 := by decide
theorem ti_rg1 {l : Lx} {p pos : Pos} (hg : Gl X "range") (hm : X.mg "range" = none) (ha : PA X [e] (TLx c l)) (hs : starEach [e] X.env = [(false, eval e X.env)]) : PI X tgt (.Call (.Name "range" p) [e] [] pos) (TIx c (iRg1 l)) :=
  pi_imp (pi_range1 hg hm ha hs) fun σ H R ⟨P, env, S, s, h⟩ => tlx_bind s h fun ds S1 vs P1 H1 st1 s1 rp h1 => by
    have hl := line_62
    match ds, rp, h1 with
    | [.int n], .cons r .nil, h1 =>
      cases r
      dsimp only at h1
      by_cases hb : -line ≤ n ∧ n ≤ line
      · rw [if_pos hb] at h1
        refine ⟨n, rfl, by omega, by omega, h1 _ P1 H1 st1 s1.so ?_⟩
        have := walkD_rg (c := c) (P1 := P1) 0 n.toNat
        simpa using this
      · rw [if_neg hb] at h1; exact h1.elim
theorem ti_rg2 {l : Lx} {p pos : Pos} (hg : Gl X "range") (hm : X.mg "range" = none) (ha : PA X [e, e2] (TLx c l)) (hs : starEach [e, e2] X.env = [(false, eval e X.env), (false, eval e2 X.env)]) (hs2 : starEach [e2] X.env = [(false, eval e2 X.env)]) :
    PI X tgt (.Call (.Name "range" p) [e, e2] [] pos) (TIx c (iRg2 l)) :=
  pi_imp (pi_range2 hg hm ha hs hs2) fun σ H R ⟨P, env, S, s, h⟩ => tlx_bind s h fun ds S1 vs P1 H1 st1 s1 rp h1 => by
    have hl := line_62
    match ds, rp, h1 with
    | [.int m, .int n], .cons r (.cons r2 .nil), h1 =>
      cases r
      cases r2
      dsimp only at h1
      by_cases hb : (-line ≤ m ∧ m ≤ line) ∧ -line ≤ n ∧ n ≤ line
      · rw [if_pos hb] at h1
        exact ⟨m, n, rfl, ⟨by omega, by omega, by omega, by omega⟩, h1 _ P1 H1 st1 s1.so (walkD_rg m (n - m).toNat)⟩
      · rw [if_neg hb] at h1; exact h1.elim
/-! ### zip -/
def zipD : List D → List D → List D
  | a :: l, b :: m => .tup [a, b] :: zipD l m
  | _, _ => []
theorem zipD_length : ∀ l m : List D, (zipD l m).length = min l.length m.length
  | [], m => by simp [zipD]
  | a :: l, [] => by simp [zipD]
  | a :: l, b :: m => by
    show (zipD l m).length + 1 = _
    rw [zipD_length l m, List.length_cons, List.length_cons]
    omega
theorem zipD_get : ∀ {l m : List D} {i : Nat} {a b : D}, l[i]? = some a → m[i]? = some b → (zipD l m)[i]? = some (.tup [a, b])
  | [], _, _, _, _, e, _ => by simp at e
  | _ :: _, [], _, _, _, _, e => by simp at e
  | x :: l, y :: m, 0, a, b, e1, e2 => by
    have h1 : x = a := Option.some.inj e1
    have h2 : y = b := Option.some.inj e2
    rw [h1, h2]
    rfl
  | x :: l, y :: m, i + 1, a, b, e1, e2 => zipD_get (l := l) (m := m) (i := i) e1 e2
def iZip (l : Lx) : Ix := fun env S => (l env S).bind fun ds S => match ds with
  | [a, b] => (match seqD a, seqD b with
    | some l1, some l2 => .ok (zipD l1 l2) S
    | _, _ => .bad)
  | _ => .bad
/-- a new pair of the i-th ones, laid for good -/
theorem walkD_pair {J : It} {Gq : Hp → Prop} {fx fy : Nat → Option V} {ds : List D} (w : Walk J ds.length Gq (YPair fx fy)) (hg : ∀ H, Le P1 H → Gq H)
    (hr : ∀ i x y, i < ds.length → fx i = some x → fy i = some y → ∃ a b, ds[i]? = some (.tup [a, b]) ∧ Rep c.K c.G P1 a x ∧ Rep c.K c.G P1 b y) : WalkD c J P1 ds :=
  ⟨w.mono hg fun i H v H' hi _ yp => by
    obtain ⟨T, x, y, rfl, nT, rfl, ex, ey⟩ := yp
    obtain ⟨a, b, ed, ra, rb⟩ := hr i x y hi ex ey
    refine ⟨_, ed, fun P S e le so => ⟨upd P T (.tup [x, y]), Step.lay le nT (so.new nT), so.lay le nT, ?_⟩⟩
    have up : Same P1 (upd P T (.tup [x, y])) := fun q u eq => by
      have := e q u eq
      rw [upd_ne (ne_of_none this (le.none nT))]
      exact this
    exact .tup upd_same (.cons (ra.mono up) (.cons (rb.mono up) .nil))⟩
theorem ti_zip {l : Lx} {p pos tpos : Pos} {elts : List Expr} {kk : Nat} (hK : X.K = c.K) (hg : Gl X "zip") (hm : X.mg "zip" = none) (ha : PA X [e, e2] (TLx c l)) (hs : starEach [e, e2] X.env = (false, eval e X.env) :: starEach [e2] X.env) (hpl : (backTo pos (starEach [e2] X.env)).any (·.1) = false) :
    PI X (.Tuple elts kk tpos) (.Call (.Name "zip" p) [e, e2] [] pos) (TIx c (iZip l)) :=
  pi_imp (pi_zipK hg hm ha hs hpl) fun σ H R ⟨P, env, S, s, h⟩ => tlx_bind s h fun ds S1 vs P1 H1 st1 s1 rp h1 => by
    match ds, rp, h1 with
    | [a, b], .cons ra (.cons rb .nil), h1 =>
      cases qa : seqD a with
      | none => simp only [qa] at h1; exact h1.elim
      | some l1 =>
        cases qb : seqD b with
        | none => simp only [qa, qb] at h1; exact h1.elim
        | some l2 =>
          simp only [qa, qb] at h1
          obtain ⟨k1, p1, xs, rfl, sx, rx⟩ := seqD_rep2 qa ra
          obtain ⟨k2, p2, ys, rfl, sy, ry⟩ := seqD_rep2 qb rb
          rw [hK]
          refine ⟨k1, k2, p1, p2, xs, ys, rfl, sx H1 s1.le, sy H1 s1.le, h1 _ P1 H1 st1 s1.so ?_⟩
          refine walkD_pair (walk_zipK (by rw [zipD_length, rx.length, ry.length])) (fun H le => ⟨sx H le, sy H le⟩) fun i x y hi ex ey => ?_
          obtain ⟨d1, e1, r1⟩ := rx.getV ex
          obtain ⟨d2, e2, r2⟩ := ry.getV ey
          exact ⟨d1, d2, zipD_get e1 e2, r1, r2⟩
end
end Pv

set_option Elab.async false
set_option linter.all false
set_option maxRecDepth 100000
namespace Pv
open PySem PySem.Spec PyProof.Rows L2

/-! ### plain data -/
mutual
def D.py : D → PyData
  | .non => .none
  | .bl b => .bool b
  | .int i => .int i
  | .str s => .str s
  | .tup l => .tuple (pyL l)
  | .lst l => .list (pyL l)
  | .ro l => .list (pyL l)
  | .rt l => .tuple (pyL l)
  | .dK _ => .none
  | .dT _ => .none
  | .obj _ _ => .none
  | .rng _ _ => .none
  | .dF _ => .none
def pyL : List D → List PyData
  | [] => []
  | d :: l => D.py d :: pyL l
end
mutual
def D.flat : D → Bool
  | .tup l => flatL l
  | .lst l => flatL l
  | .ro l => flatL l
  | .rt l => flatL l
  | .dK _ => false
  | .dT _ => false
  | .obj _ _ => false
  | .rng _ _ => false
  | .dF _ => false
  | _ => true
def flatL : List D → Bool
  | [] => true
  | d :: l => D.flat d && flatL l
end
section
variable {K : PySem.W.Frag} {G : Nat → Option (Addr × List Str)} {P H : Hp}
mutual
theorem Rep.dp (le : Le P H) : ∀ {d : D} {v : V}, Rep K G P d v → D.flat d = true → Dp K H v (D.py d)
  | _, _, .non, _ => .non
  | _, _, .bl b, _ => .bl b
  | _, _, .int i, _ => .int i
  | _, _, .str s, _ => .str s
  | _, _, .tup h r, f => .tup (.inl (.inl (le.tup h))) (Reps.dp le r f)
  | _, _, .rt h r, f => .tup (le.sqT h) (Reps.dp le r f)
  | _, _, .lst h r, f => .lst (.inl (.inl (le.lst h))) (Reps.dp le r f)
  | _, _, .ro h r, f => .lst (le.sqL h) (Reps.dp le r f)
  | _, _, .dK _ _, f => by cases f
  | _, _, .dT _ _, f => by cases f
  | _, _, .obj _ _ _ _, f => by cases f
  | _, _, .rng _, f => by cases f
  | _, _, .dF _ _, f => by cases f
theorem Reps.dp (le : Le P H) : ∀ {l : List D} {vs : List V}, Reps K G P l vs → flatL l = true → DpAll K H vs (pyL l)
  | _, _, .nil, _ => .nil
  | _, _, .cons h r, f => by
    obtain ⟨f1, f2⟩ := Bool.and_eq_true_iff.mp (show (D.flat _ && flatL _) = true from f)
    exact .cons (Rep.dp le h f1) (Reps.dp le r f2)
end
end
def okD (d : D) : Bool := D.flat d && SeqAt.shaped (D.py d)
def bR (b : Bool) : R := ⟨false, .bl b⟩
def eqD (d e : D) : Option R := if (okD d && okD e) = true then some (bR (PyData.eqv (D.py d) (D.py e))) else none
def neD (d e : D) : Option R := if (okD d && okD e) = true then some (bR (!PyData.eqv (D.py d) (D.py e))) else none
def isND (d e : D) : Option R := match e with
  | .non => some (bR (match d with | .non => true | _ => false))
  | _ => none
def notND (d e : D) : Option R := match e with
  | .non => some (bR (match d with | .non => false | _ => true))
  | _ => none
def cmpI (f : Int → Int → Bool) (d e : D) : Option R := match d, e with
  | .int i, .int j => some (bR (f i j))
  | _, _ => none
def ltD (d e : D) : Option R := match d, e with
  | .int i, .int j => some (bR (decide (i < j)))
  | .str s, .str t => some (bR (decide (s.cps.toList < t.cps.toList)))
  | _, _ => none
def leD : D → D → Option R := cmpI fun i j => decide (i ≤ j)
def gtD : D → D → Option R := cmpI fun i j => decide (j < i)
def geD : D → D → Option R := cmpI fun i j => decide (j ≤ i)
def memL (d : D) (l : List D) : Bool := (pyL l).any fun z => PyData.eqv z (D.py d)
/-- the dict's key of a value -/
def keyOf : D → Option Key
  | .int i => some (.inl i)
  | .str s => some (.inr s)
  | _ => none
def keysOf : List D → Option (List Key)
  | [] => some []
  | d :: l => (keyOf d).bind fun k => (keysOf l).map fun ks => k :: ks
def look {κ : Type} [DecidableEq κ] (l : List (κ × D)) (k : κ) : Option D := (l.find? fun p => decide (p.1 = k)).map (·.2)
def getD (d k : D) : Option D := match d, k with
  | .dK l, k => (keyOf k).bind fun k => look l k
  | .dT l, .tup ks => (keysOf ks).bind fun k => look l k
  | _, _ => none
def hasD (d k : D) : Option Bool := match d, k with
  | .dK l, k => (keyOf k).map fun k => (look l k).isSome
  | .dT l, .tup ks => (keysOf ks).map fun k => (look l k).isSome
  | _, _ => none
def memD (d e : D) : Option R := match e with
  | .lst l => if (okD d && okD (.lst l)) = true then some (bR (memL d l)) else none
  | .tup l => if (okD d && okD (.tup l)) = true then some (bR (memL d l)) else none
  | .rt l => if (okD d && okD (.rt l)) = true then some (bR (memL d l)) else none
  | .str t => (match d with
    | .str s => some (bR (!(Builtin.Str.occurrences t s 0 t.length 1).isEmpty))
    | _ => none)
  | _ => (hasD e d).map bR
def nmemD (d e : D) : Option R := match e with
  | .lst l => if (okD d && okD (.lst l)) = true then some (bR (!memL d l)) else none
  | .tup l => if (okD d && okD (.tup l)) = true then some (bR (!memL d l)) else none
  | .rt l => if (okD d && okD (.rt l)) = true then some (bR (!memL d l)) else none
  | .str t => (match d with
    | .str s => some (bR (!(!(Builtin.Str.occurrences t s 0 t.length 1).isEmpty)))
    | _ => none)
  | _ => (hasD e d).map fun b => bR (!b)
/-! ### operators -/
def two64 : Int := 18446744073709551616
def tupOf : D → Option (List D)
  | .tup l => some l
  | .rt l => some l
  | _ => none
theorem tupOf_rep {K : PySem.W.Frag} {G : Nat → Option (Addr × List Str)} {P H : Hp} {d : D} {l : List D} {v : V} (e : tupOf d = some l) (r : Rep K G P d v) (le : Le P H) : ∃ a xs, v = .ref a ∧ SqT K H a xs ∧ Reps K G P l xs := by
  cases r with
  | tup h r => cases e; exact ⟨_, _, rfl, .inl (.inl (le.tup h)), r⟩
  | rt h r => cases e; exact ⟨_, _, rfl, le.sqT h, r⟩
  | _ => cases e
/-- the whole, or what is new -/
def catT (d e : D) (a b : List D) : D := match a, b with
  | [], _ => e
  | _, [] => d
  | _, _ => .tup (a ++ b)
def addD (d e : D) : Option R := match d, e with
  | .int i, .int j => some ⟨false, .int (i + j)⟩
  | .lst a, .lst b => if a.length + b.length ≤ line then some ⟨true, .lst (a ++ b)⟩ else none
  | .str a, .str b => if a.length + b.length ≤ line then some ⟨false, .str (a ++ b)⟩ else none
  | d, e => match tupOf d, tupOf e with
    | some a, some b => if a.length + b.length ≤ line then some ⟨false, catT d e a b⟩ else none
    | _, _ => none
def subD (d e : D) : Option R := match d, e with
  | .int i, .int j => some ⟨false, .int (i - j)⟩
  | _, _ => none
def repL : Nat → List D → List D
  | 0, _ => []
  | n + 1, l => l ++ repL n l
def mulD (d e : D) : Option R := match d, e with
  | .int i, .int j => if ((-two64 < i ∧ i < two64) ∨ (-two64 < j ∧ j < two64)) ∨ i.natAbs.log2 + j.natAbs.log2 < 1000000 then some ⟨false, .int (i * j)⟩ else none
  | .lst a, .int k => if -line ≤ k ∧ k ≤ line ∧ a.length * k.toNat ≤ line then some ⟨true, .lst (repL k.toNat a)⟩ else none
  | _, _ => none
def modD (d e : D) : Option R := match d, e with
  | .int i, .int j => if j = 0 then none else some ⟨false, .int (i.fmod j)⟩
  | _, _ => none
def fdivD (d e : D) : Option R := match d, e with
  | .int i, .int j => if (j ≠ 0 ∧ j.natAbs < 1073741824) ∨ (0 < j ∧ j.natAbs.log2 < 9000) then some ⟨false, .int (i.fdiv j)⟩ else none
  | _, _ => none
def powD (d e : D) : Option R := match d, e with
  | .int i, .int j => if 0 ≤ j ∧ j ≤ 1000000 ∧ i.natAbs < 18446744073709551616 then some ⟨false, .int (i ^ j.toNat)⟩ else none
  | _, _ => none
def shlD (d e : D) : Option R := match d, e with
  | .int i, .int j => if 0 ≤ j ∧ j ≤ 1000000 ∧ i.natAbs < 18446744073709551616 then some ⟨false, .int (i * 2 ^ j.toNat)⟩ else none
  | _, _ => none
def negD (d : D) : Option R := match d with
  | .int i => some ⟨false, .int (-i)⟩
  | _ => none
/-- a value for good -/
theorem qx_ret {c : Cc} {P H : Hp} {S : Sto} {Q : VK} {d : D} {v : V} (h : QX c P H Q ⟨false, d⟩ S) (le : Le P H) (so : StoOk c.K c.G c.ρ P H S) (r : Rep c.K c.G P d v) : Q v H := h v P H (Step.refl le) so r
theorem qx_lst {c : Cc} {P H : Hp} {S : Sto} {Q : VK} {l : List D} {vs : List V} (h : QX c P H Q ⟨true, .lst l⟩ S) (le : Le P H) (so : StoOk c.K c.G c.ρ P H S) (r : Reps c.K c.G P l vs) : ∀ p, H p = none → Q (.ref p) (upd H p (.lst vs)) := fun p n =>
  h (.ref p) P _ (Step.alloc le n) (so.alloc le n) (by unfold RepR; rw [if_pos rfl]; exact ⟨p, rfl, n, le.none n, .lst upd_same r⟩)
theorem qx_tup {c : Cc} {P H : Hp} {S : Sto} {Q : VK} {l : List D} {vs : List V} (h : QX c P H Q ⟨false, .tup l⟩ S) (le : Le P H) (so : StoOk c.K c.G c.ρ P H S) (r : Reps c.K c.G P l vs) : ∀ p, H p = none → Q (.ref p) (upd H p (.tup vs)) := fun p n =>
  h (.ref p) (upd P p (.tup vs)) _ (Step.lay le n (so.new n)) (so.lay le n) (RepR.sh (.tup upd_same (r.mono fun b o e => by rw [upd_ne (ne_of_none e (le.none n))]; exact e)))
section
variable {X : Cx} {c : Cc}
theorem op_imp {f : Value → Value → Sem Value} {r r' : R2} (h : OpR X f r) (i : ∀ x y H Q, r' x y H Q → r x y H Q) : OpR X f r' := fun pins s σ H x y v u Q I rx ry q => h pins s σ H x y v u Q I rx ry (i x y H Q q)
theorem od_eq (hK : X.K = c.K) (hu : X.A.units + 65 < cLine) : OpR X (compareOp .Eq) (rOp2 c eqD) := op_imp (op_eqD (by omega)) fun x y H Q ⟨P, S, a, b, r, le, n0, so, ra, rb, e, q⟩ => by
  unfold eqD at e
  split at e
  · rename_i hc
    cases e
    simp only [okD, Bool.and_eq_true] at hc
    rw [hK]
    exact ⟨_, _, ra.dp le hc.1.1, rb.dp le hc.2.1, hc.1.2, hc.2.2, qx_ret q le so (.bl _)⟩
  · cases e
theorem od_ne (hK : X.K = c.K) (hu : X.A.units + 65 < cLine) : OpR X (compareOp .NotEq) (rOp2 c neD) := op_imp (op_neD (by omega)) fun x y H Q ⟨P, S, a, b, r, le, n0, so, ra, rb, e, q⟩ => by
  unfold neD at e
  split at e
  · rename_i hc
    cases e
    simp only [okD, Bool.and_eq_true] at hc
    rw [hK]
    exact ⟨_, _, ra.dp le hc.1.1, rb.dp le hc.2.1, hc.1.2, hc.2.2, qx_ret q le so (.bl _)⟩
  · cases e
theorem od_isN : OpR X (compareOp .Is) (rOp2 c isND) := op_imp op_isN fun x y H Q ⟨P, S, a, b, r, le, n0, so, ra, rb, e, q⟩ => by
  cases rb with
  | non =>
    refine ⟨rfl, ?_⟩
    cases ra <;> (cases e; exact qx_ret q le so (.bl _))
  | _ => cases e
theorem od_notN : OpR X (compareOp .IsNot) (rOp2 c notND) := op_imp op_notN fun x y H Q ⟨P, S, a, b, r, le, n0, so, ra, rb, e, q⟩ => by
  cases rb with
  | non =>
    refine ⟨rfl, ?_⟩
    cases ra <;> (cases e; exact qx_ret q le so (.bl _))
  | _ => cases e
theorem od_cmpI {op : CmpOp} {f : Int → Int → Bool} (h : OpR X (compareOp op) (rI0 fun i j => .bl (f i j))) : OpR X (compareOp op) (rOp2 c (cmpI f)) := op_imp h fun x y H Q ⟨P, S, a, b, r, le, n0, so, ra, rb, e, q⟩ => by
  cases ra with
  | int i =>
    cases rb with
    | int j => cases e; exact ⟨i, j, rfl, rfl, qx_ret q le so (.bl _)⟩
    | _ => cases e
  | _ => cases rb <;> cases e
theorem od_le : OpR X (compareOp .LtE) (rOp2 c leD) := od_cmpI op_le
theorem od_gt : OpR X (compareOp .Gt) (rOp2 c gtD) := od_cmpI op_gt
theorem od_ge : OpR X (compareOp .GtE) (rOp2 c geD) := od_cmpI op_ge
theorem od_lt : OpR X (compareOp .Lt) (rOp2 c ltD) := op_imp (op_lt.or op_lt_str) fun x y H Q ⟨P, S, a, b, r, le, n0, so, ra, rb, e, q⟩ => by
  cases ra with
  | int i =>
    cases rb with
    | int j => cases e; exact .inl ⟨i, j, rfl, rfl, qx_ret q le so (.bl _)⟩
    | _ => cases e
  | str s =>
    cases rb with
    | str t => cases e; exact .inr ⟨s, t, rfl, rfl, qx_ret q le so (.bl _)⟩
    | _ => cases e
  | _ => cases rb <;> cases e
theorem add_tup {P H : Hp} {S : Sto} {Q : VK} {d e : D} {x y : V} {r : R} {l m : List D} (le : Le P H) (so : StoOk c.K c.G c.ρ P H S) (ra : Rep c.K c.G P d x) (rb : Rep c.K c.G P e y) (h1 : tupOf d = some l) (h2 : tupOf e = some m)
    (he : (if l.length + m.length ≤ line then some (⟨false, catT d e l m⟩ : R) else none) = some r) (q : QX c P H Q r S) : rCatA c.K x y H Q := by
  split at he
  · rename_i hl
    cases he
    obtain ⟨a, xs, rfl, sx, rx⟩ := tupOf_rep h1 ra le
    obtain ⟨b, ys, rfl, sy, ry⟩ := tupOf_rep h2 rb le
    refine ⟨a, b, xs, ys, rfl, rfl, sx, sy, by rw [← rx.length, ← ry.length, ← line_eq]; exact hl, fun z => ?_, fun z1 z2 => ?_, fun z1 z2 => ?_⟩
    · subst z
      cases rx
      exact qx_ret q le so rb
    · subst z2
      cases ry
      cases rx with
      | nil => exact absurd rfl z1
      | cons _ _ => exact qx_ret q le so ra
    · cases rx with
      | nil => exact absurd rfl z1
      | cons p1 p2 =>
        cases ry with
        | nil => exact absurd rfl z2
        | cons p3 p4 => exact qx_tup q le so ((Reps.cons p1 p2).append (.cons p3 p4))
  · cases he
theorem od_add (hK : X.K = c.K) : OpR X (binaryOp .Add) (rOp2 c addD) := op_imp (op_add.or (op_cat.or (op_catA.or op_add_str))) fun x y H Q ⟨P, S, a, b, r, le, n0, so, ra, rb, e, q⟩ => by
  have tups : ∀ {l m : List D}, tupOf a = some l → tupOf b = some m → (if l.length + m.length ≤ line then some (⟨false, catT a b l m⟩ : R) else none) = some r → rCatA X.K x y H Q := fun h1 h2 h3 => by
    rw [hK]
    exact add_tup le so ra rb h1 h2 h3 q
  cases ra with
  | int i =>
    cases rb with
    | int j => cases e; exact .inl ⟨i, j, rfl, rfl, qx_ret q le so (.int _)⟩
    | _ => cases e
  | str s =>
    cases rb with
    | str t =>
      simp only [addD] at e
      split at e
      · rename_i hl
        cases e
        exact .inr (.inr (.inr ⟨s, t, rfl, rfl, by rw [← line_eq]; exact hl, qx_ret q le so (.str _)⟩))
      · cases e
    | _ => cases e
  | lst h1 r1 =>
    cases rb with
    | lst h2 r2 =>
      simp only [addD] at e
      split at e
      · rename_i hl
        cases e
        exact .inr (.inl ⟨_, _, _, _, rfl, rfl, le.lst h1, le.lst h2, by rw [← r1.length, ← r2.length, ← line_eq]; exact hl, qx_lst q le so (r1.append r2)⟩)
      · cases e
    | _ => cases e
  | tup h1 r1 =>
    cases rb with
    | tup h2 r2 => exact .inr (.inr (.inl (tups rfl rfl e)))
    | rt h2 r2 => exact .inr (.inr (.inl (tups rfl rfl e)))
    | _ => cases e
  | rt h1 r1 =>
    cases rb with
    | tup h2 r2 => exact .inr (.inr (.inl (tups rfl rfl e)))
    | rt h2 r2 => exact .inr (.inr (.inl (tups rfl rfl e)))
    | _ => cases e
  | _ => cases rb <;> cases e
theorem od_sub : OpR X (binaryOp .Sub) (rOp2 c subD) := op_imp op_sub fun x y H Q ⟨P, S, a, b, r, le, n0, so, ra, rb, e, q⟩ => by
  cases ra with
  | int i =>
    cases rb with
    | int j => cases e; exact ⟨i, j, rfl, rfl, qx_ret q le so (.int _)⟩
    | _ => cases e
  | _ => cases rb <;> cases e
theorem repL_ok {P : Hp} {l : List D} {vs : List V} (r : Reps c.K c.G P l vs) : ∀ n : Nat, Reps c.K c.G P (repL n l) (List.replicate n vs).flatten
  | 0 => .nil
  | n + 1 => by
    rw [List.replicate_succ, List.flatten_cons]
    exact r.append (repL_ok r n)
theorem od_mul : OpR X (binaryOp .Mult) (rOp2 c mulD) := op_imp ((op_mul.or op_rep).or op_mulW) fun x y H Q ⟨P, S, a, b, r, le, n0, so, ra, rb, e, q⟩ => by
  cases ra with
  | int i =>
    cases rb with
    | int j =>
      simp only [mulD] at e
      split at e
      · rename_i hb
        cases e
        rcases hb with hb | hb
        · exact .inl (.inl ⟨i, j, rfl, rfl, hb, qx_ret q le so (.int _)⟩)
        · exact .inr ⟨i, j, rfl, rfl, hb, qx_ret q le so (.int _)⟩
      · cases e
    | _ => cases e
  | lst h1 r1 =>
    cases rb with
    | int k =>
      simp only [mulD] at e
      split at e
      · rename_i hb
        cases e
        have h62 := line_62
        exact .inl (.inr ⟨_, k, _, rfl, rfl, le.lst h1, by omega, by omega, by rw [← r1.length, ← line_eq]; exact hb.2.2, qx_lst q le so (repL_ok r1 _)⟩)
      · cases e
    | _ => cases e
  | _ => cases rb <;> cases e
theorem od_mod : OpR X (binaryOp .Mod) (rOp2 c modD) := op_imp op_modN fun x y H Q ⟨P, S, a, b, r, le, n0, so, ra, rb, e, q⟩ => by
  cases ra with
  | int i =>
    cases rb with
    | int j =>
      simp only [modD] at e
      split at e
      · cases e
      · rename_i hb
        cases e
        exact ⟨i, j, rfl, rfl, hb, qx_ret q le so (.int _)⟩
    | _ => cases e
  | _ => cases rb <;> cases e
theorem od_fdiv : OpR X (binaryOp .FloorDiv) (rOp2 c fdivD) := op_imp (op_fdivN.or op_fdivW) fun x y H Q ⟨P, S, a, b, r, le, n0, so, ra, rb, e, q⟩ => by
  cases ra with
  | int i =>
    cases rb with
    | int j =>
      simp only [fdivD] at e
      split at e
      · rename_i hb
        cases e
        rcases hb with hb | hb
        · exact .inl ⟨i, j, rfl, rfl, hb, qx_ret q le so (.int _)⟩
        · exact .inr ⟨i, j, rfl, rfl, hb, by show Q (.int (i / j)) H; rw [← Int.fdiv_eq_ediv_of_nonneg i (Int.le_of_lt hb.1)]; exact qx_ret q le so (.int _)⟩
      · cases e
    | _ => cases e
  | _ => cases rb <;> cases e
theorem od_pow : OpR X (binaryOp .Pow) (rOp2 c powD) := op_imp op_pow fun x y H Q ⟨P, S, a, b, r, le, n0, so, ra, rb, e, q⟩ => by
  cases ra with
  | int i =>
    cases rb with
    | int j =>
      simp only [powD] at e
      split at e
      · rename_i hb
        cases e
        exact ⟨i, j, rfl, rfl, hb, qx_ret q le so (.int _)⟩
      · cases e
    | _ => cases e
  | _ => cases rb <;> cases e
theorem od_shl : OpR X (binaryOp .LShift) (rOp2 c shlD) := op_imp op_shl fun x y H Q ⟨P, S, a, b, r, le, n0, so, ra, rb, e, q⟩ => by
  cases ra with
  | int i =>
    cases rb with
    | int j =>
      simp only [shlD] at e
      split at e
      · rename_i hb
        cases e
        exact ⟨i, j, rfl, rfl, hb, qx_ret q le so (.int _)⟩
      · cases e
    | _ => cases e
  | _ => cases rb <;> cases e
theorem ud_neg : UnR X (unaryOp .USub) (rOp1 c negD) := fun pins s σ H x v Q I rx ⟨P, S, a, r, le, n0, so, ra, e, q⟩ => un_neg pins s σ H x v Q I rx (by
  cases ra with
  | int i => cases e; exact ⟨i, rfl, qx_ret q le so (.int _)⟩
  | _ => cases e)
end
end Pv

set_option Elab.async false
set_option linter.all false
set_option maxRecDepth 100000
namespace Pv
open PySem PySem.Spec PyProof.Rows L2

/-! ### what may be read now: a value for good, or a list or dict of one's own as it stands -/
inductive Rd1 (K : PySem.W.Frag) (G : Nat → Option (Addr × List Str)) (P H : Hp) : D → V → Prop
  | rep {d : D} {v : V} : Rep K G P d v → Rd1 K G P H d v
  | lst {a : Addr} {xs : List V} {l : List D} : Rd H a (.lst xs) → Reps K G P l xs → Rd1 K G P H (.lst l) (.ref a)
  | dK {a : Addr} {kvs : List (Key × V)} {l : List (Key × D)} : Rd H a (.dK kvs) → RepK K G P l kvs → Rd1 K G P H (.dK l) (.ref a)
  | dT {a : Addr} {kvs : List (List Key × V)} {l : List (List Key × D)} : Rd H a (.dT kvs) → RepT K G P l kvs → Rd1 K G P H (.dT l) (.ref a)
  | obj {a C dx : Addr} {fs : List (Str × V)} {ns : List Str} {c : Nat} {l : List D} : Rd H a (.ins C dx fs) → G c = some (C, ns) → fs.map (·.1) = ns.take l.length → Reps K G P l (fs.map (·.2)) → Rd1 K G P H (.obj c l) (.ref a)
theorem Root.rd1 {K : PySem.W.Frag} {G : Nat → Option (Addr × List Str)} {P H : Hp} {d : D} {a : Addr} (r : Root K G P H d a) : Rd1 K G P H d (.ref a) := by
  cases r with
  | lst h r => exact .lst (.inl h) r
  | dK h r => exact .dK (.inl h) r
  | dT h r => exact .dT (.inl h) r
  | obj h g n r => exact .obj (.inl h) g n r
def peek (env : SEnv) (S : Sto) (i : Nat) : Option D := match sget env i with
  | .sh d => some d
  | .own d => some d
  | .lk d => some d
  | .ref n => S[n]?
  | .un => none
section
variable {c : Cc} {P H P1 H1 : Hp} {env : SEnv} {σ : L2.St} {S S1 : Sto}
theorem Stt.slot (s : Stt c P H env σ S) {i : Nat} {d : D} (e : peek env S i = some d) : ∃ v, σ[i]? = some (some v) ∧ Rd1 c.K c.G P H d v := by
  unfold peek at e
  have sl := s.sl i
  cases q : sget env i with
  | un => rw [q] at e; cases e
  | sh d' =>
    rw [q] at e sl
    cases e
    obtain ⟨v, e, r⟩ := sl
    exact ⟨v, e, .rep r⟩
  | own d' =>
    rw [q] at e sl
    cases e
    obtain ⟨a, e, _, _, r⟩ := sl
    exact ⟨_, e, r.rd1⟩
  | lk d' =>
    rw [q] at e sl
    cases e
    obtain ⟨a, od, u, e, hp, _, hf, r⟩ := sl
    refine ⟨_, e, ?_⟩
    cases r with
    | lst h r => rw [upd_same] at h; cases h; exact .lst (.inr ⟨od, hf⟩) r
    | dK h r => rw [upd_same] at h; cases h; exact .dK (.inr ⟨od, hf⟩) r
    | dT h r => rw [upd_same] at h; cases h; exact .dT (.inr ⟨od, hf⟩) r
    | obj h g n r => rw [upd_same] at h; cases h; exact .obj (.inr ⟨od, hf⟩) g n r
  | ref n =>
    rw [q] at e sl
    obtain ⟨a, e2, hr⟩ := sl
    obtain ⟨b, hb, _, r⟩ := s.so.at_ n d e
    rw [hr] at hb; cases hb
    exact ⟨_, e2, r.rd1⟩

/-! ### reading from it -/
theorem Rd1.seq {d : D} {l : List D} {v : V} (le : Le P H) (r : Rd1 c.K c.G P H d v) (e : seqD d = some l) : ∃ a k xs, v = .ref a ∧ SqA c.K H k a xs ∧ Reps c.K c.G P l xs := by
  cases r with
  | rep r =>
    obtain ⟨k, a, xs, e1, sq, rx⟩ := seqD_rep2 (c := c) e r
    exact ⟨a, k, xs, e1, sq H le, rx⟩
  | lst h r => cases e; exact ⟨_, false, _, rfl, .inl h, r⟩
  | _ => cases e
/-- any sequence that may be read -/
def seqR : D → Option (List D)
  | .tup l => some l
  | .lst l => some l
  | .rt l => some l
  | .ro l => some l
  | _ => none
theorem Rd1.seqR {d : D} {l : List D} {v : V} (le : Le P H) (r : Rd1 c.K c.G P H d v) (e : seqR d = some l) : ∃ a xs, v = .ref a ∧ (SqT c.K H a xs ∨ SqL c.K H a xs) ∧ Reps c.K c.G P l xs := by
  cases r with
  | rep r =>
    cases r with
    | tup h r => cases e; exact ⟨_, _, rfl, .inl (.inl (.inl (le.tup h))), r⟩
    | rt h r => cases e; exact ⟨_, _, rfl, .inl (le.sqT h), r⟩
    | lst h r => cases e; exact ⟨_, _, rfl, .inr (.inl (.inl (le.lst h))), r⟩
    | ro h r => cases e; exact ⟨_, _, rfl, .inr (le.sqL h), r⟩
    | _ => cases e
  | lst h r => cases e; exact ⟨_, _, rfl, .inr (.inl h), r⟩
  | _ => cases e
theorem keyOf_rep {d : D} {k : Key} {v : V} (e : keyOf d = some k) (r : Rep c.K c.G P d v) : v = kV k := by
  cases r with
  | int i => cases e; rfl
  | str s => cases e; rfl
  | _ => cases e
theorem keysOf_rep : ∀ {l : List D} {ks : List Key} {vs : List V}, keysOf l = some ks → Reps c.K c.G P l vs → vs = ks.map kV
  | [], ks, vs, e, r => by
    cases r
    cases e
    rfl
  | d :: l, ks, vs, e, r => by
    cases r with
    | cons r1 r2 =>
      obtain ⟨k, e1, e2⟩ := Option.bind_eq_some_iff.mp (show (keyOf d).bind _ = some ks from e)
      obtain ⟨ks2, e3, e4⟩ := Option.map_eq_some_iff.mp e2
      rw [← e4, List.map_cons, keyOf_rep e1 r1, keysOf_rep e3 r2]
theorem look_K {l : List (Key × D)} {kvs : List (Key × V)} (r : RepK c.K c.G P l kvs) (k : Key) : (∀ d, look l k = some d → ∃ v, valV kvs k = some v ∧ Rep c.K c.G P d v) ∧ (look l k = none → valV kvs k = none) := by
  induction l generalizing kvs with
  | nil => cases r; exact ⟨fun d e => (by cases e), fun _ => rfl⟩
  | cons p l ih =>
    cases r with
    | @cons k' d' v' _ xs r1 r2 =>
      unfold look valV
      rw [List.find?_cons, List.find?_cons]
      by_cases hk : k' = k
      · rw [decide_eq_true hk]
        exact ⟨fun d e => (by cases e; exact ⟨_, rfl, r1⟩), fun e => (by cases e)⟩
      · rw [decide_eq_false hk]
        exact ih r2
theorem look_T {l : List (List Key × D)} {kvs : List (List Key × V)} (r : RepT c.K c.G P l kvs) (k : List Key) : (∀ d, look l k = some d → ∃ v, valV kvs k = some v ∧ Rep c.K c.G P d v) ∧ (look l k = none → valV kvs k = none) := by
  induction l generalizing kvs with
  | nil => cases r; exact ⟨fun d e => (by cases e), fun _ => rfl⟩
  | cons p l ih =>
    cases r with
    | @cons k' d' v' _ xs r1 r2 =>
      unfold look valV
      rw [List.find?_cons, List.find?_cons]
      by_cases hk : k' = k
      · rw [decide_eq_true hk]
        exact ⟨fun d e => (by cases e; exact ⟨_, rfl, r1⟩), fun e => (by cases e)⟩
      · rw [decide_eq_false hk]
        exact ih r2
/-- a dict asked -/
theorem Rd1.dget {d k dv : D} {v w : V} (le : Le P H) (r : Rd1 c.K c.G P H d v) (rk : Rep c.K c.G P k w) (e : getD d k = some dv) : ∃ a u, v = .ref a ∧ DGet H a w (some u) ∧ Rep c.K c.G P dv u := by
  have caseK : ∀ {a : Addr} {kvs : List (Key × V)} {l : List (Key × D)}, Rd H a (.dK kvs) → RepK c.K c.G P l kvs → getD (.dK l) k = some dv → ∃ a' u, V.ref a = .ref a' ∧ DGet H a' w (some u) ∧ Rep c.K c.G P dv u := fun {a kvs l} h r e => by
    obtain ⟨kk, e1, e2⟩ := Option.bind_eq_some_iff.mp (show (keyOf k).bind (fun k => look l k) = some dv from by cases k <;> exact e)
    obtain ⟨u, e3, ru⟩ := (look_K r kk).1 dv e2
    exact ⟨a, u, rfl, .inl ⟨kvs, kk, h, keyOf_rep e1 rk, e3.symm⟩, ru⟩
  have caseT : ∀ {a : Addr} {kvs : List (List Key × V)} {l : List (List Key × D)}, Rd H a (.dT kvs) → RepT c.K c.G P l kvs → getD (.dT l) k = some dv → ∃ a' u, V.ref a = .ref a' ∧ DGet H a' w (some u) ∧ Rep c.K c.G P dv u := fun {a kvs l} h r e => by
    cases rk with
    | tup hb rb =>
      obtain ⟨kk, e1, e2⟩ := Option.bind_eq_some_iff.mp (show (keysOf _).bind (fun k => look l k) = some dv from e)
      obtain ⟨u, e3, ru⟩ := (look_T r kk).1 dv e2
      exact ⟨a, u, rfl, .inr ⟨kvs, kk, _, h, rfl, by rw [← keysOf_rep e1 rb]; exact le.tup hb, e3.symm⟩, ru⟩
    | _ => cases e
  cases r with
  | rep r =>
    cases r with
    | dK h r => exact caseK (le.rd h) r e
    | dT h r => exact caseT (le.rd h) r e
    | _ => cases e
  | dK h r => exact caseK h r e
  | dT h r => exact caseT h r e
  | lst _ _ => cases e
  | obj _ _ _ _ => cases e
theorem Rd1.dhas {d k : D} {b : Bool} {v w : V} (le : Le P H) (r : Rd1 c.K c.G P H d v) (rk : Rep c.K c.G P k w) (e : hasD d k = some b) : ∃ a o, v = .ref a ∧ DGet H a w o ∧ o.isSome = b := by
  have caseK : ∀ {a : Addr} {kvs : List (Key × V)} {l : List (Key × D)}, Rd H a (.dK kvs) → RepK c.K c.G P l kvs → hasD (.dK l) k = some b → ∃ a' o, V.ref a = .ref a' ∧ DGet H a' w o ∧ o.isSome = b := fun {a kvs l} h r e => by
    obtain ⟨kk, e1, e2⟩ := Option.map_eq_some_iff.mp (show (keyOf k).map (fun k => (look l k).isSome) = some b from by cases k <;> exact e)
    refine ⟨a, valV kvs kk, rfl, .inl ⟨kvs, kk, h, keyOf_rep e1 rk, rfl⟩, ?_⟩
    rw [← e2]
    cases q : look l kk with
    | none => rw [(look_K r kk).2 q]; rfl
    | some dv => obtain ⟨u, e3, _⟩ := (look_K r kk).1 dv q; rw [e3]; rfl
  have caseT : ∀ {a : Addr} {kvs : List (List Key × V)} {l : List (List Key × D)}, Rd H a (.dT kvs) → RepT c.K c.G P l kvs → hasD (.dT l) k = some b → ∃ a' o, V.ref a = .ref a' ∧ DGet H a' w o ∧ o.isSome = b := fun {a kvs l} h r e => by
    cases rk with
    | tup hb rb =>
      obtain ⟨kk, e1, e2⟩ := Option.map_eq_some_iff.mp (show (keysOf _).map (fun k => (look l k).isSome) = some b from e)
      refine ⟨a, valV kvs kk, rfl, .inr ⟨kvs, kk, _, h, rfl, by rw [← keysOf_rep e1 rb]; exact le.tup hb, rfl⟩, ?_⟩
      rw [← e2]
      cases q : look l kk with
      | none => rw [(look_T r kk).2 q]; rfl
      | some dv => obtain ⟨u, e3, _⟩ := (look_T r kk).1 dv q; rw [e3]; rfl
    | _ => cases e
  cases r with
  | rep r =>
    cases r with
    | dK h r => exact caseK (le.rd h) r e
    | dT h r => exact caseT (le.rd h) r e
    | _ => cases e
  | dK h r => exact caseK h r e
  | dT h r => exact caseT h r e
  | lst _ _ => cases e
  | obj _ _ _ _ => cases e
/-- by values, the left one read now -/
def rOpL (c : Cc) (f : D → D → Option R) : R2 := fun v w H Q => ∃ P S a b r, Le P H ∧ StoOk c.K c.G c.ρ P H S ∧ Rd1 c.K c.G P H a v ∧ Rep c.K c.G P b w ∧ f a b = some r ∧ QX c P H Q r S
def rOpR (c : Cc) (f : D → D → Option R) : R2 := fun v w H Q => ∃ P S a b r, Le P H ∧ StoOk c.K c.G c.ρ P H S ∧ Rep c.K c.G P a v ∧ Rd1 c.K c.G P H b w ∧ f a b = some r ∧ QX c P H Q r S
end
/-! ### in, not in -/
section
variable {X : Cx} {c : Cc}
theorem Rd1.flatDp {P H : Hp} {d : D} {v : V} (le : Le P H) (r : Rd1 c.K c.G P H d v) (f : D.flat d = true) : Dp c.K H v (D.py d) := by
  cases r with
  | rep r => exact r.dp le f
  | lst h r => exact .lst (.inl h) (Reps.dp le r f)
  | dK _ _ => cases f
  | dT _ _ => cases f
  | obj _ _ _ _ => cases f
theorem py_lst (l : List D) : D.py (.lst l) = .list (pyL l) := rfl
theorem od_inG (neg : Bool) (hK : X.K = c.K) (hu : X.A.units + 65 < cLine) : OpR X (compareOp (if neg = true then .NotIn else .In)) (rOpR c (if neg = true then nmemD else memD)) := by
  intro pins s σ H x y v u Q I rx ry ⟨P, S, a, b, r, le, so, ra, rb, e, q⟩
  have seqs : ∀ {l : List D} {ds : List PyData}, pyL l = ds → D.py b = .list ds ∨ D.py b = .tuple ds → (okD a && okD b) = true → r = bR (if neg = true then !memL a l else memL a l) →
      wpAny (model X.prog X.w) X.A (compareOp (if neg = true then .NotIn else .In) v u) (EP X pins σ Q) X.xe s := fun {l ds} hl hb hok hr => by
    simp only [okD, Bool.and_eq_true] at hok
    obtain ⟨⟨fa, sa⟩, fb, sb⟩ := hok
    have da := ra.dp le fa
    have db := rb.flatDp le fb
    rw [← hK] at da db
    obtain ⟨as, r1⟩ := Dp.reads I _ x v da rx
    obtain ⟨bs, r2⟩ := Dp.reads I _ y u db ry
    subst hl hr
    have fin : EP X pins σ Q (.bool (if neg = true then !memL a l else memL a l)) s := ⟨.bl _, H, I, rfl, qx_ret q le so (.bl _)⟩
    rcases hb with hb | hb
    · rw [hb] at r2 sb
      cases neg with
      | false => exact SeqAt.in_list_reads r2 r1 (SeqAt.canLay_of_shaped sb) (SeqAt.canLay_of_shaped sa) (room_in_shaped sa hu) fin
      | true => exact SeqAt.notIn_list_reads r2 r1 (SeqAt.canLay_of_shaped sb) (SeqAt.canLay_of_shaped sa) (room_in_shaped sa hu) fin
    · rw [hb] at r2 sb
      cases neg with
      | false => exact SeqAt.in_tuple_reads r2 r1 (SeqAt.canLay_of_shaped sb) (SeqAt.canLay_of_shaped sa) (room_in_shaped sa hu) fin
      | true => exact SeqAt.notIn_tuple_reads r2 r1 (SeqAt.canLay_of_shaped sb) (SeqAt.canLay_of_shaped sa) (room_in_shaped sa hu) fin
  have dicts : ∀ {k : Bool}, hasD b a = some k → r = bR (if neg = true then !k else k) → wpAny (model X.prog X.w) X.A (compareOp (if neg = true then .NotIn else .In) v u) (EP X pins σ Q) X.xe s := fun {k} hh hr => by
    subst hr
    obtain ⟨p, o, rfl, g, eo⟩ := rb.dhas le ra hh
    cases (show u = Value.ref p from ry)
    cases neg with
    | false => exact d_in (by omega) I g rx fun s' I' => ⟨.bl _, H, I', by rw [eo]; rfl, qx_ret q le so (.bl _)⟩
    | true => exact d_notIn (by omega) I g rx fun s' I' => ⟨.bl _, H, I', by rw [eo]; rfl, qx_ret q le so (.bl _)⟩
  have opt : ∀ {o : Option Bool} {r : R}, o.map (fun k => bR (if neg = true then !k else k)) = some r → ∃ k, o = some k ∧ r = bR (if neg = true then !k else k) := fun {o r} h => by
    obtain ⟨k, h1, h2⟩ := Option.map_eq_some_iff.mp h
    exact ⟨k, h1, h2.symm⟩
  have viaD : (hasD b a).map (fun k => bR (if neg = true then !k else k)) = some r → wpAny (model X.prog X.w) X.A (compareOp (if neg = true then .NotIn else .In) v u) (EP X pins σ Q) X.xe s := fun h => by
    obtain ⟨k, h1, h2⟩ := opt h
    exact dicts h1 h2
  have ifs : ∀ {l : List D}, (if (okD a && okD b) = true then some (bR (if neg = true then !memL a l else memL a l)) else none) = some r → (okD a && okD b) = true ∧ r = bR (if neg = true then !memL a l else memL a l) := fun {l} h => by
    split at h
    · rename_i hk; exact ⟨hk, by cases h; rfl⟩
    · cases h
  cases b with
  | lst l =>
    have e' : (if (okD a && okD (.lst l)) = true then some (bR (if neg = true then !memL a l else memL a l)) else none) = some r := by cases neg <;> exact e
    obtain ⟨h1, h2⟩ := ifs e'
    exact seqs rfl (.inl rfl) h1 h2
  | tup l =>
    have e' : (if (okD a && okD (.tup l)) = true then some (bR (if neg = true then !memL a l else memL a l)) else none) = some r := by cases neg <;> exact e
    obtain ⟨h1, h2⟩ := ifs e'
    exact seqs rfl (.inr rfl) h1 h2
  | rt l =>
    have e' : (if (okD a && okD (.rt l)) = true then some (bR (if neg = true then !memL a l else memL a l)) else none) = some r := by cases neg <;> exact e
    obtain ⟨h1, h2⟩ := ifs e'
    exact seqs rfl (.inr rfl) h1 h2
  | str t =>
    cases rb with
    | rep rb =>
      cases rb
      cases ra with
      | str z =>
        cases neg with
        | false => cases e; exact op_in_str pins s σ H _ _ v u Q I rx ry ⟨z, t, rfl, rfl, qx_ret q le so (.bl _)⟩
        | true => cases e; exact L2.op_notin_str pins s σ H _ _ v u Q I rx ry ⟨z, t, rfl, rfl, qx_ret q le so (.bl _)⟩
      | _ => cases neg <;> cases e
  | non => exact viaD (by cases neg <;> exact e)
  | bl _ => exact viaD (by cases neg <;> exact e)
  | int _ => exact viaD (by cases neg <;> exact e)
  | ro _ => exact viaD (by cases neg <;> exact e)
  | rng _ _ => exact viaD (by cases neg <;> exact e)
  | dF _ => exact viaD (by cases neg <;> exact e)
  | dK _ => exact viaD (by cases neg <;> exact e)
  | dT _ => exact viaD (by cases neg <;> exact e)
  | obj _ _ => exact viaD (by cases neg <;> exact e)
theorem od_in (hK : X.K = c.K) (hu : X.A.units + 65 < cLine) : OpR X (compareOp .In) (rOpR c memD) := od_inG false hK hu
theorem od_nin (hK : X.K = c.K) (hu : X.A.units + 65 < cLine) : OpR X (compareOp .NotIn) (rOpR c nmemD) := od_inG true hK hu
end
end Pv

set_option Elab.async false
set_option linter.all false
set_option maxRecDepth 100000
namespace Pv
open PySem PySem.Spec PyProof.Rows L2

/-! ### x[i] -/
def shO (o : Option D) : Option R := o.map fun d => ⟨false, d⟩
def atSeq (d k : D) : Option R := match seqR d, k with
  | some l, .int i => shO (atI l i)
  | _, _ => none
def atD (d k : D) : Option R := match d with
  | .dK _ => shO (getD d k)
  | .dT _ => shO (getD d k)
  | .str z => (match k with
    | .int i => if z.length ≤ line then (atI z.cps.toList i).map fun n => ⟨false, .str ⟨#[n]⟩⟩ else none
    | _ => none)
  | d => atSeq d k
section
variable {X : Cx} {c : Cc} {P H : Hp}
theorem reps_atI {l : List D} {xs : List V} {i : Int} {d : D} (r : Reps c.K c.G P l xs) (e : atI l i = some d) : ∃ v, atI xs i = some v ∧ Rep c.K c.G P d v := by
  obtain ⟨j, h1, h2⟩ := Option.bind_eq_some_iff.mp (show (ixN l.length i).bind (fun j => l[j]?) = some d from e)
  obtain ⟨v, e1, rv⟩ := r.get h2
  refine ⟨v, ?_, rv⟩
  show (ixN xs.length i).bind (fun j => xs[j]?) = some v
  rw [← r.length, h1]
  exact e1
theorem ix_seqs (hK : X.K = c.K) {l : List D} {i : Int} {d : D} {v : V} {S : Sto} {Q : VK} (le : Le P H) (so : StoOk c.K c.G c.ρ P H S) {b : D} (rb : Rd1 c.K c.G P H b v) (e : seqR b = some l) (e2 : atI l i = some d) (q : QX c P H Q ⟨false, d⟩ S) :
    rIxL X.K v (.int i) H Q ∨ rIxT X.K v (.int i) H Q := by
  obtain ⟨a, xs, rfl, sq, rx⟩ := rb.seqR le e
  obtain ⟨w, e3, rw'⟩ := reps_atI rx e2
  rcases sq with sq | sq
  · exact .inr ⟨a, xs, i, w, rfl, rfl, by rw [hK]; exact sq, e3, qx_ret q le so rw'⟩
  · exact .inl ⟨a, xs, i, w, rfl, rfl, by rw [hK]; exact sq, e3, qx_ret q le so rw'⟩
theorem ix_D (hK : X.K = c.K) (hu : X.A.units + 65 < cLine) : IxR X (rOpL c atD) := by
  intro value slice pins s σ H x y v u Q I rx ry ⟨P, S, a, b, r, le, so, ra, rb, e, q⟩ hs
  have seqs : atSeq a b = some r → wpAny (model X.prog X.w) X.A (subscriptTail value slice v u) (EP X pins σ Q) X.xe s := fun e => by
    unfold atSeq at e
    cases h1 : seqR a with
    | none => rw [h1] at e; cases e
    | some l =>
      rw [h1] at e
      cases rb with
      | int i =>
        obtain ⟨d, e2, e3⟩ := Option.map_eq_some_iff.mp (show (atI l i).map _ = some r from e)
        subst e3
        rcases ix_seqs hK le so ra h1 e2 q with w | w
        · exact ix_list value slice pins s σ H _ _ v u Q I rx ry w hs
        · exact ix_tup value slice pins s σ H _ _ v u Q I rx ry w hs
      | _ => cases e
  have dicts : shO (getD a b) = some r → wpAny (model X.prog X.w) X.A (subscriptTail value slice v u) (EP X pins σ Q) X.xe s := fun e => by
    obtain ⟨d, e2, e3⟩ := Option.map_eq_some_iff.mp e
    subst e3
    obtain ⟨p, w, rfl, g, rw'⟩ := ra.dget le rb e2
    cases (show v = Value.ref p from rx)
    exact tail_any (dict_typeIs I g) PySem.F.slot_dict_getitem.lookup (d_getItem (by omega) I g ry fun w' s3 I3 rr => ⟨w, H, I3, rr, qx_ret q le so rw'⟩) hs
  cases a with
  | dK _ => exact dicts e
  | dT _ => exact dicts e
  | str z =>
    cases ra with
    | rep ra =>
      cases ra
      cases rb with
      | int i =>
        simp only [atD] at e
        split at e
        · rename_i hz
          obtain ⟨n, e2, e3⟩ := Option.map_eq_some_iff.mp e
          subst e3
          exact ix_str value slice pins s σ H _ _ v u Q I rx ry ⟨z, i, n, rfl, rfl, by rw [← line_eq]; exact hz, e2, qx_ret q le so (.str _)⟩ hs
        · cases e
      | _ => cases e
  | non => exact seqs e
  | bl _ => exact seqs e
  | int _ => exact seqs e
  | tup _ => exact seqs e
  | lst _ => exact seqs e
  | ro _ => exact seqs e
  | rng _ _ => exact seqs e
  | dF _ => exact seqs e
  | rt _ => exact seqs e
  | obj _ _ => exact seqs e
theorem pd_sub {a b : Expr} {x y : Ex} {pos : Pos} (hK : X.K = c.K) (hu : X.A.units + 65 < cLine) (ha : PE X a (TEx c x)) (hb : PE X b (TEx c y)) (hs : PlainIx b) : PE X (.Subscript a b pos) (TEx c (op2 atD x y)) :=
  pe_imp (pe_ix (ix_D hK hu) ha hb hs) fun σ H Q h => by
    obtain ⟨P, env, S, s, h⟩ := h
    exact tex_bind s h fun r S1 v P1 H1 st1 s1 rp1 h1 => tex_bind s1 h1 fun r2 S2 w P2 H2 st2 s2 rp2 h2 => by
      cases q : atD r.d r2.d with
      | none => simp only [q] at h2; exact h2.elim
      | some r3 =>
        simp only [q] at h2
        exact ⟨P2, S2, r.d, r2.d, r3, s2.le, s2.so, .rep (rp1.mono st2.pp), rp2, q, h2⟩
/-- a name's items: read behind the index -/
def subV (i : Nat) (k : Ex) : Ex := fun env S => match peek env S i with
  | none => .bad
  | some _ => (k env S).bind fun b S => match peek env S i with
    | some d => (match atD d b.d with
      | some r => .ok r S
      | none => .bad)
    | none => .bad
theorem subV_top {i : Nat} {x : Ex} : ∀ σ H Q, TEx c (subV i x) σ H Q → tOp (rOpL c atD) (tVar i) (TEx c x) σ H Q := fun σ H Q ⟨P, env, S, s, h⟩ => by
  unfold subV at h
  cases q : peek env S i with
  | none => rw [q] at h; exact h.elim
  | some d0 =>
    rw [q] at h
    obtain ⟨v, ev, _⟩ := s.slot q
    refine ⟨v, ev, tex_bind s h fun r S1 w P1 H1 st1 s1 rp1 h1 => ?_⟩
    cases q1 : peek env S1 i with
    | none => rw [q1] at h1; exact h1.elim
    | some d =>
      rw [q1] at h1
      obtain ⟨v', ev', rd⟩ := s1.slot q1
      rw [ev] at ev'; cases ev'
      cases q2 : atD d r.d with
      | none => simp only [q2] at h1; exact h1.elim
      | some r3 =>
        simp only [q2] at h1
        exact ⟨P1, S1, d, r.d, r3, s1.le, s1.so, rd, rp1, q2, h1⟩
theorem pd_subV {b : Expr} {y : Ex} {nm : Str} {p pos : Pos} (i : Nat) (hK : X.K = c.K) (hu : X.A.units + 65 < cLine) (hN : X.N[i]? = some nm) (hv : Vis X.env.scope nm) (hd : (nm == ("__debug__" : Str)) = false) (hcd : (nm == ("__classdict__" : Str)) = false)
    (hb : PE X b (TEx c y)) (hs : PlainIx b) : PE X (.Subscript (.Name nm p) b pos) (TEx c (subV i y)) := pe_imp (pe_ix (ix_D hK hu) (pe_var hN hv hd hcd) hb hs) subV_top
/-! ### x in name -/
def inV (f : D → D → Option R) (x : Ex) (i : Nat) : Ex := fun env S => (x env S).bind fun a S => match peek env S i with
  | some d => (match f a.d d with
    | some r => .ok r S
    | none => .bad)
  | none => .bad
theorem inV_top {f : D → D → Option R} {i : Nat} {x : Ex} : ∀ σ H Q, TEx c (inV f x i) σ H Q → tOp (rOpR c f) (TEx c x) (tVar i) σ H Q := fun σ H Q ⟨P, env, S, s, h⟩ =>
  tex_bind s h fun r S1 w P1 H1 st1 s1 rp1 h1 => by
    cases q1 : peek env S1 i with
    | none => rw [q1] at h1; exact h1.elim
    | some d =>
      rw [q1] at h1
      obtain ⟨v, ev, rd⟩ := s1.slot q1
      cases q2 : f r.d d with
      | none => simp only [q2] at h1; exact h1.elim
      | some r3 =>
        simp only [q2] at h1
        exact ⟨v, ev, P1, S1, r.d, d, r3, s1.le, s1.so, rp1, rd, q2, h1⟩
theorem op2R_top {f : D → D → Option R} {x y : Ex} : ∀ σ H Q, TEx c (op2 f x y) σ H Q → tOp (rOpR c f) (TEx c x) (TEx c y) σ H Q := fun σ H Q h => by
  obtain ⟨P, env, S, s, h⟩ := h
  exact tex_bind s h fun r S1 v P1 H1 st1 s1 rp1 h1 => tex_bind s1 h1 fun r2 S2 w P2 H2 st2 s2 rp2 h2 => by
    cases q : f r.d r2.d with
    | none => simp only [q] at h2; exact h2.elim
    | some r3 =>
      simp only [q] at h2
      exact ⟨P2, S2, r.d, r2.d, r3, s2.le, s2.so, rp1.mono st2.pp, .rep rp2, q, h2⟩
theorem pd_in {op : CmpOp} {f : D → D → Option R} {a b : Expr} {x y : Ex} {pos : Pos} (ho : OpR X (compareOp op) (rOpR c f)) (ha : PE X a (TEx c x)) (hb : PE X b (TEx c y)) (hm : behindInMarks op b = false) : PE X (.Compare a [op] [b] pos) (TEx c (op2 f x y)) := pe_imp (pe_cmpR ho ha hb hm) op2R_top
theorem pd_inV {op : CmpOp} {f : D → D → Option R} {a : Expr} {x : Ex} {nm : Str} {p pos : Pos} (i : Nat) (ho : OpR X (compareOp op) (rOpR c f)) (ha : PE X a (TEx c x)) (hN : X.N[i]? = some nm) (hv : Vis X.env.scope nm) (hd : (nm == ("__debug__" : Str)) = false) (hcd : (nm == ("__classdict__" : Str)) = false) :
    PE X (.Compare a [op] [.Name nm p] pos) (TEx c (inV f x i)) := pe_imp (pe_cmpR ho ha (pe_var hN hv hd hcd) rfl) inV_top
/-! ### x[lo:hi] -/
def cutD (l : List D) (lo hi : Option Int) : List D := (l.drop (HT.sIx l.length 0 lo)).take (HT.sIx l.length l.length hi - HT.sIx l.length 0 lo)
theorem cut_rep {l : List D} {xs : List V} (r : Reps c.K c.G P l xs) (lo hi : Option Int) : Reps c.K c.G P (cutD l lo hi) (cutV xs lo hi) := by
  unfold cutD cutV
  rw [r.length]
  exact (r.drop _).take _
def sliceT (d : D) (l : List D) (lo hi : Option Int) : R :=
  if HT.sIx l.length 0 lo = 0 ∧ HT.sIx l.length l.length hi = l.length then ⟨false, d⟩ else ⟨false, .tup (cutD l lo hi)⟩
def sliceD (d : D) (lo hi : Option Int) : Option R := match d with
  | .lst l => some ⟨true, .lst (cutD l lo hi)⟩
  | .tup l => some (sliceT d l lo hi)
  | .rt l => some (sliceT d l lo hi)
  | .str z => if z.length ≤ line then some ⟨false, .str (cutS z lo hi)⟩ else none
  | _ => none
def rSl (c : Cc) : V → Option Int → Option Int → Hp → VK → Prop := fun v lo hi H Q => ∃ P S a r, Le P H ∧ StoOk c.K c.G c.ρ P H S ∧ Rd1 c.K c.G P H a v ∧ sliceD a lo hi = some r ∧ QX c P H Q r S
theorem sl_tupD (hK : X.K = c.K) {S : Sto} {Q : VK} {d : D} {l : List D} {v : V} {lo hi : Option Int} (le : Le P H) (so : StoOk c.K c.G c.ρ P H S) (rd : Rep c.K c.G P d v) (e : tupOf d = some l) (q : QX c P H Q (sliceT d l lo hi) S) : rSlA X.K v lo hi H Q := by
  obtain ⟨a, xs, rfl, sx, rx⟩ := tupOf_rep e rd le
  unfold sliceT at q
  refine ⟨a, xs, rfl, by rw [hK]; exact sx, fun w => ?_, fun w => ?_⟩
  · rw [← rx.length] at w
    rw [if_pos w] at q
    exact qx_ret q le so rd
  · rw [← rx.length] at w
    rw [if_neg w] at q
    exact qx_tup q le so (cut_rep rx lo hi)
theorem sl_D (hK : X.K = c.K) : SlR X (rSl c) := by
  intro pins s σ H x v vl vu lo hi sl Q I rx hsl pl pu ⟨P, S, a, r, le, so, ra, e, q⟩
  cases ra with
  | lst h rl => cases e; exact sl_list pins s σ H _ v vl vu lo hi sl Q I rx hsl pl pu ⟨_, _, rfl, .inl h, qx_lst q le so (cut_rep rl lo hi)⟩
  | obj _ _ _ _ => cases e
  | dK _ _ => cases e
  | dT _ _ => cases e
  | rep ra =>
    cases ra with
    | lst h rl => cases e; exact sl_list pins s σ H _ v vl vu lo hi sl Q I rx hsl pl pu ⟨_, _, rfl, .inl (.inl (le.lst h)), qx_lst q le so (cut_rep rl lo hi)⟩
    | tup h rl => cases e; exact sl_tupA pins s σ H _ v vl vu lo hi sl Q I rx hsl pl pu (sl_tupD hK le so (.tup h rl) rfl q)
    | rt h rl => cases e; exact sl_tupA pins s σ H _ v vl vu lo hi sl Q I rx hsl pl pu (sl_tupD hK le so (.rt h rl) rfl q)
    | str z =>
      simp only [sliceD] at e
      split at e
      · rename_i hz
        cases e
        exact sl_str pins s σ H _ v vl vu lo hi sl Q I rx hsl pl pu ⟨z, rfl, by rw [← line_eq]; exact hz, qx_ret q le so (.str _)⟩
      · cases e
    | _ => cases e
/-- a bound of a slice -/
abbrev Ox := SEnv → Sto → Out (Option Int)
def onone : Ox := fun _ S => .ok none S
def osome (x : Ex) : Ox := fun env S => (x env S).bind fun a S => match a.d with
  | .int i => .ok (some i) S
  | _ => .bad
def TOx (c : Cc) (o : Ox) : TO := fun σ H Q => ∃ P env S, Stt c P H env σ S ∧ (o env S).post (fun i S1 => ∀ P1 H1, Step c.ρ P H P1 H1 → StoOk c.K c.G c.ρ P1 H1 S1 → Q i H1) (XP c P H)
theorem po_imp {e : Option Expr} {t t' : TO} (h : PO X e t) (i : ∀ σ H Q, t' σ H Q → t σ H Q) : PO X e t' := ⟨fun pins s σ H Q I w => h.run pins s σ H Q I (i σ H Q w)⟩
theorem tpo_none : PO X none (TOx c onone) := po_imp po_none fun σ H Q ⟨P, env, S, s, h⟩ => h P H (Step.refl s.le) s.so
theorem tpo_some {a : Expr} {x : Ex} (ha : PE X a (TEx c x)) : PO X (some a) (TOx c (osome x)) := po_imp (po_some ha) fun σ H Q ⟨P, env, S, s, h⟩ => tex_bindG s h fun r S1 v P1 H1 st1 s1 rp1 h1 => by
  obtain ⟨fr, d⟩ := r
  cases rp1 with
  | int i => exact ⟨i, rfl, h1 P1 H1 st1 s1.so⟩
  | _ => exact h1.elim
theorem tox_bind {α : Type} {env : SEnv} {σ : L2.St} {S : Sto} {o : Ox} {f : Option Int → Sto → Out α} {QQ : α → Sto → Prop} {Q' : Option Int → Hp → Prop} (s : Stt c P H env σ S) (h : ((o env S).bind f).post QQ (XP c P H))
    (k : ∀ r S1 P1 H1, Step c.ρ P H P1 H1 → Stt c P1 H1 env σ S1 → (f r S1).post QQ (XP c P H) → Q' r H1) : TOx c o σ H Q' :=
  ⟨P, env, S, s, post_mono (post_bind.mp h) (fun r S1 q P1 H1 st so => k r S1 P1 H1 st (s.step st so) q) fun _ _ _ q => q⟩
def sliceX (x : Ex) (lo hi : Ox) : Ex := fun env S => (x env S).bind fun a S => (lo env S).bind fun l S => (hi env S).bind fun u S => match sliceD a.d l u with
  | some r => .ok r S
  | none => .bad
theorem pd_slice {a : Expr} {lo hi : Option Expr} {x : Ex} {ol oh : Ox} {p2 pos : Pos} (hK : X.K = c.K) (ha : PE X a (TEx c x)) (hl : PO X lo (TOx c ol)) (hh : PO X hi (TOx c oh)) : PE X (.Subscript a (.Slice lo hi none p2) pos) (TEx c (sliceX x ol oh)) :=
  pe_imp (pe_slice (sl_D hK) ha hl hh) fun σ H Q ⟨P, env, S, s, h⟩ => tex_bindG s h fun r S1 v P1 H1 st1 s1 rp1 h1 => tox_bind s1 (xp_step st1 h1 fun _ _ w => QX.step st1 w) fun l S2 P2 H2 st2 s2 h2 =>
    tox_bind s2 (xp_step st2 h2 fun _ _ w => QX.step st2 w) fun u S3 P3 H3 st3 s3 h3 => by
      cases q : sliceD r.d l u with
      | none => simp only [q] at h3; exact h3.elim
      | some r3 =>
        simp only [q] at h3
        exact ⟨P3, S3, r.d, r3, s3.le, s3.so, .rep (rp1.mono (st2.pp.trans st3.pp)), q, QX.step st3 h3⟩
/-- a name's slice -/
def sliceV (i : Nat) (lo hi : Ox) : Ex := fun env S => match peek env S i with
  | none => .bad
  | some _ => (lo env S).bind fun l S => (hi env S).bind fun u S => match peek env S i with
    | some d => (match sliceD d l u with
      | some r => .ok r S
      | none => .bad)
    | none => .bad
theorem pd_sliceV {lo hi : Option Expr} {ol oh : Ox} {nm : Str} {p p2 pos : Pos} (i : Nat) (hK : X.K = c.K) (hN : X.N[i]? = some nm) (hv : Vis X.env.scope nm) (hd : (nm == ("__debug__" : Str)) = false) (hcd : (nm == ("__classdict__" : Str)) = false)
    (hl : PO X lo (TOx c ol)) (hh : PO X hi (TOx c oh)) : PE X (.Subscript (.Name nm p) (.Slice lo hi none p2) pos) (TEx c (sliceV i ol oh)) :=
  pe_imp (pe_slice (sl_D hK) (pe_var hN hv hd hcd) hl hh) fun σ H Q ⟨P, env, S, s, h⟩ => by
    unfold sliceV at h
    cases q : peek env S i with
    | none => rw [q] at h; exact h.elim
    | some d0 =>
      rw [q] at h
      obtain ⟨v, ev, _⟩ := s.slot q
      refine ⟨v, ev, tox_bind s h fun l S2 P2 H2 st2 s2 h2 => tox_bind s2 (xp_step st2 h2 fun _ _ w => QX.step st2 w) fun u S3 P3 H3 st3 s3 h3 => ?_⟩
      cases q1 : peek env S3 i with
      | none => rw [q1] at h3; exact h3.elim
      | some d =>
        rw [q1] at h3
        obtain ⟨v', ev', rd⟩ := s3.slot q1
        rw [ev] at ev'; cases ev'
        cases q2 : sliceD d l u with
        | none => simp only [q2] at h3; exact h3.elim
        | some r3 =>
          simp only [q2] at h3
          exact ⟨P3, S3, d, r3, s3.le, s3.so, rd, q2, QX.step st3 h3⟩
end
end Pv

set_option Elab.async false
set_option linter.all false
set_option maxRecDepth 100000
namespace Pv
open PySem PySem.Spec PyProof.Rows L2

/-! ### built-ins of one argument -/
section
variable {X : Cx} {c : Cc} {P H : Hp}
def rB1 (c : Cc) (f : D → Option R) : List V → Hp → VK → Prop := fun vs H Q => ∃ P S a r v, vs = [v] ∧ Le P H ∧ StoOk c.K c.G c.ρ P H S ∧ Rd1 c.K c.G P H a v ∧ f a = some r ∧ QX c P H Q r S
def b1V (f : D → Option R) (i : Nat) : Ex := fun env S => match peek env S i with
  | some d => (match f d with
    | some r => .ok r S
    | none => .bad)
  | none => .bad
theorem b1_top {f : D → Option R} {x : Ex} : ∀ σ H Q, TEx c (op1 f x) σ H Q → tCB (rB1 c f) (tCons (TEx c x) tNil) σ H Q := fun σ H Q ⟨P, env, S, s, h⟩ =>
  tex_bind s h fun r S1 v P1 H1 st1 s1 rp h1 => by
    cases q : f r.d with
    | none => simp only [q] at h1; exact h1.elim
    | some r3 =>
      simp only [q] at h1
      exact ⟨P1, S1, r.d, r3, v, rfl, s1.le, s1.so, .rep rp, q, h1⟩
theorem b1V_top {f : D → Option R} {i : Nat} : ∀ σ H Q, TEx c (b1V f i) σ H Q → tCB (rB1 c f) (tCons (tVar i) tNil) σ H Q := fun σ H Q ⟨P, env, S, s, h⟩ => by
  unfold b1V at h
  cases q : peek env S i with
  | none => rw [q] at h; exact h.elim
  | some d =>
    rw [q] at h
    obtain ⟨v, ev, rd⟩ := s.slot q
    cases q2 : f d with
    | none => simp only [q2] at h; exact h.elim
    | some r3 =>
      simp only [q2] at h
      exact ⟨v, ev, P, S, d, r3, v, rfl, s.le, s.so, rd, q2, h⟩
variable {p pos : Pos} {nm : Str} {a : Expr} {y : Ex} {bid T : String}
theorem pd_b1 {f : D → Option R} {fn : Str} (hc : CallR X (.builtin bid) (rB1 c f)) (hg : Gl X fn) (hm : X.mg fn = none) (hv : bootBuiltins fn = some (.builtin bid)) (ha : PE X a (TEx c y)) (hn : fn ≠ "__name__") (hdb : (fn == ("__debug__" : Str)) = false)
    (hs : starEach [a] X.env = (false, eval a X.env) :: starEach [] X.env) : PE X (.Call (.Name fn p) [a] [] pos) (TEx c (op1 f y)) :=
  pe_imp (pe_callB hc hg hm hv (pa_cons ha pa_nil hs) hn hdb hs rfl) b1_top
theorem pd_b1V {f : D → Option R} {fn : Str} (i : Nat) {q : Pos} (hc : CallR X (.builtin bid) (rB1 c f)) (hg : Gl X fn) (hm : X.mg fn = none) (hv : bootBuiltins fn = some (.builtin bid)) (hn : fn ≠ "__name__") (hdb : (fn == ("__debug__" : Str)) = false)
    (hN : X.N[i]? = some nm) (hvi : Vis X.env.scope nm) (hd : (nm == ("__debug__" : Str)) = false) (hcd : (nm == ("__classdict__" : Str)) = false) : PE X (.Call (.Name fn p) [.Name nm q] [] pos) (TEx c (b1V f i)) :=
  pe_imp (pe_callB hc hg hm hv (pa_cons (pe_var hN hvi hd hcd) pa_nil rfl) hn hdb rfl rfl) b1V_top
theorem pd_t1 {f : D → Option R} {fn : Str} (hc : CallR X (.type T) (rB1 c f)) (hg : Gl X fn) (hm : X.mg fn = none) (hv : bootBuiltins fn = some (.type T)) (ha : PE X a (TEx c y)) (hn : fn ≠ "__name__") (hdb : (fn == ("__debug__" : Str)) = false)
    (hs : starEach [a] X.env = (false, eval a X.env) :: starEach [] X.env) : PE X (.Call (.Name fn p) [a] [] pos) (TEx c (op1 f y)) :=
  pe_imp (pe_callTy hc hg hm hv (pa_cons ha pa_nil hs) hn hdb hs rfl) b1_top
theorem pd_t1V {f : D → Option R} {fn : Str} (i : Nat) {q : Pos} (hc : CallR X (.type T) (rB1 c f)) (hg : Gl X fn) (hm : X.mg fn = none) (hv : bootBuiltins fn = some (.type T)) (hn : fn ≠ "__name__") (hdb : (fn == ("__debug__" : Str)) = false)
    (hN : X.N[i]? = some nm) (hvi : Vis X.env.scope nm) (hd : (nm == ("__debug__" : Str)) = false) (hcd : (nm == ("__classdict__" : Str)) = false) : PE X (.Call (.Name fn p) [.Name nm q] [] pos) (TEx c (b1V f i)) :=
  pe_imp (pe_callTy hc hg hm hv (pa_cons (pe_var hN hvi hd hcd) pa_nil rfl) hn hdb rfl rfl) b1V_top
def lenD (d : D) : Option R := match d with
  | .str z => if z.length ≤ line then some ⟨false, .int z.length⟩ else none
  | .dK l => some ⟨false, .int l.length⟩
  | .dF l => some ⟨false, .int l.length⟩
  | d => (seqR d).map fun l => ⟨false, .int l.length⟩
def tupleD (d : D) : Option R := match d with
  | .lst l => some ⟨false, .tup l⟩
  | d => (tupOf d).map fun _ => ⟨false, d⟩
def listD (d : D) : Option R := (seqD d).map fun l => ⟨true, .lst l⟩
def intsOf : List D → Option (List Int)
  | [] => some []
  | .int i :: l => (intsOf l).map fun r => i :: r
  | _ => none
def boolsOf : List D → Option (List Bool)
  | [] => some []
  | .bl i :: l => (boolsOf l).map fun r => i :: r
  | _ => none
def sumI : List Int → Int
  | [] => 0
  | i :: l => i + sumI l
def allB : List Bool → Bool
  | [] => true
  | b :: l => b && allB l
def anyB : List Bool → Bool
  | [] => false
  | b :: l => b || anyB l
def sumD (d : D) : Option R := match d with
  | .lst l => (intsOf l).map fun r => ⟨false, .int (sumI r)⟩
  | _ => none
def allD (d : D) : Option R := match d with
  | .lst l => (boolsOf l).map fun r => bR (allB r)
  | _ => none
def anyD (d : D) : Option R := match d with
  | .lst l => (boolsOf l).map fun r => bR (anyB r)
  | _ => none
def intD (d : D) : Option R := match d with
  | .int i => some ⟨false, .int i⟩
  | .bl b => some ⟨false, .int (if b = true then 1 else 0)⟩
  | _ => none
def absD (d : D) : Option R := match d with
  | .int i => some ⟨false, .int (if i < 0 then -i else i)⟩
  | _ => none
theorem intsOf_rep : ∀ {l : List D} {ns : List Int} {vs : List V}, intsOf l = some ns → Reps c.K c.G P l vs → vs = ns.map V.int
  | [], ns, vs, e, r => by cases r; cases e; rfl
  | d :: l, ns, vs, e, r => by
    cases r with
    | cons r1 r2 =>
      cases r1 with
      | int i =>
        obtain ⟨m, e1, e2⟩ := Option.map_eq_some_iff.mp (show (intsOf l).map _ = some ns from e)
        rw [← e2, List.map_cons, intsOf_rep e1 r2]
      | _ => cases e
theorem boolsOf_rep : ∀ {l : List D} {ns : List Bool} {vs : List V}, boolsOf l = some ns → Reps c.K c.G P l vs → vs = ns.map V.bl
  | [], ns, vs, e, r => by cases r; cases e; rfl
  | d :: l, ns, vs, e, r => by
    cases r with
    | cons r1 r2 =>
      cases r1 with
      | bl i =>
        obtain ⟨m, e1, e2⟩ := Option.map_eq_some_iff.mp (show (boolsOf l).map _ = some ns from e)
        rw [← e2, List.map_cons, boolsOf_rep e1 r2]
      | _ => cases e
theorem sumI_eq : ∀ l : List Int, sumI l = l.sum
  | [] => rfl
  | i :: l => by rw [List.sum_cons, ← sumI_eq l]; rfl
theorem allB_eq : ∀ l : List Bool, allB l = l.all id
  | [] => rfl
  | i :: l => by rw [List.all_cons, ← allB_eq l]; rfl
theorem anyB_eq : ∀ l : List Bool, anyB l = l.any id
  | [] => rfl
  | i :: l => by rw [List.any_cons, ← anyB_eq l]; rfl
/-- a list that may be read -/
theorem Rd1.lstR {l : List D} {v : V} (le : Le P H) (r : Rd1 c.K c.G P H (.lst l) v) : ∃ a xs, v = .ref a ∧ SqL c.K H a xs ∧ Reps c.K c.G P l xs := by
  cases r with
  | rep r => cases r with
    | lst h r => exact ⟨_, _, rfl, .inl (.inl (le.lst h)), r⟩
  | lst h r => exact ⟨_, _, rfl, .inl h, r⟩
theorem cb_imp {f : Value} {r r' : List V → Hp → VK → Prop} (h : CallR X f r) (i : ∀ vs H Q, r' vs H Q → r vs H Q) : CallR X f r' := fun pins s σ H xs us Q I rx q => h pins s σ H xs us Q I rx (i xs H Q q)
theorem cd_sum (hK : X.K = c.K) (hc : X.calm = true) : CallR X (.builtin "sum") (rB1 c sumD) := cb_imp (cr_sum hc) fun vs H Q ⟨P, S, a, r, v, ev, le, so, rd, e, q⟩ => by
  cases a with
  | lst l =>
    obtain ⟨ns, e1, e2⟩ := Option.map_eq_some_iff.mp (show (intsOf l).map _ = some r from e)
    subst e2
    obtain ⟨a, xs, rfl, sq, rx⟩ := rd.lstR le
    rw [hK]
    exact ⟨a, ns, ev, by rw [← intsOf_rep e1 rx]; exact sq, by rw [← sumI_eq]; exact qx_ret q le so (.int _)⟩
  | _ => cases e
theorem cd_all (hK : X.K = c.K) (hc : X.calm = true) : CallR X (.builtin "all") (rB1 c allD) := cb_imp (cr_all hc) fun vs H Q ⟨P, S, a, r, v, ev, le, so, rd, e, q⟩ => by
  cases a with
  | lst l =>
    obtain ⟨ns, e1, e2⟩ := Option.map_eq_some_iff.mp (show (boolsOf l).map _ = some r from e)
    subst e2
    obtain ⟨a, xs, rfl, sq, rx⟩ := rd.lstR le
    rw [hK]
    exact ⟨a, ns, ev, by rw [← boolsOf_rep e1 rx]; exact sq, by rw [← allB_eq]; exact qx_ret q le so (.bl _)⟩
  | _ => cases e
theorem cd_any (hK : X.K = c.K) (hc : X.calm = true) : CallR X (.builtin "any") (rB1 c anyD) := cb_imp (cr_any hc) fun vs H Q ⟨P, S, a, r, v, ev, le, so, rd, e, q⟩ => by
  cases a with
  | lst l =>
    obtain ⟨ns, e1, e2⟩ := Option.map_eq_some_iff.mp (show (boolsOf l).map _ = some r from e)
    subst e2
    obtain ⟨a, xs, rfl, sq, rx⟩ := rd.lstR le
    rw [hK]
    exact ⟨a, ns, ev, by rw [← boolsOf_rep e1 rx]; exact sq, by rw [← anyB_eq]; exact qx_ret q le so (.bl _)⟩
  | _ => cases e
theorem cd_int : CallR X (.type "int") (rB1 c intD) := cb_imp call_int1 fun vs H Q ⟨P, S, a, r, v, ev, le, so, rd, e, q⟩ => by
  cases a with
  | int i =>
    cases rd with
    | rep rd => cases rd; cases e; exact .inl ⟨i, ev, qx_ret q le so (.int _)⟩
  | bl b =>
    cases rd with
    | rep rd => cases rd; cases e; exact .inr ⟨b, ev, qx_ret q le so (.int _)⟩
  | _ => cases e
theorem cd_abs : CallR X (.builtin "abs") (rB1 c absD) := cb_imp call_abs fun vs H Q ⟨P, S, a, r, v, ev, le, so, rd, e, q⟩ => by
  cases a with
  | int i =>
    cases rd with
    | rep rd => cases rd; cases e; exact ⟨i, ev, qx_ret q le so (.int _)⟩
  | _ => cases e
theorem cd_list (hK : X.K = c.K) : CallR X (.type "list") (rB1 c listD) := cb_imp call_list_of fun vs H Q ⟨P, S, a, r, v, ev, le, so, rd, e, q⟩ => by
  obtain ⟨l, e1, e2⟩ := Option.map_eq_some_iff.mp (show (seqD a).map _ = some r from e)
  subst e2
  have e3 : seqR a = some l := by cases a <;> first | exact e1 | cases e1
  obtain ⟨p, xs, rfl, sq, rx⟩ := rd.seqR le e3
  rw [hK]
  exact ⟨p, xs, ev, sq.symm, qx_lst q le so rx⟩
theorem cd_tuple (hK : X.K = c.K) : CallR X (.type "tuple") (rB1 c tupleD) := cb_imp call_tuple_of fun vs H Q ⟨P, S, a, r, v, ev, le, so, rd, e, q⟩ => by
  have old : ∀ {l : List D}, tupOf a = some l → r = ⟨false, a⟩ → Rep c.K c.G P a v → ∃ p ys, vs = [.ref p] ∧ ((SqL X.K H p ys ∧ ∀ l, H l = none → Q (.ref l) (upd H l (.tup ys))) ∨ (SqT X.K H p ys ∧ Q (.ref p) H)) := fun {l} e1 e2 ra => by
    subst e2
    obtain ⟨p, xs, rfl, sq, rx⟩ := tupOf_rep e1 ra le
    exact ⟨p, xs, ev, .inr ⟨by rw [hK]; exact sq, qx_ret q le so ra⟩⟩
  cases a with
  | lst l =>
    cases e
    obtain ⟨p, xs, rfl, sq, rx⟩ := rd.lstR le
    exact ⟨p, xs, ev, .inl ⟨by rw [hK]; exact sq, qx_tup q le so rx⟩⟩
  | tup l =>
    cases rd with
    | rep ra => exact old rfl (by cases e; rfl) ra
  | rt l =>
    cases rd with
    | rep ra => exact old rfl (by cases e; rfl) ra
  | _ => cases e
theorem cd_len (hK : X.K = c.K) : CallR X (.builtin "len") (rB1 c lenD) := by
  intro pins s σ H vs us Q I rs ⟨P, S, a, r, v, ev, le, so, rd, e, q⟩
  have seqs : ∀ {l : List D}, seqR a = some l → r = ⟨false, .int l.length⟩ → wpAny (model X.prog X.w) X.A (call (.builtin "len") us) (EP X pins σ Q) X.xe s := fun {l} e1 e2 => by
    subst e2
    obtain ⟨p, xs, rfl, sq, rx⟩ := rd.seqR le e1
    exact call_len_seq pins s σ H vs us Q I rs ⟨p, xs, ev, by rw [hK]; exact sq.symm, by rw [← rx.length]; exact qx_ret q le so (.int _)⟩
  cases a with
  | str z =>
    cases rd with
    | rep rd =>
      cases rd
      simp only [lenD] at e
      split at e
      · rename_i hz
        cases e
        exact call_len_str pins s σ H vs us Q I rs ⟨z, ev, by rw [← line_eq]; exact hz, qx_ret q le so (.int _)⟩
      · cases e
  | dK l =>
    cases e
    have go : ∀ {p : Addr} {kvs : List (Key × V)}, v = .ref p → Rd H p (.dK kvs) → RepK c.K c.G P l kvs → wpAny (model X.prog X.w) X.A (call (.builtin "len") us) (EP X pins σ Q) X.xe s := fun {p kvs} e1 h rk => by
      subst e1 ev
      obtain ⟨u, rfl, ru⟩ := vals1 rs
      cases (show u = Value.ref p from ru)
      refine d_len I h fun t s' I' => ⟨.int l.length, H, I', ⟨t, by rw [rk.length]⟩, qx_ret q le so (.int _)⟩
    cases rd with
    | rep rd => cases rd with
      | dK h rk => exact go rfl (le.rd h) rk
    | dK h rk => exact go rfl h rk
  | dF l =>
    cases e
    have go : ∀ {p : Addr} {kvs : List (Key × V)}, v = .ref p → Rd H p (.dK kvs) → RepK c.K c.G P l kvs → wpAny (model X.prog X.w) X.A (call (.builtin "len") us) (EP X pins σ Q) X.xe s := fun {p kvs} e1 h rk => by
      subst e1 ev
      obtain ⟨u, rfl, ru⟩ := vals1 rs
      cases (show u = Value.ref p from ru)
      refine d_len I h fun t s' I' => ⟨.int l.length, H, I', ⟨t, by rw [rk.length]⟩, qx_ret q le so (.int _)⟩
    cases rd with
    | rep rd => cases rd with
      | dF h rk => exact go rfl (.inr ⟨_, le.frz h⟩) rk
  | dT l => cases e
  | non => cases e
  | bl _ => cases e
  | int _ => cases e
  | rng _ _ => cases e
  | obj _ _ => cases e
  | tup l => exact seqs rfl (by cases e; rfl)
  | lst l => exact seqs rfl (by cases e; rfl)
  | ro l => exact seqs rfl (by cases e; rfl)
  | rt l => exact seqs rfl (by cases e; rfl)
/-! ### tuple(range(..)), list(range(..)), list(zip(..)): of what is walked -/
/-! ### isinstance -/
def tyName : D → Option String
  | .non => some "NoneType"
  | .bl _ => some "bool"
  | .int _ => some "int"
  | .str _ => some "str"
  | .tup _ => some "tuple"
  | .rt _ => some "tuple"
  | .lst _ => some "list"
  | .dK _ => some "dict"
  | _ => none
def isB (t : String) : List String → Option Bool
  | [] => some false
  | u :: us => (kitB t u).bind fun b => if b = true then some true else isB t us
def isIX (ts : List String) (x : Ex) : Ex := op1 (fun d => (tyName d).bind fun t => (isB t ts).map bR) x
theorem tyX_of {d : D} {v : V} {t : String} (hK : X.K = c.K) (le : Le P H) (r : Rep c.K c.G P d v) (e : tyName d = some t) : TyX X.K H v (.type t) := by
  cases r with
  | non => cases e; exact .base .non
  | bl b => cases e; exact .base (.bl b)
  | int b => cases e; exact .base (.int b)
  | str b => cases e; exact .base (.str b)
  | tup h r => cases e; exact .base (.tup (le.tup h))
  | lst h r => cases e; exact .base (.lst (le.lst h))
  | dK h r =>
    cases e
    rcases le.rd h with h | ⟨o, h⟩
    · exact .base (.dK h)
    · exact .fDict h
  | rt h r =>
    cases e
    rw [hK]
    rcases le.sqT h with (h | ⟨o, h⟩) | ⟨o, its, n, h1, h2, _⟩
    · exact .base (.tup h)
    · exact .fTuple h
    · exact .kTuple h1 h2
  | _ => cases e
theorem isB_kit {K : PySem.W.Frag} {t : String} : ∀ {ts : List String} {b : Bool}, isB t ts = some b → PySem.W.kitAny K (.type t) (ts.map Value.type) = some b
  | [], b, e => by cases e; rfl
  | u :: us, b, e => by
    obtain ⟨k, e1, e2⟩ := Option.bind_eq_some_iff.mp (show (kitB t u).bind (fun b => if b = true then some true else isB t us) = some b from e)
    refine kitAny_cons (kit_ty e1) (fun z => ?_) fun z => ?_
    · subst z; exact isB_kit e2
    · subst z; cases e2; rfl
/-- one class -/
theorem pd_isi1 {t : Str} {tn : String} {pt : Pos} (hK : X.K = c.K) (hg : Gl X "isinstance") (hm : X.mg "isinstance" = none) (ha : PE X a (TEx c y)) (hs : starEach [a, .Name t pt] X.env = (false, eval a X.env) :: starEach [.Name t pt] X.env)
    (ht : PE X (.Name t pt) (tC (.ty tn))) : PE X (.Call (.Name "isinstance" p) [a, .Name t pt] [] pos) (TEx c (isIX [tn] y)) :=
  pe_imp (pe_callB call_isi hg hm (by decide +kernel) (pa_cons ha (pa_cons ht pa_nil rfl) hs) (by decide) (by decide) hs rfl) fun σ H Q ⟨P, env, S, s, h⟩ => tex_bind s h fun r S1 v P1 H1 st1 s1 rp h1 => by
    cases q : tyName r.d with
    | none => simp only [q, Option.bind_none] at h1; exact h1.elim
    | some n =>
      simp only [q, Option.bind_some] at h1
      cases q2 : isB n [tn] with
      | none => simp only [q2, Option.map_none] at h1; exact h1.elim
      | some b =>
        simp only [q2, Option.map_some] at h1
        obtain ⟨k, e1, e2⟩ := Option.bind_eq_some_iff.mp (show (kitB n tn).bind (fun b => if b = true then some true else isB n []) = some b from q2)
        have kb : k = b := by cases k <;> (cases e2; rfl)
        subst kb
        exact ⟨v, .ty tn, .type n, .type tn, k, rfl, .ty tn, tyX_of hK s1.le rp q, kit_ty e1, PX.ret s1 h1 (.bl _)⟩
theorem tys_tup {es : List Expr} {ts : List String} (h : PA X es (fun _ H Q => Q (ts.map V.ty) H)) {k : Nat} {pt : Pos} (hl : ts.length ≤ sizeLine) : PE X (.Tuple es k pt) (fun _ H Q => ∀ q, H q = none → Q (.ref q) (upd H q (.tup (ts.map V.ty)))) :=
  pe_imp (pe_tup h) fun σ H Q w => ⟨by rw [List.length_map]; exact hl, w⟩
theorem pty_nil : PA X [] (fun _ H Q => Q (([] : List String).map V.ty) H) := pa_imp pa_nil fun σ H Q w => w
theorem pty_cons {e : Expr} {es : List Expr} {t : String} {ts : List String} (h : PE X e (tC (.ty t))) (hr : PA X es (fun _ H Q => Q (ts.map V.ty) H)) (hs : starEach (e :: es) X.env = (false, eval e X.env) :: starEach es X.env) : PA X (e :: es) (fun _ H Q => Q ((t :: ts).map V.ty) H) :=
  pa_imp (pa_cons h hr hs) fun σ H Q w => w
theorem cls_all : ∀ ts : List String, Paired ClsV (ts.map V.ty) (ts.map Value.type)
  | [] => .nil
  | t :: ts => .cons (.ty t) (cls_all ts)
theorem pd_isiT {es : List Expr} {ts : List String} {k : Nat} {pt : Pos} (hK : X.K = c.K) (hg : Gl X "isinstance") (hm : X.mg "isinstance" = none) (ha : PE X a (TEx c y)) (hs : starEach [a, .Tuple es k pt] X.env = (false, eval a X.env) :: starEach [.Tuple es k pt] X.env)
    (ht : PA X es (fun _ H Q => Q (ts.map V.ty) H)) (hl : ts.length ≤ sizeLine) : PE X (.Call (.Name "isinstance" p) [a, .Tuple es k pt] [] pos) (TEx c (isIX ts y)) :=
  pe_imp (pe_callB call_isiT hg hm (by decide +kernel) (pa_cons ha (pa_cons (tys_tup ht hl) pa_nil rfl) hs) (by decide) (by decide) hs rfl) fun σ H Q ⟨P, env, S, s, h⟩ => tex_bind s h fun r S1 v P1 H1 st1 s1 rp h1 => by
    cases q : tyName r.d with
    | none => simp only [q, Option.bind_none] at h1; exact h1.elim
    | some n =>
      simp only [q, Option.bind_some] at h1
      cases q2 : isB n ts with
      | none => simp only [q2, Option.map_none] at h1; exact h1.elim
      | some b =>
        simp only [q2, Option.map_some] at h1
        intro z nz
        have st2 : Step c.ρ P1 H1 P1 (upd H1 z (.tup (ts.map V.ty))) := Step.alloc s1.le nz
        have s2 := s1.step st2 (s1.so.alloc s1.le nz)
        exact ⟨v, z, ts.map V.ty, .type n, ts.map Value.type, b, rfl, upd_same, cls_all ts, tyX_of hK s2.le rp q, isB_kit q2, PX.ret s2 (PX.step st2 h1) (.bl _)⟩
end
end Pv

set_option Elab.async false
set_option linter.all false
set_option maxRecDepth 100000
namespace Pv
open PySem PySem.Spec PyProof.Rows L2

/-! ### a zip whose last pair is still held, over iterators of any kind -/
section
variable {prog : Program} {w : World} {A : Around} {E : Value → Shared → Prop} {s : Shared} {z TI TO T i1 i2 : Addr} {fp1 fp2 : List Addr} {n1 n2 i : Nat} {P1 P2 : Nat → Value → Prop} {St1 St2 : Nat → Heap → Prop} {f : Bool} {oT : Obj}
theorem zh_item {Q : Value → Shared → Prop} (S : ZipSep2 z TI TO i1 i2 fp1 fp2) (D1 : Draws prog w A i1 fp1 n1 P1 St1) (D2 : Draws prog w A i2 fp2 n2 P2 St2) (hz : IsZipHeld s.heap z TI TO T f) (hT : s.heap.get? T = some oT) (hTI : IsTupOf2 s.heap TI (.ref i1) (.ref i2))
    (st1 : St1 i s.heap) (st2 : St2 i s.heap) (lt1 : i < n1) (lt2 : i < n2)
    (hQ : ∀ x y h' tk, P1 i x → P2 i y → IsZipHeld h' z TI TO T true → St1 (i + 1) h' → St2 (i + 1) h' → IsTupOf2 h' s.heap.objs.size x y → h'.objs.size = s.heap.objs.size + 1 → (∀ c o, c ≠ z → c ≠ i1 → c ≠ i2 → s.heap.get? c = some o → h'.get? c = some o) → Q (.ref s.heap.objs.size) { s with heap := h', toks := tk }) :
    wpAny (model prog w) A (Builtin.«zip.__next__» ⟨[.ref z], []⟩) (fun fin s' => ∃ v, fin = .done (.ret v) ∧ Q v s') E s := by
  obtain ⟨hp, g, d, tk0, os⟩ := s
  show wpAny _ _ (field (.ref z) 2 >>= _) _ _ _; refine wpAny_bind (wpAny_field hz rfl (x := .bool false) rfl ?_)
  show wpAny _ _ (field (.ref z) 3 >>= _) _ _ _; refine wpAny_bind (wpAny_field hz rfl (x := .ref TI) rfl (wpAny_bind (wpAny_seqItems hTI rfl ?_)))
  show wpAny _ _ (Builtin.SmallTypes.ownedTupleIsFree (.ref z) >>= _) _ _ _; refine wpAny_bind (wpAny_tupleHeld_zip hz hT fun g0 z0 s0 => ?_)
  replace s0 : Heap.SameBut z hp g0 := s0; replace z0 : IsZipHeld g0 z TI TO T true := z0
  simp only [Bool.false_eq_true, if_false]
  refine wpAny_bind ?_; rw [← Array.forIn_toList]; simp only [List.forIn_cons, List.forIn_nil]; refine wpAny_bind (wpAny_bind (wpAny_holding ?_))
  show wpAny _ _ (Builtin.SmallTypes.nextOf (.ref i1) >>= _) _ _ ⟨g0, g, d, tk0, os⟩
  refine wpAny_bind (D1.item i ⟨g0, g, d, tk0, os⟩ _ _ lt1 (D1.over st1 s0 S.zf1) fun x p1 tk1 hx n1' sp1 => wpAny_pure (wpAny_pure ?_))
  replace sp1 : Heap.SameBut i1 g0 p1 := sp1
  refine wpAny_bind (wpAny_bind (wpAny_holding ?_)); show wpAny _ _ (Builtin.SmallTypes.nextOf (.ref i2) >>= _) _ _ ⟨p1, g, d, tk1, os⟩
  refine wpAny_bind (D2.item i ⟨p1, g, d, tk1, os⟩ _ _ lt2 (D2.over (D2.over st2 s0 S.zf2) sp1 S.sep1_2) fun y p2 tk2 hy n2' sp2 => wpAny_pure (wpAny_pure (wpAny_pure ?_)))
  replace sp2 : Heap.SameBut i2 p1 p2 := sp2
  show wpAny _ _ (newTuple [x, y] >>= _) _ _ ⟨p2, g, d, tk2, os⟩; refine wpAny_bind (wpAny_newTuple (wpAny_pure ⟨_, rfl, ?_⟩))
  have hsz : p2.objs.size = hp.objs.size := by rw [sp2.1, sp1.1, s0.1]
  have zz : IsZipHeld p2 z TI TO T true := sp2.extBut _ _ S.zi2 (sp1.extBut _ _ S.zi1 z0)
  have kk : ∀ c o, c ≠ z → c ≠ i1 → c ≠ i2 → hp.get? c = some o → p2.get? c = some o := fun c o c1 c2 c3 e => sp2.extBut _ _ c3 (sp1.extBut _ _ c2 (s0.extBut _ _ c1 e))
  have up : ∀ c o, p2.get? c = some o → (p2.push { cls := .type "tuple", data := .seq #[x, y] }).get? c = some o := fun c o e => Heap.get?_push_of_some _ e
  have hp2 : IsTupOf2 (p2.push { cls := .type "tuple", data := .seq #[x, y] }) p2.objs.size x y := Heap.get?_push_size _ rfl
  have hz2 : (p2.push { cls := .type "tuple", data := .seq #[x, y] }).objs.size = p2.objs.size + 1 := Heap.size_push ..
  show Q (.ref p2.objs.size) _
  rw [hsz] at hp2 hz2 ⊢
  exact hQ x y _ tk2 hx hy (up _ _ zz) (D1.frame _ _ _ (D1.over n1' sp2 S.sep2_1) fun b _ o e => up b o e) (D2.frame _ _ _ n2' fun b _ o e => up b o e) hp2 hz2 fun c o c1 c2 c3 e => up c o (kk c o c1 c2 c3 e)
theorem zh_end {Q : Fin → Shared → Prop} (S : ZipSep2 z TI TO i1 i2 fp1 fp2) (D1 : Draws prog w A i1 fp1 n1 P1 St1) (D2 : Draws prog w A i2 fp2 n2 P2 St2) (hz : IsZipHeld s.heap z TI TO T f) (hT : s.heap.get? T = some oT) (hTI : IsTupOf2 s.heap TI (.ref i1) (.ref i2))
    (st1 : St1 i s.heap) (st2 : St2 i s.heap) (le1 : i ≤ n1) (le2 : i ≤ n2) (hend : i = n1 ∨ i = n2)
    (hE : ∀ h' tk e, (∀ c o, c ≠ z → c ≠ i1 → c ≠ i2 → s.heap.get? c = some o → h'.get? c = some o) → (∃ o, h'.get? e = some o ∧ o.cls = .type "StopIteration") → E (.ref e) { s with heap := h', toks := tk }) :
    wpAny (model prog w) A (Builtin.«zip.__next__» ⟨[.ref z], []⟩) Q E s := by
  obtain ⟨hp, g, d, tk0, os⟩ := s
  show wpAny _ _ (field (.ref z) 2 >>= _) _ _ _; refine wpAny_bind (wpAny_field hz rfl (x := .bool false) rfl ?_)
  show wpAny _ _ (field (.ref z) 3 >>= _) _ _ _; refine wpAny_bind (wpAny_field hz rfl (x := .ref TI) rfl (wpAny_bind (wpAny_seqItems hTI rfl ?_)))
  show wpAny _ _ (Builtin.SmallTypes.ownedTupleIsFree (.ref z) >>= _) _ _ _; refine wpAny_bind (wpAny_tupleHeld_zip hz hT fun g0 z0 s0 => ?_)
  replace s0 : Heap.SameBut z hp g0 := s0
  simp only [Bool.false_eq_true, if_false]
  refine wpAny_bind ?_; rw [← Array.forIn_toList]; simp only [List.forIn_cons, List.forIn_nil]; refine wpAny_bind (wpAny_bind (wpAny_holding ?_))
  show wpAny _ _ (Builtin.SmallTypes.nextOf (.ref i1) >>= _) _ _ ⟨g0, g, d, tk0, os⟩
  by_cases lt1 : i < n1
  · refine wpAny_bind (D1.item i ⟨g0, g, d, tk0, os⟩ _ _ lt1 (D1.over st1 s0 S.zf1) fun x p1 tk1 hx n1' sp1 => wpAny_pure (wpAny_pure ?_))
    replace sp1 : Heap.SameBut i1 g0 p1 := sp1
    have e2 : i = n2 := by omega
    refine wpAny_bind (wpAny_bind (wpAny_holding ?_)); show wpAny _ _ (Builtin.SmallTypes.nextOf (.ref i2) >>= _) _ _ ⟨p1, g, d, tk1, os⟩
    refine wpAny_bind (D2.done ⟨p1, g, d, tk1, os⟩ _ _ (by rw [← e2]; exact D2.over (D2.over st2 s0 S.zf2) sp1 S.sep1_2) fun q e hq he => ?_)
    exact hE q tk1 e (fun c o c1 c2 c3 x => hq _ _ c3 (sp1.extBut _ _ c2 (s0.extBut _ _ c1 x))) he
  · have e1 : i = n1 := by omega
    refine wpAny_bind (D1.done ⟨g0, g, d, tk0, os⟩ _ _ (by rw [← e1]; exact D1.over st1 s0 S.zf1) fun q e hq he => ?_)
    exact hE q tk0 e (fun c o c1 c2 c3 x => hq _ _ c2 (s0.extBut _ _ c1 x)) he
theorem next_zh_item {Q : Option Value → Shared → Prop} (S : ZipSep2 z TI TO i1 i2 fp1 fp2) (D1 : Draws prog w A.in1 i1 fp1 n1 P1 St1) (D2 : Draws prog w A.in1 i2 fp2 n2 P2 St2) (hz : IsZipHeld s.heap z TI TO T f) (hT : s.heap.get? T = some oT) (hTI : IsTupOf2 s.heap TI (.ref i1) (.ref i2))
    (st1 : St1 i s.heap) (st2 : St2 i s.heap) (lt1 : i < n1) (lt2 : i < n2)
    (hQ : ∀ x y h' tk, P1 i x → P2 i y → IsZipHeld h' z TI TO T true → St1 (i + 1) h' → St2 (i + 1) h' → IsTupOf2 h' s.heap.objs.size x y → h'.objs.size = s.heap.objs.size + 1 → (∀ c o, c ≠ z → c ≠ i1 → c ≠ i2 → s.heap.get? c = some o → h'.get? c = some o) → Q (some (.ref s.heap.objs.size)) { s with heap := h', toks := tk }) :
    wpAny (model prog w) A (pyNext (.ref z)) Q E s := by
  have ty : s.TypeIs (.ref z) "zip" := ⟨_, hz, rfl⟩
  unfold pyNext
  exact wpAny_bind (wpAny_attempt (wpAny_callSpecial?_slot (name := Str.ofString "__next__") ty F.slot_zip_next (wpAny_call_entry F.slot_zip_next ty F.entry_zip_next
    (zh_item S D1 D2 hz hT hTI st1 st2 lt1 lt2 fun x y h' tk y1 y2 b1 d1 d2 b5 b6 b7 => wpAny_pure (hQ x y h' tk y1 y2 b1 d1 d2 b5 b6 b7)) (F.args_zip_next_1 _))))
theorem next_zh_end {Q : Option Value → Shared → Prop} (S : ZipSep2 z TI TO i1 i2 fp1 fp2) (D1 : Draws prog w A.in1 i1 fp1 n1 P1 St1) (D2 : Draws prog w A.in1 i2 fp2 n2 P2 St2) (hz : IsZipHeld s.heap z TI TO T f) (hT : s.heap.get? T = some oT) (hTI : IsTupOf2 s.heap TI (.ref i1) (.ref i2))
    (st1 : St1 i s.heap) (st2 : St2 i s.heap) (le1 : i ≤ n1) (le2 : i ≤ n2) (hend : i = n1 ∨ i = n2)
    (hQ : ∀ h' tk, (∀ c o, c ≠ z → c ≠ i1 → c ≠ i2 → s.heap.get? c = some o → h'.get? c = some o) → Q none { s with heap := h', toks := tk }) : wpAny (model prog w) A (pyNext (.ref z)) Q E s := by
  have ty : s.TypeIs (.ref z) "zip" := ⟨_, hz, rfl⟩
  unfold pyNext
  refine wpAny_bind (wpAny_attempt (wpAny_callSpecial?_slot (name := Str.ofString "__next__") ty F.slot_zip_next (wpAny_call_entry F.slot_zip_next ty F.entry_zip_next (zh_end S D1 D2 hz hT hTI st1 st2 le1 le2 hend fun h' tk e hk ⟨o, ho, hc⟩ => ?_) (F.args_zip_next_1 _))))
  exact wpAny_bind (wpAny_isInstance (T := "StopIteration") (b := true) ⟨o, ho, hc⟩ isSubtype_stop (wpAny_pure (hQ _ _ hk)))
end
/-! ### the zip's state; D: what is written beside it -/
def ZS (k1 k2 : Bool) (z TI TO i1 i2 a b D : Addr) (us vs : Array Value) (i : Nat) (h : Heap) : Prop :=
  IsTupOf2 h TI (.ref i1) (.ref i2) ∧ (ItK k1 h i1 a i ∧ SqK k1 h a us) ∧ (ItK k2 h i2 b i ∧ SqK k2 h b vs) ∧ ((IsZip h z TI TO .none ∧ ∃ x y, IsTupOf2 h TO x y) ∨ ∃ T f oT, IsZipHeld h z TI TO T f ∧ h.get? T = some oT ∧ T ≠ z ∧ T ≠ i1 ∧ T ≠ i2 ∧ T ≠ D)
section
variable {prog : Program} {w : World} {A : Around} {E : Value → Shared → Prop} {s : Shared} {k1 k2 : Bool} {z TI TO i1 i2 a b D : Addr} {us vs : Array Value} {i : Nat}
theorem sqK_keep {k : Bool} {h h' : Heap} {l : Addr} {its : Array Value} (x : SqK k h l its) (hk : ∀ o, h.get? l = some o → h'.get? l = some o) : SqK k h' l its := by
  cases k with
  | true => exact (show h.IsTuple l its from x).at hk
  | false => exact (show h.IsList l its from x).at hk
theorem ZS.keep {h h' : Heap} (S : ZipSep2 z TI TO i1 i2 [i1, a] [i2, b]) (x : ZS k1 k2 z TI TO i1 i2 a b D us vs i h) (d : ∀ c ∈ [z, TI, TO, i1, i2, a, b], c ≠ D) (hk : ∀ c o, c ≠ D → h.get? c = some o → h'.get? c = some o) : ZS k1 k2 z TI TO i1 i2 a b D us vs i h' := by
  obtain ⟨x1, ⟨x2, x3⟩, ⟨x4, x5⟩, x6⟩ := x
  refine ⟨hk _ _ (d TI (by simp)) x1, ⟨itK_keep x2 fun o e => hk _ o (d i1 (by simp)) e, sqK_keep x3 fun o e => hk _ o (d a (by simp)) e⟩, ⟨itK_keep x4 fun o e => hk _ o (d i2 (by simp)) e, sqK_keep x5 fun o e => hk _ o (d b (by simp)) e⟩, ?_⟩
  rcases x6 with ⟨y1, x, y, y2⟩ | ⟨T, f, oT, y1, y2, y3, y4, y5, y6⟩
  · exact .inl ⟨hk _ _ (d z (by simp)) y1, x, y, hk _ _ (d TO (by simp)) y2⟩
  · exact .inr ⟨T, f, oT, hk _ _ (d z (by simp)) y1, hk _ _ y6 y2, y3, y4, y5, y6⟩
theorem zs_item {Q : Option Value → Shared → Prop} (hh : A.handled = none) (na : a ≠ i1) (nb : b ≠ i2) (S : ZipSep2 z TI TO i1 i2 [i1, a] [i2, b]) (x : ZS k1 k2 z TI TO i1 i2 a b D us vs i s.heap) (l1 : i < us.size) (l2 : i < vs.size) (lD : D < s.heap.objs.size)
    (hQ : ∀ u v h' tk, us[i]? = some u → vs[i]? = some v → ZS k1 k2 z TI TO i1 i2 a b D us vs (i + 1) h' → IsTupOf2 h' s.heap.objs.size u v → h'.objs.size = s.heap.objs.size + 1 → (∀ c o, c ∉ [z, TO, i1, i2] → s.heap.get? c = some o → h'.get? c = some o) → Q (some (.ref s.heap.objs.size)) { s with heap := h', toks := tk }) :
    wpAny (model prog w) A (pyNext (.ref z)) Q E s := by
  have d1 := drawK (prog := prog) (w := w) (A := A.in1) k1 hh i1 a na us
  have d2 := drawK (prog := prog) (w := w) (A := A.in1) k2 hh i2 b nb vs
  obtain ⟨x1, x2, x4, x6⟩ := x
  have lz : z < s.heap.objs.size := by
    rcases x6 with ⟨y1, _⟩ | ⟨T, f, oT, y1, _⟩ <;> exact Heap.lt_size y1
  have li1 : i1 < s.heap.objs.size := by obtain ⟨o, e, _⟩ := itK_obj x2.1; exact Heap.lt_size e
  have li2 : i2 < s.heap.objs.size := by obtain ⟨o, e, _⟩ := itK_obj x4.1; exact Heap.lt_size e
  rcases x6 with ⟨y1, x, y, y2⟩ | ⟨T, f, oT, y1, y2, y3, y4, y5, y6⟩
  · refine wpAny_pyNext_zipD2_item S d1 d2 y1 x1 y2 x2 x4 l1 l2 fun u v h' tk eu ev z' TO' t1 t2 nT hsz kp => ?_
    refine hQ u v h' tk eu ev ⟨kp _ _ S.TIz S.TITO S.TIi1 S.TIi2 x1, t1, t2, .inr ⟨_, false, _, z', nT, Nat.ne_of_gt lz, Nat.ne_of_gt li1, Nat.ne_of_gt li2, Nat.ne_of_gt lD⟩⟩ nT hsz fun c o hc e => ?_
    simp only [List.mem_cons, List.not_mem_nil, or_false, not_or] at hc
    exact kp c o hc.1 hc.2.1 hc.2.2.1 hc.2.2.2 e
  · refine next_zh_item S d1 d2 y1 y2 x1 x2 x4 l1 l2 fun u v h' tk eu ev z' t1 t2 nT hsz kp => ?_
    refine hQ u v h' tk eu ev ⟨kp _ _ S.TIz S.TIi1 S.TIi2 x1, t1, t2, .inr ⟨T, true, oT, z', kp _ _ y3 y4 y5 y2, y3, y4, y5, y6⟩⟩ nT hsz fun c o hc e => ?_
    simp only [List.mem_cons, List.not_mem_nil, or_false, not_or] at hc
    exact kp c o hc.1 hc.2.2.1 hc.2.2.2 e
theorem zs_end {Q : Option Value → Shared → Prop} (hh : A.handled = none) (na : a ≠ i1) (nb : b ≠ i2) (S : ZipSep2 z TI TO i1 i2 [i1, a] [i2, b]) (x : ZS k1 k2 z TI TO i1 i2 a b D us vs i s.heap) (ei : i = min us.size vs.size)
    (hQ : ∀ h' tk, (∀ c o, c ∉ [z, TO, i1, i2] → s.heap.get? c = some o → h'.get? c = some o) → Q none { s with heap := h', toks := tk }) : wpAny (model prog w) A (pyNext (.ref z)) Q E s := by
  have d1 := drawK (prog := prog) (w := w) (A := A.in1) k1 hh i1 a na us
  have d2 := drawK (prog := prog) (w := w) (A := A.in1) k2 hh i2 b nb vs
  obtain ⟨x1, x2, x4, x6⟩ := x
  rcases x6 with ⟨y1, x, y, y2⟩ | ⟨T, f, oT, y1, y2, y3, y4, y5, y6⟩
  · refine wpAny_pyNext_zipD2_end S d1 d2 y1 x1 y2 x2 x4 (by omega) (by omega) (by omega) fun h' tk kp => hQ h' tk fun c o hc e => ?_
    simp only [List.mem_cons, List.not_mem_nil, or_false, not_or] at hc
    exact kp c o hc.1 hc.2.1 hc.2.2.1 hc.2.2.2 e
  · refine next_zh_end S d1 d2 y1 y2 x1 x2 x4 (by omega) (by omega) (by omega) fun h' tk kp => hQ h' tk fun c o hc e => ?_
    simp only [List.mem_cons, List.not_mem_nil, or_false, not_or] at hc
    exact kp c o hc.1 hc.2.2.1 hc.2.2.2 e
end
/-- zip(x, y) as dict()'s argument -/
theorem pairArg_zipK {prog : Program} {w : World} (k1 k2 : Bool) {z TI TO i1 i2 a b : Addr} (na : a ≠ i1) (nb : b ≠ i2) (S : ZipSep2 z TI TO i1 i2 [i1, a] [i2, b]) (us vs : Array Value) :
    PairArg prog w "zip" z [z, TI, TO, i1, i2, a, b] [z, TO, i1, i2] (min us.size vs.size) (fun i k v => us[i]? = some k ∧ vs[i]? = some v)
      (fun h => (IsZip h z TI TO .none ∧ ∃ x y, IsTupOf2 h TO x y) ∧ IsTupOf2 h TI (.ref i1) (.ref i2) ∧ (ItK k1 h i1 a 0 ∧ SqK k1 h a us) ∧ (ItK k2 h i2 b 0 ∧ SqK k2 h b vs)) where
  type := fun s ok => ⟨_, ok.1.1, rfl⟩
  notDict := by decide
  keep := fun h h' ⟨⟨y1, x, y, y2⟩, x1, ⟨x2, x3⟩, x4, x5⟩ hk => ⟨⟨hk _ _ y1, x, y, hk _ _ y2⟩, hk _ _ x1, ⟨itK_keep x2 fun o e => hk _ o e, sqK_keep x3 fun o e => hk _ o e⟩, itK_keep x4 fun o e => hk _ o e, sqK_keep x5 fun o e => hk _ o e⟩
  there := fun h ⟨⟨y1, x, y, y2⟩, x1, ⟨x2, x3⟩, x4, x5⟩ c hc => by
    have sq : ∀ {k : Bool} {l : Addr} {its : Array Value}, SqK k h l its → ∃ o, h.get? l = some o := fun {k l its} q => by
      cases k with
      | true => obtain ⟨o, e, _⟩ := (show h.IsTuple l its from q); exact ⟨o, e⟩
      | false => obtain ⟨o, e, _⟩ := (show h.IsList l its from q); exact ⟨o, e⟩
    simp only [List.mem_cons, List.not_mem_nil, or_false] at hc
    rcases hc with rfl | rfl | rfl | rfl | rfl | rfl | rfl
    · exact ⟨_, y1⟩
    · exact ⟨_, x1⟩
    · exact ⟨_, y2⟩
    · obtain ⟨o, e, _⟩ := itK_obj x2; exact ⟨o, e⟩
    · obtain ⟨o, e, _⟩ := itK_obj x4; exact ⟨o, e⟩
    · exact sq x3
    · exact sq x5
  sub := fun c hc => by
    simp only [List.mem_cons, List.not_mem_nil, or_false] at hc ⊢
    rcases hc with q | q | q | q <;> subst q <;> simp
  noKeys := fun A s Q E hA ok h => getAttrOr_miss_zip ok.1.1 rfl rfl rfl zip_no_keys (by decide +kernel) hA h
  iter := fun A s d Q E hA ok hd hdf h => by
    have ap : ∀ c ∈ [z, TI, TO, i1, i2, a, b], c ≠ d := fun c hc q => hdf (q ▸ hc)
    refine wpAny_pyIter_zip ok.1.1 (h z [z, TO, i1, i2] (ZS k1 k2 z TI TO i1 i2 a b d us vs) s.heap s.toks ?_ ⟨ok.2.1, ok.2.2.1, ok.2.2.2, .inl ok.1⟩ (fun _ _ e => e) fun c hc => .inl hc)
    exact {
      off := fun hm => by
        simp only [List.mem_cons, List.not_mem_nil, or_false] at hm
        rcases hm with q | q | q | q
        · exact ap z (by simp) q.symm
        · exact ap TO (by simp) q.symm
        · exact ap i1 (by simp) q.symm
        · exact ap i2 (by simp) q.symm
      frame := fun i h h' st hk => st.keep S ap hk
      item := fun i s Q E hi st hds hQ => zs_item hA na nb S st (by omega) (by omega) hds fun u v h' tk eu ev st' nT hsz kp => hQ _ u v h' tk ⟨eu, ev⟩ (.inl ⟨_, nT, rfl, _, rfl⟩) st' kp
      done := fun s Q E st hQ => zs_end hA na nb S st rfl hQ }
end Pv

set_option Elab.async false
set_option linter.all false
set_option maxRecDepth 100000
namespace Pv
open PySem PySem.Spec PyProof.Rows L2

/-! ### zip(x, y), evaluated -/
structure ZipAt (X : Cx) (pins : List (Addr × Obj)) (σ : L2.St) (H : Hp) (s : Shared) (k1 k2 : Bool) (a b : Addr) (xs ys : List V) (us ws : List Value) (n : Nat) : Prop where
  inv : Inv X pins σ H s
  sx : SqA X.K H k1 a xs
  sy : SqA X.K H k2 b ys
  vx : Vals xs us
  vy : Vals ys ws
  lx : xs.length ≤ sizeLine
  la : a < n
  lb : b < n
  big : n + 4 < s.heap.objs.size
  z : IsZip s.heap (n + 4) (n + 2) (n + 3) .none ∧ ∃ x y, IsTupOf2 s.heap (n + 3) x y
  TI : IsTupOf2 s.heap (n + 2) (.ref n) (.ref (n + 1))
  i1 : ItK k1 s.heap n a 0 ∧ SqK k1 s.heap a us.toArray
  i2 : ItK k2 s.heap (n + 1) b 0 ∧ SqK k2 s.heap b ws.toArray
  fp : ∀ d, n ≤ d → d ≤ n + 4 → FpOk X pins H d
theorem inv_sqA_len {X : Cx} {pins : List (Addr × Obj)} {σ : L2.St} {H : Hp} {s : Shared} {k : Bool} {a : Addr} {xs : List V} (I : Inv X pins σ H s) (h : SqA X.K H k a xs) : xs.length ≤ sizeLine := by
  cases k with
  | true => exact (I.tuple (show SqT X.K H a xs from h)).choose_spec.2.2
  | false => exact (I.list (show SqL X.K H a xs from h)).choose_spec.2.2
theorem zip_eval {X : Cx} {e e2 : Expr} {ta : TA} {p pos : Pos} {pins : List (Addr × Obj)} {s : Shared} {σ : L2.St} {H : Hp} {Q : Addr → Addr → List V → List V → Hp → Prop} {Q' : Value → Shared → Prop} (hg : Gl X "zip") (hm : X.mg "zip" = none) (ha : PA X [e, e2] ta) (hs : starEach [e, e2] X.env = (false, eval e X.env) :: starEach [e2] X.env)
    (hpl : (backTo pos (starEach [e2] X.env)).any (·.1) = false) (I : Inv X pins σ H s) (h : ta σ H fun vs H1 => ∃ k1 k2 a b xs ys, vs = [.ref a, .ref b] ∧ SqA X.K H1 k1 a xs ∧ SqA X.K H1 k2 b ys ∧ Q a b xs ys H1)
    (k : ∀ s' H1 k1 k2 a b xs ys us ws n, ZipAt X pins σ H1 s' k1 k2 a b xs ys us ws n → Q a b xs ys H1 → Q' (.ref (n + 4)) s') : wpAny (model X.prog X.w) X.A (eval (.Call (.Name "zip" p) [e, e2] [] pos) X.env) Q' X.xe s := by
  refine Call_ (ld_blt I hg hm boot_zip (PyProof.Rows.callWith_type1 (thn (ha.run pos pins s σ H _ I h) fun us s1 ⟨vs, H1, I1, r1, q1⟩ => ?_) hs hpl))
  obtain ⟨k1, k2, a, b, xs, ys, ex, sx, sy, q1⟩ := q1
  subst ex
  obtain ⟨u1, u2, rfl, e1, e2⟩ := vals2 r1
  cases e1; cases e2
  obtain ⟨its, rv, px⟩ := inv_sqA I1 sx
  obtain ⟨its2, rv2, py⟩ := inv_sqA I1 sy
  have la := sqK_lt px
  have lb := sqK_lt py
  refine call_zipK k1 k2 px py fun h' hz hTI hTO i1 i2 kp => k _ H1 k1 k2 a b xs ys its its2 s1.heap.objs.size ?_ q1
  exact { inv := I1.kept (t' := s1.toks) kp, sx := sx, sy := sy, vx := rv, vy := rv2, lx := inv_sqA_len I1 sx, la := la, lb := lb, big := Heap.lt_size hz, z := ⟨hz, _, _, hTO⟩, TI := hTI, i1 := ⟨i1, sqK_keep px fun o e => kp _ o e⟩, i2 := ⟨i2, sqK_keep py fun o e => kp _ o e⟩,
          fp := fun d hd _ => I1.fpOk hd (I1.hok.fresh hd) }

/-! ### dicts of tuples, made -/
def putAll (acc l : List (List Key × V)) : List (List Key × V) := l.foldl (fun acc p => putK acc p.1 p.2) acc
theorem kt_all {H : Hp} : ∀ {kvs : List (List Key × V)} {xs : List (List Key × Addr × Value)} {acc : List (List Key × V)} {ax : List (List Key × Addr × Value)}, KT H kvs xs → KT H acc ax → KT H (putAll acc kvs) (storedAllH ax xs)
  | _, _, _, _, .nil, q => q
  | _, _, acc, ax, .cons (a := p) (b := x) h t, q => by
    have e : KT H (putK acc p.1 p.2) (storedH ax x.1 x.2.1 x.2.2) := by rw [← h.1]; exact q.put p.1 h.2.1 h.2.2
    have r := kt_all t e
    exact r
theorem putAll_len : ∀ (l acc : List (List Key × V)), (putAll acc l).length ≤ acc.length + l.length
  | [], acc => Nat.le_refl _
  | p :: l, acc => by
    have h1 := putAll_len l (putK acc p.1 p.2)
    have h2 := length_putK acc p.1 p.2
    show (putAll (putK acc p.1 p.2) l).length ≤ acc.length + (l.length + 1)
    omega
theorem kt_keys {P : Program} {w : World} {H : Hp} {h : Heap} (ok : HOk P w H h) : ∀ {l : List (List Key × V)} {m : List (List Key × Addr × Value)}, KT H l m → ∀ x ∈ m, (tupleKind (mixKind P w)).is h x.1 x.2.1
  | _, _, .nil, x, hx => nomatch hx
  | _, _, .cons hq t, x, hx => by
    rcases List.mem_cons.mp hx with e | hx
    · subst e; exact key_of ok (by rw [← hq.1]; exact hq.2.1)
    · exact kt_keys ok t x hx
/-- the new dict is laid; ch: what was turned -/
theorem inv_dT {X : Cx} {pins : List (Addr × Obj)} {σ : L2.St} {H : Hp} {s : Shared} {h' : Heap} {t' : Nat} {d : Addr} {ch : List Addr} {kvs : List (List Key × V)} {xs : List (List Key × Addr × Value)} (I : Inv X pins σ H s) (hd : s.heap.objs.size ≤ d) (k : ∀ b o, b ∉ ch → s.heap.get? b = some o → h'.get? b = some o)
    (hf : ∀ b ∈ ch, FpOk X pins H b) (hl : kvs.length ≤ sizeLine) (rel : KT H kvs xs) (dd : h'.DictOfH (tupleKind (mixKind X.prog X.w)) d (storedAllH [] xs)) : Inv X pins σ (upd H d (.dT (putAll [] kvs))) { s with heap := h', toks := t' } := by
  have n : H d = none := I.hok.fresh hd
  refine I.turnedNew k hf hd ?_
  obtain ⟨o, es, ep, h1, h2, h3, h4, _, h5⟩ := dd
  refine ⟨?_, ?_, storedAllH [] xs, (kt_all rel .nil).keeps fun b ys e => ?_, o, es, ep, h1, h2, h3, h4, h5⟩
  · have := putAll_len kvs []
    rw [List.length_nil] at this; omega
  · have := I.big
    exact beq_eq_false_iff_ne.mpr (Nat.ne_of_gt (Nat.lt_of_lt_of_le this hd))
  · rw [upd_ne (ne_of_none e n)]; exact e
/-- the keys and values: the pairs of two lists of values -/
inductive KTs (H : Hp) : List (List Key × V) → List V → List V → Prop
  | nilL {ys : List V} : KTs H [] [] ys
  | nilR {xs : List V} : KTs H [] xs []
  | cons {k : List Key} {b : Addr} {y : V} {kvs : List (List Key × V)} {xs ys : List V} : H b = some (.tup (k.map kV)) → KTs H kvs xs ys → KTs H ((k, y) :: kvs) (.ref b :: xs) (y :: ys)
theorem KTs.len {H : Hp} : ∀ {kvs : List (List Key × V)} {xs ys : List V}, KTs H kvs xs ys → kvs.length = min xs.length ys.length
  | _, _, _, .nilL => by simp
  | _, _, _, .nilR => by simp
  | _, _, _, .cons _ t => by
    have := t.len
    simp only [List.length_cons]
    omega
theorem KTs.made {H : Hp} : ∀ {kvs : List (List Key × V)} {xs ys : List V} {us ws : List Value}, KTs H kvs xs ys → Vals xs us → Vals ys ws → ∃ ps : List (List Key × Addr × Value), KT H kvs ps ∧ ps.length = kvs.length ∧ ∀ (i : Nat) (u w : Value), us[i]? = some u → ws[i]? = some w → ∃ k b, ps[i]? = some (k, b, w) ∧ u = Value.ref b
  | _, _, _, us, ws, .nilL, r1, _ => by cases r1; exact ⟨[], .nil, rfl, fun i u w e => by simp at e⟩
  | _, _, _, us, ws, .nilR, _, r2 => by cases r2; exact ⟨[], .nil, rfl, fun i u w _ e => by simp at e⟩
  | _, _, _, _, _, .cons (k := k) (b := b) e t, .cons (b := u0) q1 t1, .cons (b := w0) q2 t2 => by
    obtain ⟨ps, h1, h2, h3⟩ := t.made t1 t2
    cases q1
    refine ⟨(k, b, w0) :: ps, .cons ⟨rfl, e, q2⟩ h1, congrArg (· + 1) h2, fun i u w e1 e2 => ?_⟩
    cases i with
    | zero =>
      have z1 : Value.ref b = u := Option.some.inj e1
      have z2 : w0 = w := Option.some.inj e2
      exact ⟨k, b, by rw [← z2]; rfl, z1.symm⟩
    | succ i => exact h3 i u w e1 e2

/-! ### .. of values -/
def putD {κ : Type} [DecidableEq κ] (l : List (κ × D)) (k : κ) (d : D) : List (κ × D) := if (l.any fun p => decide (p.1 = k)) = true then l.map (fun p => if p.1 = k then (p.1, d) else p) else l ++ [(k, d)]
def putDs {κ : Type} [DecidableEq κ] : List (κ × D) → List (κ × D) → List (κ × D)
  | acc, [] => acc
  | acc, p :: ps => putDs (putD acc p.1 p.2) ps
def tkey : D → Option (List Key)
  | .tup l => keysOf l
  | _ => none
def pairsT : List D → List D → Option (List (List Key × D))
  | a :: l, b :: m => (tkey a).bind fun k => (pairsT l m).map fun r => (k, b) :: r
  | _, _ => some []
def pairsL : List D → Option (List (List Key × D))
  | [] => some []
  | .tup [a, b] :: l => (tkey a).bind fun k => (pairsL l).map fun r => (k, b) :: r
  | _ => none
def zipDict (ds : List D) : Option R := match ds with
  | [a, b] => (match seqD a, seqD b with
    | some l1, some l2 => (pairsT l1 l2).map fun ps => ⟨true, .dT (putDs [] ps)⟩
    | _, _ => none)
  | _ => none
section
variable {X : Cx} {c : Cc} {P H : Hp}
theorem tkey_rep {d : D} {k : List Key} {v : V} (e : tkey d = some k) (r : Rep c.K c.G P d v) (le : Le P H) : ∃ b, v = .ref b ∧ P b = some (.tup (k.map kV)) := by
  cases r with
  | tup h rb => exact ⟨_, rfl, by rw [← keysOf_rep e rb]; exact h⟩
  | _ => cases e
theorem rep_putT {k : List Key} {d : D} {v : V} (rd : Rep c.K c.G P d v) : ∀ {l : List (List Key × D)} {kvs : List (List Key × V)}, RepT c.K c.G P l kvs → RepT c.K c.G P (putD l k d) (putK kvs k v) := by
  have any : ∀ {l : List (List Key × D)} {kvs : List (List Key × V)}, RepT c.K c.G P l kvs → (l.any fun p => decide (p.1 = k)) = (kvs.any fun p => decide (p.1 = k)) := fun {l} => by
    induction l with
    | nil => intro kvs r; cases r; rfl
    | cons p l ih =>
      intro kvs r
      cases r with
      | cons r1 r2 => rw [List.any_cons, List.any_cons, ih r2]
  have rpl : ∀ {l : List (List Key × D)} {kvs : List (List Key × V)}, RepT c.K c.G P l kvs → RepT c.K c.G P (l.map fun p => if p.1 = k then (p.1, d) else p) (kvs.map fun p => if p.1 = k then (p.1, v) else p) := fun {l} => by
    induction l with
    | nil => intro kvs r; cases r; exact .nil
    | cons p l ih =>
      intro kvs r
      cases r with
      | @cons k1 d1 v1 _ _ r1 r2 =>
        rw [List.map_cons, List.map_cons]
        by_cases e : k1 = k
        · rw [if_pos e, if_pos e]; exact .cons rd (ih r2)
        · rw [if_neg e, if_neg e]; exact .cons r1 (ih r2)
  have snoc : ∀ {l : List (List Key × D)} {kvs : List (List Key × V)}, RepT c.K c.G P l kvs → RepT c.K c.G P (l ++ [(k, d)]) (kvs ++ [(k, v)]) := fun {l} => by
    induction l with
    | nil => intro kvs r; cases r; exact .cons rd .nil
    | cons p l ih =>
      intro kvs r
      cases r with
      | cons r1 r2 => exact .cons r1 (ih r2)
  intro l kvs r
  unfold putD putK
  rw [any r]
  by_cases e : (kvs.any fun p => decide (p.1 = k)) = true
  · rw [if_pos e, if_pos e]; exact rpl r
  · rw [if_neg e, if_neg e]; exact snoc r
theorem rep_putTs : ∀ {ps : List (List Key × D)} {kvs : List (List Key × V)} {acc : List (List Key × D)} {av : List (List Key × V)}, RepT c.K c.G P ps kvs → RepT c.K c.G P acc av → RepT c.K c.G P (putDs acc ps) (putAll av kvs)
  | [], _, _, _, r, q => by cases r; exact q
  | p :: ps, _, acc, av, r, q => by
    cases r with
    | @cons k d v _ xs r1 r2 =>
      have t := rep_putTs r2 (rep_putT (k := k) r1 q)
      exact t
theorem pairsT_rep : ∀ {l m : List D} {ps : List (List Key × D)} {xs ys : List V}, pairsT l m = some ps → Reps c.K c.G P l xs → Reps c.K c.G P m ys → Le P H → ∃ kvs, KTs H kvs xs ys ∧ RepT c.K c.G P ps kvs
  | [], m, ps, xs, ys, e, r1, r2, le => by
    cases r1
    cases e
    exact ⟨[], .nilL, .nil⟩
  | a :: l, [], ps, xs, ys, e, r1, r2, le => by
    cases r2
    cases e
    exact ⟨[], .nilR, .nil⟩
  | a :: l, b :: m, ps, xs, ys, e, r1, r2, le => by
    cases r1 with
    | cons ra r1 =>
      cases r2 with
      | cons rb r2 =>
        obtain ⟨k, e1, e2⟩ := Option.bind_eq_some_iff.mp (show (tkey a).bind _ = some ps from e)
        obtain ⟨r, e3, e4⟩ := Option.map_eq_some_iff.mp e2
        obtain ⟨kvs, h1, h2⟩ := pairsT_rep e3 r1 r2 le
        obtain ⟨q, rfl, h3⟩ := tkey_rep e1 ra le
        subst e4
        exact ⟨(k, _) :: kvs, .cons (le.tup h3) h1, .cons rb h2⟩
theorem qx_dT {S : Sto} {Q : VK} {l : List (List Key × D)} {kvs : List (List Key × V)} (h : QX c P H Q ⟨true, .dT l⟩ S) (le : Le P H) (so : StoOk c.K c.G c.ρ P H S) (r : RepT c.K c.G P l kvs) : ∀ p, H p = none → Q (.ref p) (upd H p (.dT kvs)) := fun p n =>
  h (.ref p) P _ (Step.alloc le n) (so.alloc le n) (by unfold RepR; rw [if_pos rfl]; exact ⟨p, rfl, n, le.none n, .dT upd_same r⟩)
theorem zip_vals {a b : D} {v : List V} {l1 l2 : List D} (hK : X.K = c.K) (le : Le P H) (r : Reps c.K c.G P [a, b] v) (e1 : seqD a = some l1) (e2 : seqD b = some l2) : ∃ k1 k2 p q xs ys, v = [.ref p, .ref q] ∧ SqA X.K H k1 p xs ∧ SqA X.K H k2 q ys ∧ Reps c.K c.G P l1 xs ∧ Reps c.K c.G P l2 ys := by
  cases r with
  | cons r1 r =>
    cases r with
    | cons r2 r =>
      cases r
      obtain ⟨k1, p, xs, rfl, s1, q1⟩ := seqD_rep2 e1 r1
      obtain ⟨k2, q, ys, rfl, s2, q2⟩ := seqD_rep2 e2 r2
      exact ⟨k1, k2, p, q, xs, ys, rfl, by rw [hK]; exact s1 H le, by rw [hK]; exact s2 H le, q1, q2⟩
theorem zipDict_inv {ds : List D} {r : R} (e : zipDict ds = some r) : ∃ a b l1 l2 ps, ds = [a, b] ∧ seqD a = some l1 ∧ seqD b = some l2 ∧ pairsT l1 l2 = some ps ∧ r = ⟨true, .dT (putDs [] ps)⟩ := by
  unfold zipDict at e
  match ds, e with
  | [a, b], e =>
    cases e1 : seqD a with
    | none => simp only [e1] at e; cases e
    | some l1 =>
      cases e2 : seqD b with
      | none => simp only [e1, e2] at e; cases e
      | some l2 =>
        simp only [e1, e2] at e
        obtain ⟨ps, h1, h2⟩ := Option.map_eq_some_iff.mp e
        exact ⟨a, b, l1, l2, ps, rfl, e1, e2, h1, h2.symm⟩
theorem paired_getR {α β : Type} {F : α → β → Prop} : ∀ {l : List α} {m : List β} {i : Nat} {y : β}, Paired F l m → m[i]? = some y → ∃ x, l[i]? = some x ∧ F x y
  | _, _, _, _, .nil, e => by simp at e
  | _, _, 0, _, .cons h t, e => by simp at e; subst e; exact ⟨_, rfl, h⟩
  | _, _, i + 1, _, .cons h t, e => paired_getR (i := i) t (by simpa using e)
/-- dict(zip(x, y)), the keys tuples -/
theorem pd_dzip {e e2 : Expr} {l : Lx} {p p2 q pos : Pos} (hK : X.K = c.K) (hc : X.calm = true) (hu : X.A.units + 65 < cLine) (hgd : Gl X "dict") (hmd : X.mg "dict" = none) (hg : Gl X "zip") (hm : X.mg "zip" = none) (ha : PA X [e, e2] (TLx c l))
    (hs : starEach [e, e2] X.env = (false, eval e X.env) :: starEach [e2] X.env) (hpl : (backTo q (starEach [e2] X.env)).any (·.1) = false) : PE X (.Call (.Name "dict" p) [.Call (.Name "zip" p2) [e, e2] [] q] [] pos) (TEx c (biX zipDict l)) := by
  refine pe_imp (t := fun σ H Q => TLx c l σ H fun vs H1 => ∃ k1 k2 a b xs ys, vs = [.ref a, .ref b] ∧ SqA X.K H1 k1 a xs ∧ SqA X.K H1 k2 b ys ∧ ∃ kvs, KTs H1 kvs xs ys ∧ ∀ p, H1 p = none → Q (.ref p) (upd H1 p (.dT (putAll [] kvs)))) ⟨fun pins s σ H Q I h => ?_⟩
    fun σ H Q ⟨P, env, S, s, h⟩ => tlx_bind s h fun ds S1 vs P1 H1 st1 s1 rp h1 => ?_
  · refine Call_ (ld_blt I hgd hmd PyProof.Rows.boot_dict (PyProof.Rows.callWith_type1 (args_cons (zip_eval (Q := fun a b xs ys H1 => ∃ kvs, KTs H1 kvs xs ys ∧ ∀ p, H1 p = none → Q (.ref p) (upd H1 p (.dT (putAll [] kvs)))) hg hm ha hs hpl I h
      fun s1 H1 k1 k2 a b xs ys us ws n Z ⟨kvs, kt, qx⟩ => args_nil ?_) rfl) rfl))
    obtain ⟨ps, h1, h2, h3⟩ := kt.made Z.vx Z.vy
    have hlen : kvs.length = min us.toArray.size ws.toArray.size := by rw [kt.len, Z.vx.length, Z.vy.length, List.size_toArray, List.size_toArray]
    have hsz : kvs.length ≤ sizeLine := by
      have := Z.lx
      rw [kt.len]; omega
    have fpN : ∀ b ∈ [n + 4, n + 3, n, n + 1], FpOk X pins H1 b := fun b hb => by
      simp only [List.mem_cons, List.not_mem_nil, or_false] at hb
      rcases hb with q | q | q | q <;> subst q <;> exact Z.fp _ (by omega) (by omega)
    refine call_dict_pairsH (knd := tupleKind (mixKind X.prog X.w)) (ps := ps) (pairArg_zipK (prog := X.prog) (w := X.w) k1 k2 (a := a) (b := b) (Nat.ne_of_lt Z.la) (Nat.ne_of_lt (Nat.lt_succ_of_lt Z.lb)) (sepK Z.la Z.lb) us.toArray ws.toArray)
      (Z.inv.ok.hd hc) (tupleKind_room_in1 (A := X.A.in1) (by have e : X.A.in1.units = X.A.units + 1 := rfl; omega)) ⟨Z.z, Z.TI, Z.i1, Z.i2⟩ ⟨by rw [h2, hlen], fun i key v ⟨e1, e2⟩ => h3 i key v (by simpa using e1) (by simpa using e2)⟩ (fun h' hk x hx => ?_) (by rw [← hlen]; exact hsz) fun h' tk dd hk => ?_
    · obtain ⟨kv, h4⟩ : ∃ kv : List Key × V, kv.1 = x.1 ∧ H1 x.2.1 = some (.tup (kv.1.map kV)) := by
        obtain ⟨i, hi, e⟩ := List.getElem_of_mem hx
        obtain ⟨kv, _, r⟩ := paired_getR (i := i) (y := x) h1 (by rw [← e]; exact List.getElem?_eq_getElem hi)
        exact ⟨kv, r.1, r.2.1⟩
      obtain ⟨o, its, m, q1, q2, q3, q4⟩ := kt_keys Z.inv.hok h1 x hx
      refine ⟨o, its, m, hk _ _ (Nat.ne_of_lt (Heap.lt_size q1)) (fun hb => ?_) q1, q2, q3, q4⟩
      have := (fpN _ hb).1
      rw [h4.2] at this; cases this
    · exact ⟨.ref _, _, inv_dT Z.inv (Nat.le_refl _) hk fpN hsz h1 dd, rfl, qx _ (Z.inv.hok.fresh (Nat.le_refl _))⟩
  · cases q : zipDict ds with
    | none => simp only [q] at h1; exact h1.elim
    | some r3 =>
      simp only [q] at h1
      obtain ⟨da, db, l1, l2, ps, rfl, e1, e2, e3, rfl⟩ := zipDict_inv q
      obtain ⟨k1, k2, p, q, xs, ys, h2, h3, h4, h5, h6⟩ := zip_vals hK s1.le rp e1 e2
      obtain ⟨kvs, h7, h8⟩ := pairsT_rep e3 h5 h6 s1.le
      exact ⟨k1, k2, p, q, xs, ys, h2, h3, h4, kvs, h7, qx_dT (QX.step st1 h1) s1.le s1.so (rep_putTs h8 .nil)⟩
end
end Pv

set_option Elab.async false
set_option linter.all false
set_option maxRecDepth 100000
namespace Pv
open PySem PySem.Spec PyProof.Rows L2

/-! ### list(zip(x, y)) -/
theorem zip_no_len : typeLookup (.type "zip") "__len__" = pure none := am_miss_of_fast (by decide +kernel)
theorem zip_no_hint : typeLookup (.type "zip") "__length_hint__" = pure none := am_miss_of_fast (by decide +kernel)
section
variable {X : Cx} {pins : List (Addr × Obj)} {σ : L2.St}
theorem zl_loop {A : Around} {k1 k2 : Bool} {z TI TO i1 i2 a b S : Addr} {us ws : List Value} {xs ys : List V} {R : Result → Shared → Prop} (J : Nat → List V → Hp → Prop) (hh : A.handled = none) (na : a ≠ i1) (nb : b ≠ i2) (sep : ZipSep2 z TI TO i1 i2 [i1, a] [i2, b]) (ap : ∀ c ∈ [z, TI, TO, i1, i2, a, b], c ≠ S) (vx : Vals xs us) (vy : Vals ys ws) (lx : xs.length ≤ sizeLine) {n0 : Nat} (hn0 : ∀ d ∈ [z, TO, i1, i2], d < n0)
    (step : ∀ i acc H T x y, J i acc H → H S = some (.lst acc) → H T = none → xs[i]? = some x → ys[i]? = some y → J (i + 1) (acc ++ [.ref T]) (upd (upd H T (.tup [x, y])) S (.lst (acc ++ [.ref T]))))
    (fin : ∀ s H acc, Inv X pins σ H s → J (min xs.length ys.length) acc H → H S = some (.lst acc) → R (.ok (.ret .none)) s) :
    ∀ (m i : Nat) (s : Shared) (H : Hp) (acc : List V), n0 ≤ s.heap.objs.size → min xs.length ys.length - i = m → i ≤ min xs.length ys.length → Inv X pins σ H s → (∀ d ∈ [z, TO, i1, i2], FpOk X pins H d) → ZS k1 k2 z TI TO i1 i2 a b S us.toArray ws.toArray i s.heap → H S = some (.lst acc) → acc.length = i → J i acc H →
      codeAny (model X.prog X.w) A (.builtin "list.extend.loop" ⟨[.ref S, .ref z, .none], []⟩) R s := by
  have s1 : us.toArray.size = xs.length := by rw [List.size_toArray]; exact vx.length.symm
  have s2 : ws.toArray.size = ys.length := by rw [List.size_toArray]; exact vy.length.symm
  have hh1 : A.in1.handled = none := hh
  intro m
  induction m with
  | zero =>
    intro i s H acc hN hm hi I hf st hS hl hJ
    have ei : i = min us.toArray.size ws.toArray.size := by rw [s1, s2]; omega
    refine codeAny_builtin F.entry_extend_loop ?_
    rw [Around.under_plainId F.plain_extend_loop _]
    show wpAny _ A.in1 (pyNext (.ref z) >>= _) _ _ s
    refine wpAny_bind (zs_end (A := A.in1) hh1 na nb sep st ei fun h' tk kp => wpAny_pure (fin _ H acc (I.turnedL (t' := tk) kp hf) ?_ hS))
    rw [← s1, ← s2, ← ei]; exact hJ
  | succ m ih =>
    intro i s H acc hN hm hi I hf st hS hl hJ
    refine codeAny_builtin F.entry_extend_loop ?_
    rw [Around.under_plainId F.plain_extend_loop _]
    show wpAny _ A.in1 (pyNext (.ref z) >>= _) _ _ s
    have lS : S < s.heap.objs.size := (I.hok S _ hS).lt
    refine wpAny_bind (zs_item (A := A.in1) hh1 na nb sep st (by rw [s1]; omega) (by rw [s2]; omega) lS fun u v h' tk eu ev st' nT hsz kp => ?_)
    obtain ⟨x, ex, ru⟩ := paired_getR vx (show us[i]? = some u by simpa using eu)
    obtain ⟨y, ey, rv⟩ := paired_getR vy (show ws[i]? = some v by simpa using ev)
    have nT0 : H s.heap.objs.size = none := I.hok.fresh (Nat.le_refl _)
    have ok2 : ObjOk X.prog X.w (upd H s.heap.objs.size (.tup [x, y])) h' s.heap.objs.size (.tup [x, y]) := ⟨by show 2 ≤ sizeLine; decide, [u, v], .cons ru (.cons rv .nil), ⟨_, nT, rfl, _, rfl⟩⟩
    have I1 : Inv X pins σ (upd H s.heap.objs.size (.tup [x, y])) { s with heap := h', toks := tk } := I.turnedNew (t' := tk) kp hf (Nat.le_refl _) ok2
    have hS1 : upd H s.heap.objs.size (.tup [x, y]) S = some (.lst acc) := by rw [upd_ne (Nat.ne_of_lt lS)]; exact hS
    obtain ⟨hz, its, n, ri, hob⟩ := I1.hok S _ hS1
    have lits : its.length = i := by rw [← ri.length]; exact hl
    show wpAny _ A.in1 (updateSeq S (·.push (.ref s.heap.objs.size)) >>= _) _ _ _
    refine wpAny_bind (wpAny_updateSeq (s := { s with heap := h', toks := tk }) hob rfl (wpAny_pure ⟨plainId_quiet F.plain_extend_loop _, ih (i + 1) _ _ (acc ++ [.ref s.heap.objs.size]) ?_ (by omega) (by omega)
      (I1.write (x := S) (e := S) (o := .lst (acc ++ [.ref s.heap.objs.size])) (t' := tk) (by rw [hS1]; trivial) (.inl rfl) (fun d u hd q => (Heap.get?_update_other _ _ (Ne.symm hd)).trans q) ⟨_, Heap.get?_update_self _ hob rfl⟩ ⟨?_, its ++ [.ref s.heap.objs.size], n + 1, ri.append (.cons (show RelV (.ref s.heap.objs.size) (.ref s.heap.objs.size) from rfl) .nil), ?_⟩)
      (fun d hd => ?_) (st'.keep sep ap fun d o hd q => (Heap.get?_update_other _ _ (Ne.symm hd)).trans q) upd_same ?_ (step i acc H _ x y hJ hS nT0 ex ey)⟩) ?_ ?_)
    · have e : ((h'.update S (Obj.mapSeq (·.push (.ref s.heap.objs.size)))).objs.size : Nat) = h'.objs.size := (Heap.SameBut.update h' S (Obj.mapSeq (·.push (.ref s.heap.objs.size)))).1
      show n0 ≤ (h'.update S (Obj.mapSeq (·.push (.ref s.heap.objs.size)))).objs.size
      rw [e, hsz]; omega
    · rw [List.length_append, hl]; show i + 1 ≤ _; omega
    · rw [Heap.get?_update_self _ hob rfl]; simp [Obj.mapSeq]
    · have hd1 := hf d hd
      have ne1 : d ≠ S := ap d (by simp only [List.mem_cons, List.not_mem_nil, or_false] at hd ⊢; rcases hd with q | q | q | q <;> simp [q])
      have ne2 : d ≠ s.heap.objs.size := Nat.ne_of_lt (Nat.lt_of_lt_of_le (hn0 d hd) hN)
      exact ⟨by rw [upd_ne ne1, upd_ne ne2]; exact hd1.1, hd1.2⟩
    · rw [List.length_append, hl]; rfl
    · rw [List.size_toArray, lits]; omega
    · rw [Array.size_push, List.size_toArray, lits]; omega
/-- list(z), z a new zip -/
theorem call_list_zip {A : Around} {E : Value → Shared → Prop} {Q : Value → Shared → Prop} {H : Hp} {s : Shared} {k1 k2 : Bool} {a b : Addr} {xs ys : List V} {us ws : List Value} {n : Nat} (Z : ZipAt X pins σ H s k1 k2 a b xs ys us ws n) (J : Nat → List V → Hp → Prop) (hh : A.handled = none)
    (step : ∀ i acc H T x y, J i acc H → H s.heap.objs.size = some (.lst acc) → H T = none → xs[i]? = some x → ys[i]? = some y → J (i + 1) (acc ++ [.ref T]) (upd (upd H T (.tup [x, y])) s.heap.objs.size (.lst (acc ++ [.ref T]))))
    (fin : ∀ s' H acc, Inv X pins σ H s' → J (min xs.length ys.length) acc H → H s.heap.objs.size = some (.lst acc) → Q (.ref s.heap.objs.size) s') (J0 : J 0 [] (upd H s.heap.objs.size (.lst []))) : wpAny (model X.prog X.w) A (call (.type "list") [.ref (n + 4)]) Q E s := by
  have bg := Z.big
  have la : @LT.lt Nat _ a n := Z.la
  have lb : @LT.lt Nat _ b n := Z.lb
  have nS : H s.heap.objs.size = none := Z.inv.hok.fresh (Nat.le_refl _)
  refine callType_codes (Q₁ := fun obj s₁ => obj = .ref s.heap.objs.size ∧ s₁ = { s with heap := s.heap.push { cls := .type "list", data := .seq #[] } }) F.called_list (F.typeCall_list_1 _) F.entry_list_init (code_list_new _ ⟨rfl, rfl⟩) fun obj s₁ h₁ => ?_
  obtain ⟨rfl, rfl⟩ := h₁
  have hS : (s.heap.push { cls := .type "list", data := .seq #[] }).get? s.heap.objs.size = some { cls := .type "list", data := .seq #[] } := Heap.get?_push_size _ rfl
  refine ⟨⟨_, hS, rfl⟩, F.args_list_init_2 _ _, ?_⟩
  show wpAny _ _ (do let old ← Builtin.List.listItems (.ref s.heap.objs.size); Builtin.List.listUpdate (.ref s.heap.objs.size) (fun _ => #[]); letGo old.toList.reverse; Builtin.List.listExtendWith (.ref s.heap.objs.size) (.ref (n + 4)) .none) _ _ _
  refine wpAny_bind ?_
  unfold Builtin.List.listItems
  refine wpAny_bind (wpAny_seqItems hS rfl (wpAny_pure ?_))
  show wpAny _ _ (updateSeq s.heap.objs.size (fun _ => #[]) >>= fun _ => letGo (#[] : Array Value).toList.reverse >>= fun _ => Builtin.List.listExtendWith (.ref s.heap.objs.size) (.ref (n + 4)) .none) _ _ _
  refine wpAny_bind (wpAny_updateSeq hS rfl ?_)
  have hS2 := Heap.get?_update_self (Obj.mapSeq (fun _ => (#[] : Array Value))) hS rfl
  generalize hg : (s.heap.push { cls := .type "list", data := .seq #[] }).update s.heap.objs.size (Obj.mapSeq (fun _ => (#[] : Array Value))) = g1 at hS2 ⊢
  have k1' : ∀ d o, s.heap.get? d = some o → g1.get? d = some o := fun d o e => by
    rw [← hg]; exact (Heap.get?_update_other _ _ (Nat.ne_of_gt (Heap.lt_size e))).trans (Heap.get?_push_of_some _ e)
  refine wpAny_bind (wpAny_letGo ?_)
  have hz1 := k1' _ _ Z.z.1
  have ty : Shared.TypeIs { s with heap := g1 } (.ref (n + 4)) "zip" := ⟨_, hz1, rfl⟩
  unfold Builtin.List.listExtendWith
  refine wpAny_bind (wpAny_typeOf ty ?_)
  have h1 : Builtin.List.listSameRef (.ref s.heap.objs.size) (.ref (n + 4)) = false := by
    have : s.heap.objs.size ≠ n + 4 := by omega
    simp [Builtin.List.listSameRef, this]
  have h2 : (Value.type "zip" == Value.type "list") = false := by decide
  have h3 : (Value.type "zip" == Value.type "tuple") = false := by decide
  simp only [h1, h2, h3, Bool.or_false, Bool.false_eq_true, if_false]
  refine wpAny_bind (wpAny_pyIter_zip hz1 (wpAny_bind (wpAny_holding ?_)))
  unfold Builtin.List.listLengthHint
  refine wpAny_bind (wpAny_specialOf ty zip_no_len ?_)
  show wpAny _ _ (specialOf (Value.ref (n + 4)) (Str.ofString "__length_hint__") >>= _) _ _ _
  refine wpAny_bind (wpAny_specialOf ty zip_no_hint (wpAny_pure ?_))
  show wpAny _ _ (rule "list.extend.makes-room" >>= fun _ => Builtin.List.listTouch (.ref s.heap.objs.size) >>= fun _ => again (.builtin "list.extend.loop" ⟨[.ref s.heap.objs.size, .ref (n + 4), .none], []⟩)) _ _ _
  refine wpAny_bind (wpAny_rule (wpAny_bind ?_))
  show wpAny _ _ (updateSeq s.heap.objs.size (·.push .none) >>= fun _ => updateSeq s.heap.objs.size (·.pop)) _ _ _
  refine wpAny_bind (wpAny_updateSeq (s := { s with heap := g1 }) hS2 rfl ?_)
  have hS3 := Heap.get?_update_self (Obj.mapSeq (·.push Value.none)) hS2 rfl
  refine wpAny_updateSeq (hz := by seq_fits) hS3 rfl ?_
  have hS4 := Heap.get?_update_self (Obj.mapSeq (·.pop)) hS3 rfl
  have k3 : ∀ d o, d ≠ s.heap.objs.size → g1.get? d = some o → ((g1.update s.heap.objs.size (Obj.mapSeq (·.push Value.none))).update s.heap.objs.size (Obj.mapSeq (·.pop))).get? d = some o :=
    fun d o hd e => (Heap.get?_update_other _ _ (Ne.symm hd)).trans ((Heap.get?_update_other _ _ (Ne.symm hd)).trans e)
  have z3 : (((g1.update s.heap.objs.size (Obj.mapSeq (·.push Value.none))).update s.heap.objs.size (Obj.mapSeq (·.pop))).objs.size : Nat) = s.heap.objs.size + 1 := by
    rw [(Heap.SameBut.update _ _ _).1, (Heap.SameBut.update _ _ _).1, ← hg, (Heap.SameBut.update _ _ _).1, Heap.size_push]
  generalize hg2 : (g1.update s.heap.objs.size (Obj.mapSeq (·.push Value.none))).update s.heap.objs.size (Obj.mapSeq (·.pop)) = g2 at hS4 k3 z3 ⊢
  have k4 : ∀ d o, s.heap.get? d = some o → g2.get? d = some o := fun d o e => k3 d o (Nat.ne_of_lt (Heap.lt_size e)) (k1' d o e)
  have I2 : Inv X pins σ (upd H s.heap.objs.size (.lst [])) { s with heap := g2 } := Z.inv.laid (t' := s.toks) k4 (Nat.le_refl _) ⟨Nat.zero_le _, [], _, .nil, hS4⟩
  have mem : ∀ d : Nat, d ∈ [n + 4, n + 3, n, n + 1] → n ≤ d ∧ d ≤ n + 4 := fun d hd => by
    simp only [List.mem_cons, List.not_mem_nil, or_false] at hd
    rcases hd with q | q | q | q <;> subst q <;> omega
  refine wpAny_pure ⟨plainId_quiet F.plain_extend_loop _, zl_loop (X := X) (pins := pins) (σ := σ) (k1 := k1) (k2 := k2) (z := n + 4) (TI := n + 2) (TO := n + 3) (i1 := n) (i2 := n + 1) (a := a) (b := b) (S := s.heap.objs.size) (us := us) (ws := ws) (xs := xs) (ys := ys) J (A := A.in1) hh (Nat.ne_of_lt la) (Nat.ne_of_lt (Nat.lt_succ_of_lt lb)) (sepK la lb) (fun c hc => ?_) Z.vx Z.vy Z.lx (n0 := s.heap.objs.size) (fun d hd => ?_) step
    (fun s' H' acc I' j e => ⟨rfl, fin s' H' acc I' j e⟩) (min xs.length ys.length) 0 { s with heap := g2 } _ [] ?_ (by omega) (by omega) I2 (fun d hd => ?_) ?_ upd_same rfl J0⟩
  · simp only [List.mem_cons, List.not_mem_nil, or_false] at hc
    rcases hc with q | q | q | q | q | q | q <;> subst q <;> (refine @Nat.ne_of_lt _ _ ?_; omega)
  · have h5 := mem d hd
    show @LT.lt Nat _ d s.heap.objs.size
    omega
  · show s.heap.objs.size ≤ g2.objs.size
    rw [z3]; omega
  · have h4 := mem d hd
    have f := Z.fp d h4.1 h4.2
    have ne : d ≠ s.heap.objs.size := by
      have h6 : @LT.lt Nat _ d s.heap.objs.size := by omega
      exact Nat.ne_of_lt h6
    exact ⟨by rw [upd_ne ne]; exact f.1, f.2⟩
  · obtain ⟨zz, x, y, zo⟩ := Z.z
    exact ⟨k4 _ _ Z.TI, ⟨itK_keep Z.i1.1 fun o e => k4 _ o e, sqK_keep Z.i1.2 fun o e => k4 _ o e⟩, ⟨itK_keep Z.i2.1 fun o e => k4 _ o e, sqK_keep Z.i2.2 fun o e => k4 _ o e⟩, .inl ⟨k4 _ _ zz, x, y, k4 _ _ zo⟩⟩
end

def lzip (ds : List D) : Option R := match ds with
  | [a, b] => (match seqD a, seqD b with
    | some l1, some l2 => some ⟨true, .lst (zipD l1 l2)⟩
    | _, _ => none)
  | _ => none
section
variable {X : Cx} {c : Cc} {P H P1 H1 : Hp}
theorem lzip_inv {ds : List D} {r : R} (e : lzip ds = some r) : ∃ a b l1 l2, ds = [a, b] ∧ seqD a = some l1 ∧ seqD b = some l2 ∧ r = ⟨true, .lst (zipD l1 l2)⟩ := by
  unfold lzip at e
  match ds, e with
  | [a, b], e =>
    cases e1 : seqD a with
    | none => simp only [e1] at e; cases e
    | some l1 =>
      cases e2 : seqD b with
      | none => simp only [e1, e2] at e; cases e
      | some l2 => simp only [e1, e2] at e; cases e; exact ⟨a, b, l1, l2, rfl, e1, e2, rfl⟩
/-- a list of one's own grows by a pair laid for good -/
theorem grow_pair {S : Addr} {T : Addr} {St : Sto} {acc : List V} {x y : V} {P' H' : Hp} (s0 : H1 S = none) (nr : ∀ a, H1 a = none → a ∉ c.ρ) (st : Step c.ρ P1 H1 P' H') (so : StoOk c.K c.G c.ρ P' H' St) (p : P' S = none) (e : H' S = some (.lst acc)) (nT : H' T = none) :
    Step c.ρ P1 H1 (upd P' T (.tup [x, y])) (upd (upd H' T (.tup [x, y])) S (.lst (acc ++ [.ref T]))) ∧ StoOk c.K c.G c.ρ (upd P' T (.tup [x, y])) (upd (upd H' T (.tup [x, y])) S (.lst (acc ++ [.ref T]))) St ∧ upd P' T (.tup [x, y]) S = none := by
  have ne : S ≠ T := fun q => by subst q; rw [nT] at e; cases e
  have p2 : upd P' T (.tup [x, y]) S = none := by rw [upd_ne ne]; exact p
  exact ⟨(st.trans (Step.lay st.le nT (so.new nT))).wr s0 p2 (by rw [upd_ne ne, e]; trivial), (so.lay st.le nT).wr (nr S s0), p2⟩
/-- list(zip(x, y)) -/
theorem pd_lzip {e e2 : Expr} {l : Lx} {p p2 q pos : Pos} (hK : X.K = c.K) (hc : X.calm = true) (hgd : Gl X "list") (hmd : X.mg "list" = none) (hg : Gl X "zip") (hm : X.mg "zip" = none) (ha : PA X [e, e2] (TLx c l))
    (hs : starEach [e, e2] X.env = (false, eval e X.env) :: starEach [e2] X.env) (hpl : (backTo q (starEach [e2] X.env)).any (·.1) = false) : PE X (.Call (.Name "list" p) [.Call (.Name "zip" p2) [e, e2] [] q] [] pos) (TEx c (biX lzip l)) := by
  refine pe_imp (t := fun σ H Q => TLx c l σ H fun vs H1 => ∃ k1 k2 a b xs ys, vs = [.ref a, .ref b] ∧ SqA X.K H1 k1 a xs ∧ SqA X.K H1 k2 b ys ∧ ∃ J : Addr → Nat → List V → Hp → Prop, ∀ S, H1 S = none → J S 0 [] (upd H1 S (.lst [])) ∧
      (∀ i acc H T x y, J S i acc H → H S = some (.lst acc) → H T = none → xs[i]? = some x → ys[i]? = some y → J S (i + 1) (acc ++ [.ref T]) (upd (upd H T (.tup [x, y])) S (.lst (acc ++ [.ref T])))) ∧ ∀ acc H', J S (min xs.length ys.length) acc H' → H' S = some (.lst acc) → Q (.ref S) H') ⟨fun pins s σ H Q I h => ?_⟩
    fun σ H Q ⟨P, env, S, s, h⟩ => tlx_bind s h fun ds S1 vs P1 H1 st1 s1 rp h1 => ?_
  · refine Call_ (ld_blt I hgd hmd PyProof.Rows.boot_list (PyProof.Rows.callWith_type1 (args_cons (zip_eval (Q := fun a b xs ys H1 => ∃ J : Addr → Nat → List V → Hp → Prop, ∀ S, H1 S = none → J S 0 [] (upd H1 S (.lst [])) ∧
      (∀ i acc H T x y, J S i acc H → H S = some (.lst acc) → H T = none → xs[i]? = some x → ys[i]? = some y → J S (i + 1) (acc ++ [.ref T]) (upd (upd H T (.tup [x, y])) S (.lst (acc ++ [.ref T])))) ∧ ∀ acc H', J S (min xs.length ys.length) acc H' → H' S = some (.lst acc) → Q (.ref S) H') hg hm ha hs hpl I h
      fun s1 H1 k1 k2 a b xs ys us ws n Z ⟨J, q⟩ => args_nil ?_) rfl) rfl))
    obtain ⟨j0, stp, fin⟩ := q _ (Z.inv.hok.fresh (Nat.le_refl _))
    exact call_list_zip Z (J _) (Z.inv.ok.hd hc) stp (fun s' H' acc I' j e => ⟨.ref _, H', I', rfl, fin acc H' j e⟩) j0
  · cases q : lzip ds with
    | none => simp only [q] at h1; exact h1.elim
    | some r3 =>
      simp only [q] at h1
      obtain ⟨da, db, l1, l2, rfl, e1, e2, rfl⟩ := lzip_inv q
      obtain ⟨k1, k2, p, q, xs, ys, h2, h3, h4, h5, h6⟩ := zip_vals hK s1.le rp e1 e2
      refine ⟨k1, k2, p, q, xs, ys, h2, h3, h4, fun S i acc H' => ∃ P', Step c.ρ P1 H1 P' H' ∧ StoOk c.K c.G c.ρ P' H' S1 ∧ P' S = none ∧ Reps c.K c.G P' ((zipD l1 l2).take i) acc, fun S nS => ⟨⟨P1, Step.alloc s1.le nS, s1.so.alloc s1.le nS, s1.le.none nS, .nil⟩, ?_, ?_⟩⟩
      · rintro i acc H' T x y ⟨P', st, so, pS, rr⟩ eS nT ex ey
        obtain ⟨st2, so2, pS2⟩ := grow_pair (x := x) (y := y) nS s1.new0 st so pS eS nT
        refine ⟨_, st2, so2, pS2, ?_⟩
        obtain ⟨d1, f1, g1⟩ := h5.getV ex
        obtain ⟨d2, f2, g2⟩ := h6.getV ey
        rw [List.take_add_one, zipD_get f1 f2]
        have up : Same P1 (upd P' T (.tup [x, y])) := fun b u eb => by rw [upd_ne (ne_of_none (st.pp _ _ eb) (st.le.none nT))]; exact st.pp _ _ eb
        exact (rr.mono fun b u eb => by rw [upd_ne (ne_of_none eb (st.le.none nT))]; exact eb).append (.cons (.tup upd_same (.cons (g1.mono up) (.cons (g2.mono up) .nil))) .nil)
      · rintro acc H' ⟨P', st, so, pS, rr⟩ eS
        refine h1 (.ref S) P' H' (st1.trans st) so ?_
        unfold RepR
        rw [if_pos rfl]
        rw [List.take_of_length_le (by rw [zipD_length, h5.length, h6.length]; exact Nat.le_refl _)] at rr
        exact ⟨S, rfl, st1.dom S nS, pS, .lst eS rr⟩
end
end Pv

set_option Elab.async false
set_option linter.all false
set_option maxRecDepth 100000
namespace Pv
open PySem PySem.Spec PyProof.Rows L2

/-! ### dict(list of pairs) -/
inductive KLs (H : Hp) : List (List Key × V) → List V → Prop
  | nil : KLs H [] []
  | cons {k : List Key} {b T : Addr} {y : V} {kvs : List (List Key × V)} {xs : List V} : H T = some (.tup [.ref b, y]) → H b = some (.tup (k.map kV)) → KLs H kvs xs → KLs H ((k, y) :: kvs) (.ref T :: xs)
theorem KLs.len {H : Hp} : ∀ {kvs : List (List Key × V)} {xs : List V}, KLs H kvs xs → kvs.length = xs.length
  | _, _, .nil => rfl
  | _, _, .cons _ _ t => congrArg (· + 1) t.len
theorem KLs.made {P : Program} {w : World} {H : Hp} {h : Heap} (ok : HOk P w H h) : ∀ {kvs : List (List Key × V)} {xs : List V} {us : List Value}, KLs H kvs xs → Vals xs us → ∃ (ps : List (List Key × Addr × Value)) (Ts : List Addr), KT H kvs ps ∧ us = Ts.map Value.ref ∧ Ts.length = ps.length ∧ ∀ (j : Nat) (T : Addr) (p : List Key × Addr × Value), Ts[j]? = some T → ps[j]? = some p → PairAt h T (.ref p.2.1) p.2.2
  | _, _, us, .nil, r => by cases r; exact ⟨[], [], .nil, rfl, rfl, fun j T p e => by simp at e⟩
  | _, _, _, .cons (k := k) (b := b) (T := T) e1 e2 t, .cons q1 t1 => by
    obtain ⟨ps, Ts, h1, h2, h3, h4⟩ := KLs.made ok t t1
    obtain ⟨_, its, rv, it⟩ := ok T _ e1
    obtain ⟨w1, w2, rfl, r1, r2⟩ := vals2 rv
    cases r1; cases q1
    refine ⟨(k, b, w2) :: ps, T :: Ts, .cons ⟨rfl, e2, r2⟩ h1, by rw [h2]; rfl, congrArg (· + 1) h3, fun j T' p f1 f2 => ?_⟩
    cases j with
    | zero =>
      have z1 : T = T' := Option.some.inj f1
      have z2 : (k, b, w2) = p := Option.some.inj f2
      subst z1 z2
      exact .inl it
    | succ j => exact h4 j T' p f1 f2
def dictL (d : D) : Option R := match d with
  | .lst l => (pairsL l).map fun ps => ⟨true, .dT (putDs [] ps)⟩
  | _ => none
section
variable {X : Cx} {c : Cc} {P H : Hp}
theorem pairsL_rep (le : Le P H) : ∀ {l : List D} {ps : List (List Key × D)} {xs : List V}, pairsL l = some ps → Reps c.K c.G P l xs → ∃ kvs, KLs H kvs xs ∧ RepT c.K c.G P ps kvs
  | [], ps, xs, e, r => by cases r; cases e; exact ⟨[], .nil, .nil⟩
  | d :: l, ps, xs, e, r => by
    cases r with
    | cons r1 r2 =>
      cases r1 with
      | tup hT rr =>
        cases rr with
        | nil => cases e
        | cons ra rr =>
          cases rr with
          | nil => cases e
          | cons rb rr =>
            cases rr with
            | cons _ _ => cases e
            | nil =>
              obtain ⟨k, e1, e2⟩ := Option.bind_eq_some_iff.mp (show (tkey _).bind _ = some ps from e)
              obtain ⟨r, e3, e4⟩ := Option.map_eq_some_iff.mp e2
              obtain ⟨kvs, h1, h2⟩ := pairsL_rep le e3 r2
              obtain ⟨q, rfl, h3⟩ := tkey_rep e1 ra le
              subst e4
              exact ⟨(k, _) :: kvs, .cons (le.tup hT) (le.tup h3) h1, .cons rb h2⟩
      | _ => cases e
theorem cd_dictL (hK : X.K = c.K) (hc : X.calm = true) (hu : X.A.units + 65 < cLine) : CallR X (.type "dict") (rB1 c dictL) := by
  intro pins s σ H vs us Q I rs ⟨P, S, a, r, v, ev, le, so, rd, e, q⟩
  cases a with
  | lst l =>
    obtain ⟨ps0, e1, e2⟩ := Option.map_eq_some_iff.mp (show (pairsL l).map _ = some r from e)
    subst e2 ev
    obtain ⟨A0, xs, rfl, sq, rx⟩ := rd.lstR le
    obtain ⟨u, rfl, ru⟩ := vals1 rs
    cases (show u = Value.ref A0 from ru)
    obtain ⟨its, rv, hl, hz⟩ := I.list (by rw [hK]; exact sq)
    obtain ⟨kvs, k1, k2⟩ := pairsL_rep le e1 rx
    obtain ⟨ps, Ts, h1, h2, h3, h4⟩ := k1.made I.hok rv
    have hpl : ps.length = kvs.length := (Paired.length h1).symm
    have hsz : kvs.length ≤ sizeLine := by rw [k1.len]; exact hz
    refine call_dict_pairsH (knd := tupleKind (mixKind X.prog X.w)) (ps := ps) (PairArg.list A0 its.toArray (fun j => Ts.getD j 0) (ps.map fun p => (Value.ref p.2.1, p.2.2))) (I.ok.hd hc)
      (tupleKind_room_in1 (A := X.A.in1) (by have e : X.A.in1.units = X.A.units + 1 := rfl; omega)) ⟨hl, ?_, ?_⟩ ⟨by rw [List.length_map], fun i key v hi => ?_⟩ (fun h' hk x hx => ?_) (by rw [List.length_map, hpl]; exact hsz) fun h' tk dd hk => ?_
    · rw [List.size_toArray, List.length_map, h2, List.length_map, h3]
    · intro j key v hj
      rw [List.getElem?_map] at hj
      obtain ⟨p, f1, f2⟩ := Option.map_eq_some_iff.mp hj
      cases f2
      have hj' : j < ps.length := (List.getElem?_eq_some_iff.mp f1).1
      have f3 : Ts[j]? = some (Ts.getD j 0) := by
        rw [List.getD_eq_getElem?_getD, List.getElem?_eq_getElem (by omega)]; rfl
      refine ⟨?_, h4 j _ p f3 f1⟩
      rw [List.getElem?_toArray, h2, List.getElem?_map, f3]
      rfl
    · have hi2 : (ps.map fun p => (Value.ref p.2.1, p.2.2))[i]? = some (key, v) := hi
      rw [List.getElem?_map] at hi2
      obtain ⟨p, f1, f2⟩ := Option.map_eq_some_iff.mp hi2
      cases f2
      exact ⟨p.1, p.2.1, f1, rfl⟩
    · obtain ⟨o, its, m, q1, q2, q3, q4⟩ := kt_keys I.hok h1 x hx
      exact ⟨o, its, m, hk _ _ (Nat.ne_of_lt (Heap.lt_size q1)) (fun hb => nomatch hb) q1, q2, q3, q4⟩
    · exact ⟨.ref _, _, inv_dT I (Nat.le_refl _) hk (fun b hb => nomatch hb) hsz h1 dd, rfl, qx_dT q le so (rep_putTs k2 .nil) _ (I.hok.fresh (Nat.le_refl _))⟩
  | _ => cases e
end

/-! ### x | y, of dicts; x of one entry -/
section
variable {prog : Program} {w : World} {A : Around} {E : Value → Shared → Prop} {s : Shared}
theorem call_dict_or {a b : Addr} {x : List Key × Addr × Value} {more : List (List Key × Addr × Value)} {Q : Value → Shared → Prop} (hu : A.units + 1 < cLine) (ha : (a == sysModules) = false) (hb : (b == sysModules) = false) (da : s.heap.DictOfH (tupleKind (mixKind prog w)) a [x]) (db : s.heap.DictOfH (tupleKind (mixKind prog w)) b more)
    (hx : s.TypeIs (.ref x.2.1) "tuple") (hsz : more.length + 1 ≤ sizeLine)
    (h : ∀ h', h'.DictOfH (tupleKind (mixKind prog w)) s.heap.objs.size (storedAllH [x] more) → (∀ c o, s.heap.get? c = some o → h'.get? c = some o) → Q (.ref s.heap.objs.size) { s with heap := h' }) : wpAny (model prog w) A (call (.builtin "dict.__or__") [.ref a, .ref b]) Q E s := by
  refine call_meetsIn F.slot_dict_or da.typeIs F.entry_dict_or (F.args_dict_or_2 _ _) (S := fun A' R s' => A' = A ∧ s' = s ∧ ∀ h', h'.DictOfH (tupleKind (mixKind prog w)) s.heap.objs.size (storedAllH [x] more) → (∀ c o, s.heap.get? c = some o → h'.get? c = some o) → R (.ok (.ret (.ref s.heap.objs.size))) { s with heap := h' })
    (fun A' R s' hS => ?_) ⟨rfl, rfl, h⟩
  obtain ⟨rfl, rfl, hq⟩ := hS
  show wpAny _ _ (Builtin.Dict.dictSlotArgs "__or__" ⟨[.ref a, .ref b], []⟩ >>= _) _ _ _
  refine wpAny_bind ?_
  unfold Builtin.Dict.dictSlotArgs
  refine wpAny_bind (wpAny_notOrdered_dict da.typeIs ?_)
  show wpAny _ _ (pure (Value.ref a, Value.ref b)) _ _ _
  refine wpAny_pure ?_
  show wpAny _ _ ((isInstance (.ref a) (.type "dict") <&&> isInstance (.ref b) (.type "dict")) >>= _) _ _ _
  refine wpAny_bind (wpAny_bind (wpAny_isInstance (T := "dict") da.typeIs PySem.F.sub_dict_dict ?_))
  refine wpAny_isInstance (T := "dict") db.typeIs PySem.F.sub_dict_dict ?_
  simp only [Bool.not_true, Bool.false_eq_true, if_false]
  refine wpAny_bind ?_
  obtain ⟨o, es, ep, ho, hc, hdat, he, his, hn⟩ := id da
  have hes : es.size = 1 := size_of_entries he
  have hemp : es.isEmpty = false := by
    cases q : es.isEmpty with
    | false => rfl
    | true => rw [Array.isEmpty_iff.mp q] at hes; cases hes
  unfold Builtin.Dict.copyOf
  refine wpAny_bind (wpAny_pure ?_)
  unfold Builtin.Dict.showsAll
  rw [if_neg (by rw [ha]; exact Bool.false_ne_true)]
  refine wpAny_bind (wpAny_pure (wpAny_bind (wpAny_dictEntries ho hdat ?_)))
  rw [hemp, if_neg Bool.false_ne_true]
  refine wpAny_bind ?_
  unfold Builtin.Dict.readDirectly
  refine wpAny_bind (wpAny_isInstance da.typeIs isSubtype_dict_dict ?_)
  simp only [Bool.not_true, Bool.false_eq_true, if_false]
  refine wpAny_bind (wpAny_specialOf da.typeIs F.slot_dict_iter.lookup (wpAny_pure ?_))
  simp only [beq_self_eq_true, if_true]
  have ap : ∀ e ∈ es.toList, KeyApart s' es e := keysApart (knd := tupleKind (mixKind prog w)) he (fun y hy => by rw [List.mem_singleton.mp hy]; exact hx) (by simp)
  refine wpAny_bind (wpAny_entriesForEmpty_raw ho hdat ap (wpAny_newObj_type ?_ (by show es.size ≤ sizeLine + 1; rw [hes, sizeLine_eq]; decide)))
  have nd : s'.heap.objs.size ≠ b := by
    obtain ⟨ob, _, _, hob, _⟩ := id db
    exact Nat.ne_of_gt (Heap.lt_size hob)
  have kp : ∀ c o, s'.heap.get? c = some o → (s'.heap.push { cls := .type "dict", data := .dict es }).get? c = some o := fun c o e => Heap.get?_push_of_some _ e
  have isK : ∀ {k : List Key} {c : Addr}, (tupleKind (mixKind prog w)).is s'.heap k c → (tupleKind (mixKind prog w)).is (s'.heap.push { cls := .type "dict", data := .dict es }) k c := fun {k c} z => by
    obtain ⟨o, its, m, q1, q2, q3, q4⟩ := z
    exact ⟨o, its, m, kp _ _ q1, q2, q3, q4⟩
  have dn : (s'.heap.push { cls := .type "dict", data := .dict es }).DictOfH (tupleKind (mixKind prog w)) s'.heap.objs.size [x] := ⟨_, es, 0, Heap.get?_push_size _ rfl, ⟨rfl, rfl, rfl⟩, rfl, he, fun y hy => isK (his y hy), hn⟩
  have db2 : (s'.heap.push { cls := .type "dict", data := .dict es }).DictOfH (tupleKind (mixKind prog w)) b more := by
    obtain ⟨ob, esb, epb, z1, z2, z3, z4, z5, z6⟩ := db
    exact ⟨ob, esb, epb, kp _ _ z1, z2, z3, z4, fun y hy => isK (z5 y hy), z6⟩
  refine wpAny_bind (wpAny_pure (wpAny_holding ?_))
  exact updateFrom_dictH (s := { s' with heap := s'.heap.push { cls := .type "dict", data := .dict es } }) (.ref s'.heap.objs.size) (tupleKind_room_in1 hu) nd hb dn db2 (.inl (fun z => nomatch z)) (by show 1 + more.length ≤ sizeLine; omega) fun h' e1 e2 sb => hq h' e1 fun c o e => sb.extBut _ _ (Nat.ne_of_lt (Heap.lt_size e)) (kp _ _ e)
end
def orD (d e : D) : Option R := match d, e with
  | .dT l, .dT m => (match l with
    | [p] => if m.length + 1 ≤ line then some ⟨true, .dT (putDs [p] m)⟩ else none
    | _ => none)
  | _, _ => none
theorem inv_dTk {X : Cx} {pins : List (Addr × Obj)} {σ : L2.St} {H : Hp} {s : Shared} {h' : Heap} {t' : Nat} {d : Addr} {kvs : List (List Key × V)} {xs : List (List Key × Addr × Value)} (I : Inv X pins σ H s) (hd : s.heap.objs.size ≤ d) (k : ∀ b o, s.heap.get? b = some o → h'.get? b = some o) (hl : kvs.length ≤ sizeLine)
    (rel : KT H kvs xs) (dd : h'.DictOfH (tupleKind (mixKind X.prog X.w)) d xs) : Inv X pins σ (upd H d (.dT kvs)) { s with heap := h', toks := t' } := by
  have n : H d = none := I.hok.fresh hd
  refine I.laid k hd ?_
  obtain ⟨o, es, ep, h1, h2, h3, h4, _, h5⟩ := dd
  refine ⟨hl, beq_eq_false_iff_ne.mpr (Nat.ne_of_gt (Nat.lt_of_lt_of_le I.big hd)), xs, rel.keeps fun b ys e => ?_, o, es, ep, h1, h2, h3, h4, h5⟩
  rw [upd_ne (ne_of_none e n)]; exact e
section
variable {X : Cx} {c : Cc} {P H : Hp}
theorem od_or (hK : X.K = c.K) (hu : X.A.units + 65 < cLine) : OpR X (binaryOp .BitOr) (rOp2 c orD) := by
  intro pins s σ H x y v u Q I rx ry ⟨P, S, a, b, r, le, n0, so, ra, rb, e, q⟩
  cases ra with
  | dT ha rka =>
    cases rb with
    | dT hb rkb =>
      cases rka with
      | nil => cases e
      | cons r1 rka =>
        cases rka with
        | cons _ _ => cases e
        | nil =>
          simp only [orD] at e
          split at e
          · rename_i hlen
            cases e
            cases (show v = Value.ref _ from rx)
            cases (show u = Value.ref _ from ry)
            obtain ⟨z1, hd1, xs1, kt1, d1⟩ := dt_rd I.hok (le.rd ha)
            obtain ⟨z2, hd2, xs2, kt2, d2⟩ := dt_rd I.hok (le.rd hb)
            cases kt1 with
            | @cons p1 x1 _ _ hp t1 =>
              cases t1
              have hl2 := rkb.length
              obtain ⟨_, _, _, _, _, _, _, his, _⟩ := id d1
              have htx : s.TypeIs (.ref x1.2.1) "tuple" := by
                obtain ⟨o, _, _, q1, q2, _⟩ := his x1 (List.mem_singleton.mpr rfl)
                exact ⟨o, q1, q2⟩
              refine wpAny_binaryOp_same (T := "dict") d1.typeIs d2.typeIs F.fills_dict_or F.slot_dict_or ?_
              refine call_dict_or (by omega) hd1 hd2 d1 d2 htx ?_ fun h' dd kp => ⟨(fun z => nomatch z), ?_⟩
              · rw [← Paired.length kt2, ← hl2, ← line_eq]; exact hlen
              · refine ⟨.ref _, _, inv_dTk (t' := s.toks) I (Nat.le_refl _) kp ?_ (kt_all kt2 (Paired.cons hp .nil)) dd, rfl, qx_dT q le so (rep_putTs rkb (.cons r1 .nil)) _ (I.hok.fresh (Nat.le_refl _))⟩
                refine Nat.le_trans (putAll_len _ _) ?_
                rw [← hl2, ← line_eq, List.length_singleton]
                omega
          · cases e
    | _ => cases e
  | _ => cases rb <;> cases e
end
end Pv

set_option Elab.async false
set_option linter.all false
set_option maxRecDepth 100000
namespace Pv
open PySem PySem.Spec PyProof.Rows L2

/-! ### sorted(list of alike data) -/
def leS (a b : D) : Bool := !PySem.W.dataLt (D.py b) (D.py a)
def insB (a : D) : List D → List D
  | [] => [a]
  | b :: l => if leS a b = true then a :: b :: l else b :: insB a l
def sortB : List D → List D
  | [] => []
  | a :: l => insB a (sortB l)
theorem ins_at {a : D} : ∀ {l1 l2 : List D}, (∀ b ∈ l1, (!leS a b) = true) → (∀ b ∈ l2, leS a b = true) → insB a (l1 ++ l2) = l1 ++ a :: l2
  | [], [], _, _ => rfl
  | [], b :: l, _, h => by
    show (if leS a b = true then a :: b :: l else b :: insB a l) = _
    rw [if_pos (h b List.mem_cons_self)]; rfl
  | c :: l1, l2, h1, h2 => by
    show (if leS a c = true then a :: c :: (l1 ++ l2) else c :: insB a (l1 ++ l2)) = _
    have hc := h1 c List.mem_cons_self
    rw [if_neg (by simpa using hc), ins_at (fun b hb => h1 b (List.mem_cons_of_mem _ hb)) h2]
    rfl
theorem leS_eq : PySem.W.dataLe false D.py = leS := rfl
theorem sortB_eq : ∀ l : List D, l.mergeSort leS = sortB l
  | [] => by simp [sortB]
  | a :: l => by
    have T : PySem.W.TotalLe leS := PySem.W.sortLe_total (PyProof.Rows.listOrd PyProof.Rows.itemOrd) false fun d : D => PySem.W.keyToks (D.py d)
    have tr : ∀ a b c, leS a b = true → leS b c = true → leS a c = true := fun a b c h1 h2 => T.trans a b c h1 h2
    have to : ∀ a b, (leS a b || leS b a) = true := fun a b => Bool.or_eq_true_iff.mpr (T.total a b)
    obtain ⟨l1, l2, e1, e2, e3⟩ := List.mergeSort_cons (le := leS) tr to a l
    have pw := List.pairwise_mergeSort (le := leS) tr to (a :: l)
    rw [e1] at pw ⊢
    have h2 : ∀ b ∈ l2, leS a b = true := fun b hb => (List.pairwise_cons.mp (List.pairwise_append.mp pw).2.1).1 b hb
    show _ = insB a (sortB l)
    rw [← sortB_eq l, e2, ins_at e3 h2]
def alikes (ds : List PyData) : Bool := ds.all fun d => ds.all fun e => PySem.W.alike d e
def isTupC : PyData → Bool
  | .tuple (_ :: _) => true
  | _ => false
def isFlatC : PyData → Bool
  | .none => false
  | .tuple _ => false
  | _ => true
def depthsOk (ds : List PyData) : Bool := ds.all fun d => decide (d.depth ≤ 50)
def sortedD (d : D) : Option R := match d with
  | .lst l => if (D.flat (.lst l) && alikes (pyL l) && ((pyL l).all isTupC || (pyL l).all isFlatC) && depthsOk (pyL l)) = true then some ⟨true, .lst (sortB l)⟩ else none
  | _ => none
theorem alikes_all {ds : List PyData} (h : alikes ds = true) : PySem.W.AllAlike ds := fun d hd e he => List.all_eq_true.mp (List.all_eq_true.mp h d hd) e he
theorem sortable_of {ds : List PyData} (h : (ds.all isTupC || ds.all isFlatC) = true) : PySem.W.Sortable ds := by
  rcases Bool.or_eq_true_iff.mp h with h | h
  · refine .inl fun d hd => ?_
    have := List.all_eq_true.mp h d hd
    cases d with
    | tuple l => cases l with
      | nil => cases this
      | cons x r => exact ⟨x, r, rfl⟩
    | _ => cases this
  · refine .inr fun d hd => ?_
    have := List.all_eq_true.mp h d hd
    cases d <;> first | exact ⟨fun z => PyData.noConfusion z, fun _ z => PyData.noConfusion z⟩ | cases this
theorem pyL_map : ∀ l : List D, pyL l = l.map D.py
  | [] => rfl
  | d :: l => by
    show D.py d :: pyL l = _
    rw [pyL_map l]; rfl
section
variable {X : Cx} {c : Cc} {P H : Hp}
theorem zip_each {l : List D} {xs : List V} {us : List Value} (r : Reps c.K c.G P l xs) (v : Vals xs us) : PySem.W.EachIs (fun (u : Value) (p : V × D) => RelV p.1 u ∧ Rep c.K c.G P p.2 p.1) us (xs.zip l) := by
  induction l generalizing xs us with
  | nil => cases r; cases v; exact .nil
  | cons d l ih =>
    cases r with
    | cons r1 r2 =>
      cases v with
      | cons v1 v2 => exact .cons ⟨v1, r1⟩ (ih r2 v2)
theorem each_unzip : ∀ {bs : List (V × D)} {us : List Value}, PySem.W.EachIs (fun (u : Value) (p : V × D) => RelV p.1 u ∧ Rep c.K c.G P p.2 p.1) us bs → Vals (bs.map (·.1)) us ∧ Reps c.K c.G P (bs.map (·.2)) (bs.map (·.1))
  | _, _, .nil => ⟨.nil, .nil⟩
  | _, _, .cons h t => ⟨.cons h.1 (each_unzip t).1, .cons h.2 (each_unzip t).2⟩
theorem flatL_mem : ∀ {l : List D} {d : D}, D.flat (.lst l) = true → d ∈ l → D.flat d = true
  | d0 :: l, d, h, m => by
    obtain ⟨f1, f2⟩ := Bool.and_eq_true_iff.mp (show (D.flat d0 && flatL l) = true from h)
    rcases List.mem_cons.mp m with e | m
    · rw [e]; exact f1
    · exact flatL_mem (l := l) f2 m
theorem map_snd_zip : ∀ {xs : List V} {l : List D}, l.length = xs.length → (xs.zip l).map (·.2) = l
  | [], [], _ => rfl
  | [], _ :: _, h => by cases h
  | _ :: _, [], h => by cases h
  | x :: xs, d :: l, h => by
    show d :: (xs.zip l).map (·.2) = _
    rw [map_snd_zip (by simpa using h)]
theorem each_weak {α β : Type} {R R' : α → β → Prop} : ∀ {us : List α} {bs : List β}, PySem.W.EachIs R us bs → (∀ u b, b ∈ bs → R u b → R' u b) → PySem.W.EachIs R' us bs
  | _, _, .nil, _ => .nil
  | _, _, .cons h t, f => .cons (f _ _ List.mem_cons_self h) (each_weak t fun u b hb r => f u b (List.mem_cons_of_mem _ hb) r)
theorem cd_sorted (hK : X.K = c.K) (hu : X.A.units + 65 < cLine) : CallR X (.builtin "sorted") (rB1 c sortedD) := by
  intro pins s σ H vs us Q I rs ⟨P, S, a, r, v, ev, le, so, rd, e, q⟩
  cases a with
  | lst l =>
    simp only [sortedD] at e
    split at e
    · rename_i hc
      cases e
      simp only [Bool.and_eq_true] at hc
      obtain ⟨⟨⟨hf, hal⟩, hst⟩, hdp⟩ := hc
      subst ev
      obtain ⟨A0, xs, rfl, sq, rx⟩ := rd.lstR le
      obtain ⟨u, rfl, ru⟩ := vals1 rs
      cases (show u = Value.ref A0 from ru)
      obtain ⟨its, rv, hl, hz⟩ := I.list (by rw [hK]; exact sq)
      have ez := zip_each rx rv
      have em : (xs.zip l).map (fun p => D.py p.2) = pyL l := by
        rw [pyL_map, ← map_snd_zip rx.length, List.map_map]
        rw [map_snd_zip rx.length]
        rfl
      have dpt : ∀ b ∈ xs.zip l, X.A.units + 2 + (D.py b.2).depth < cLine := fun b hb => by
        have m : D.py b.2 ∈ pyL l := by rw [← em]; exact List.mem_map.mpr ⟨b, hb, rfl⟩
        have := List.all_eq_true.mp hdp _ m
        have := of_decide_eq_true this
        omega
      refine PySem.W.sorted_data (R := fun (u : Value) (p : V × D) => RelV p.1 u ∧ Rep c.K c.G P p.2 p.1) (enc := fun p : V × D => D.py p.2) hl.isList ez (each_weak ez fun u b hb h => ?_) (by rw [em]; exact alikes_all hal) (by rw [em]; exact sortable_of hst) (by rw [List.length_zip, ← rx.length, Nat.min_self, rx.length]; exact hz) dpt fun out ho eo => ?_
      · have hb2 : b.2 ∈ l := by rw [← map_snd_zip rx.length]; exact List.mem_map.mpr ⟨b, hb, rfl⟩
        have dp := h.2.dp le (flatL_mem hf hb2)
        rw [← hK] at dp
        exact Dp.reads I _ b.1 u dp h.1
      · obtain ⟨ov, orp⟩ := each_unzip eo
        have es : ((xs.zip l).mergeSort (PySem.W.dataLe false fun p : V × D => D.py p.2)).map (·.2) = sortB l := by
          have e0 : (xs.zip l).mergeSort (PySem.W.dataLe false fun p : V × D => D.py p.2) = (xs.zip l).mergeSort (fun a b => leS a.2 b.2) := rfl
          rw [e0, List.map_mergeSort (s := leS) (f := fun p : V × D => p.2) (fun a _ b _ => rfl), map_snd_zip rx.length, sortB_eq]
        rw [es] at orp
        obtain ⟨ep, he'⟩ := PyProof.Rows.sortedAll_at s.heap its (List.toArray out)
        have hlen : (((xs.zip l).mergeSort (PySem.W.dataLe false fun p : V × D => D.py p.2)).map (·.1)).length ≤ sizeLine := by
          rw [List.length_map, List.length_mergeSort, List.length_zip, ← rx.length, Nat.min_self, rx.length]; exact hz
        exact ⟨.ref _, upd H (s.heap.objs.size + 1) (.lst _), I.laid (t' := s.toks) (fun _ _ => PyProof.Rows.sortedAll_old) (Nat.le_succ _) ⟨hlen, out, ep, ov, he'⟩, rfl, qx_lst q le so orp _ (I.hok.fresh (Nat.le_succ _))⟩
    · cases e
  | _ => cases e
end
end Pv

set_option Elab.async false
set_option linter.all false
set_option maxRecDepth 100000
namespace Pv
open PySem PySem.Spec PyProof.Rows L2

section
variable {X : Cx} {c : Cc} {P H : Hp} {a b : Expr} {x y : Ex} {p pos : Pos}
/-! ### tuple(range(..)), list(range(..)) -/
def rgD (m n : Int) : List D := (List.range (n - m).toNat).map fun (i : Nat) => D.int (m + i)
def rgOk (m n : Int) : Bool := decide (-line ≤ m ∧ m ≤ line ∧ -line ≤ n ∧ n ≤ line ∧ n - m ≤ line)
theorem rg_reps (m n : Int) : Reps c.K c.G P (rgD m n) (rgV m n) := by
  unfold rgD rgV
  generalize List.range (n - m).toNat = l
  induction l with
  | nil => exact .nil
  | cons i l ih => exact .cons (.int _) ih
theorem rgOk_ok {m n : Int} (h : rgOk m n = true) : RgOk m n := by
  have := of_decide_eq_true h
  have l62 := line_62
  have e : (line : Nat) = 2 ^ 24 := by decide
  refine ⟨by omega, by omega, by omega, by omega, ?_⟩
  omega
/-- the bounds of a range -/
abbrev Rx := SEnv → Sto → Out (Int × Int)
def rg1 (x : Ex) : Rx := fun env S => (x env S).bind fun a S => match a.d with
  | .int n => .ok (0, n) S
  | _ => .bad
def rg2 (x y : Ex) : Rx := fun env S => (x env S).bind fun a S => (y env S).bind fun b S => match a.d, b.d with
  | .int m, .int n => .ok (m, n) S
  | _, _ => .bad
def TRx (c : Cc) (r : Rx) : L2.St → Hp → (Int → Int → Hp → Prop) → Prop := fun σ H Q => ∃ P env S, Stt c P H env σ S ∧ (r env S).post (fun m S1 => ∀ P1 H1, Step c.ρ P H P1 H1 → StoOk c.K c.G c.ρ P1 H1 S1 → Q m.1 m.2 H1) (XP c P H)
theorem prg_imp {e : Expr} {t t' : L2.St → Hp → (Int → Int → Hp → Prop) → Prop} (h : PRg X e t) (i : ∀ σ H Q, t' σ H Q → t σ H Q) : PRg X e t' := fun pins s σ H Q I w => h pins s σ H Q I (i σ H Q w)
theorem trx_bind {α : Type} {env : SEnv} {σ : L2.St} {S : Sto} {o : Rx} {f : Int × Int → Sto → Out α} {QQ : α → Sto → Prop} {Q' : Int → Int → Hp → Prop} (s : Stt c P H env σ S) (h : ((o env S).bind f).post QQ (XP c P H))
    (k : ∀ r S1 P1 H1, Step c.ρ P H P1 H1 → Stt c P1 H1 env σ S1 → (f r S1).post QQ (XP c P H) → Q' r.1 r.2 H1) : TRx c o σ H Q' :=
  ⟨P, env, S, s, post_mono (post_bind.mp h) (fun r S1 q P1 H1 st so => k r S1 P1 H1 st (s.step st so) q) fun _ _ _ q => q⟩
theorem pr_1 (hg : Gl X "range") (hm : X.mg "range" = none) (ha : PE X a (TEx c x)) (na : starEach [a] X.env = (false, eval a X.env) :: starEach [] X.env) : PRg X (.Call (.Name "range" p) [a] [] pos) (TRx c (rg1 x)) :=
  prg_imp (prg_1 hg hm ha na) fun σ H Q ⟨P, env, S, s, h⟩ => tex_bindG s h fun r S1 v P1 H1 st1 s1 rp h1 => by
    obtain ⟨fr, d⟩ := r
    cases rp with
    | int n => exact ⟨n, rfl, h1 P1 H1 st1 s1.so⟩
    | _ => exact h1.elim
theorem pr_2 (hg : Gl X "range") (hm : X.mg "range" = none) (ha : PE X a (TEx c x)) (hb : PE X b (TEx c y)) (na : starEach [a, b] X.env = (false, eval a X.env) :: starEach [b] X.env) (nb : starEach [b] X.env = (false, eval b X.env) :: starEach [] X.env) (hp : (backTo pos (starEach [b] X.env)).any (·.1) = false) :
    PRg X (.Call (.Name "range" p) [a, b] [] pos) (TRx c (rg2 x y)) :=
  prg_imp (prg_2 hg hm ha hb na nb hp) fun σ H Q ⟨P, env, S, s, h⟩ => tex_bindG s h fun r S1 v P1 H1 st1 s1 rp h1 => tex_bindG s1 (xp_step st1 h1 fun m S' w P' H' st so => w P' H' (st1.trans st) so) fun r2 S2 v2 P2 H2 st2 s2 rp2 h2 => by
    obtain ⟨fr, d⟩ := r
    obtain ⟨fr2, d2⟩ := r2
    cases rp with
    | int m => cases rp2 with
      | int n => exact ⟨m, n, rfl, rfl, h2 P2 H2 st2 s2.so⟩
      | _ => exact h2.elim
    | _ => exact h2.elim
def tupRg (r : Rx) : Ex := fun env S => (r env S).bind fun m S => if rgOk m.1 m.2 = true then .ok ⟨false, .tup (rgD m.1 m.2)⟩ S else .bad
def lstRg (r : Rx) : Ex := fun env S => (r env S).bind fun m S => if rgOk m.1 m.2 = true then .ok ⟨true, .lst (rgD m.1 m.2)⟩ S else .bad
theorem pd_tupRg {e : Expr} {r : Rx} (hc : X.calm = true) (hg : Gl X "tuple") (hm : X.mg "tuple" = none) (he : PRg X e (TRx c r)) (na : starEach [e] X.env = (false, eval e X.env) :: starEach [] X.env) : PE X (.Call (.Name "tuple" p) [e] [] pos) (TEx c (tupRg r)) :=
  pe_imp (pe_tupRg hc hg hm he na) fun σ H Q ⟨P, env, S, s, h⟩ => trx_bind s h fun m S1 P1 H1 st1 s1 h1 => by
    by_cases hb : rgOk m.1 m.2 = true
    · rw [if_pos hb] at h1
      exact ⟨rgOk_ok hb, qx_tup (QX.step st1 h1) s1.le s1.so (rg_reps _ _)⟩
    · rw [if_neg hb] at h1; exact h1.elim
theorem pd_lstRg {e : Expr} {r : Rx} (hc : X.calm = true) (hg : Gl X "list") (hm : X.mg "list" = none) (he : PRg X e (TRx c r)) (na : starEach [e] X.env = (false, eval e X.env) :: starEach [] X.env) : PE X (.Call (.Name "list" p) [e] [] pos) (TEx c (lstRg r)) :=
  pe_imp (pe_listRg hc hg hm he na) fun σ H Q ⟨P, env, S, s, h⟩ => trx_bind s h fun m S1 P1 H1 st1 s1 h1 => by
    by_cases hb : rgOk m.1 m.2 = true
    · rw [if_pos hb] at h1
      exact ⟨rgOk_ok hb, qx_lst (QX.step st1 h1) s1.le s1.so (rg_reps _ _)⟩
    · rw [if_neg hb] at h1; exact h1.elim
/-! ### {}, {k: v} -/
def dnewT : Ex := fun _ S => .ok ⟨true, .dT []⟩ S
def dnewK : Ex := fun _ S => .ok ⟨true, .dK []⟩ S
theorem pd_dnewT : PE X (.Dict [] [] pos) (TEx c dnewT) := pe_imp pe_dnewT fun σ H Q ⟨P, env, S, s, h⟩ => qx_dT h s.le s.so .nil
theorem qx_dK {S : Sto} {Q : VK} {l : List (Key × D)} {kvs : List (Key × V)} (h : QX c P H Q ⟨true, .dK l⟩ S) (le : Le P H) (so : StoOk c.K c.G c.ρ P H S) (r : RepK c.K c.G P l kvs) : ∀ p, H p = none → Q (.ref p) (upd H p (.dK kvs)) := fun p n =>
  h (.ref p) P _ (Step.alloc le n) (so.alloc le n) (by unfold RepR; rw [if_pos rfl]; exact ⟨p, rfl, n, le.none n, .dK upd_same r⟩)
theorem pd_dnewK : PE X (.Dict [] [] pos) (TEx c dnewK) := pe_imp pe_dnewK fun σ H Q ⟨P, env, S, s, h⟩ => qx_dK h s.le s.so .nil
theorem tex_mono {σ : L2.St} {Q Q' : VK} (h : TEx c x σ H Q) (i : ∀ v H, Q v H → Q' v H) : TEx c x σ H Q' := by
  obtain ⟨P, env, S, s, h⟩ := h
  exact ⟨P, env, S, s, post_mono h (fun r S1 q v P1 H1 st so rr => i _ _ (q v P1 H1 st so rr)) fun _ _ _ q => q⟩
theorem eval_dispH {A : Around} {E : Value → Shared → Prop} {s : Shared} {env : Env} {keys : List (Option Expr)} {values : List Expr} {Q : Value → Shared → Prop} (hu : A.units + 1 < cLine) (hall : keys.all (·.isSome) = true) (hl : keys.length = values.length) (h0 : keys ≠ []) (h15 : keys.length ≤ 15)
    (h : wpAny (model X.prog X.w) A (evalPairs (pairTrees keys values env pos)) (fun vs s₁ => ∃ ps, CarriesH (tupleKind (mixKind X.prog X.w)) s₁.heap vs ps ∧ s₁.heap.DictOfH (tupleKind (mixKind X.prog X.w)) s.heap.objs.size [] ∧
      ∀ h' tk, h'.DictOfH (tupleKind (mixKind X.prog X.w)) s.heap.objs.size (storedAllH [] ps) → Heap.SameBut s.heap.objs.size s₁.heap h' → Q (.ref s.heap.objs.size) { s₁ with heap := h', toks := tk }) E { s with heap := s.heap.push { cls := .type "dict", data := .dict #[] } }) :
    wpAny (model X.prog X.w) A (eval (.Dict keys values pos) env) Q E s := by
  have hn := pairTrees_length keys values env pos hall hl
  have hne : pairTrees keys values env pos ≠ [] := fun z => h0 (List.length_eq_zero_iff.mp (by rw [← hn, z]; rfl))
  rw [arm_eval_Dict, zip_pairTrees keys values env pos hall hl, dictDisplay_pairs _ hne (by omega)]
  exact wpAny_bind (wpAny_standAt (wpAny_bind (wpAny_subDictH (knd := tupleKind (mixKind X.prog X.w)) (Q := fun d s' => wpAny (model X.prog X.w) A (pure (Value.ref d)) Q E s') (show A.units < cLine by omega) (by omega)
    (wpAny_mono h (fun vs s₁ ⟨ps, h1, h2, h3⟩ => ⟨ps, h1, h2, fun h' tk e sb => wpAny_pure (h3 h' tk e sb)⟩) fun _ _ e => e))))
/-- {k: v}, k a tuple -/
def dispT (x y : Ex) : Ex := fun env S => (x env S).bind fun a S => (y env S).bind fun b S => match tkey a.d with
  | some k => .ok ⟨true, .dT [(k, b.d)]⟩ S
  | none => .bad
theorem pd_dispT (hu : X.A.units + 65 < cLine) (ha : PE X a (TEx c x)) (hb : PE X b (TEx c y)) : PE X (.Dict [some a] [b] pos) (TEx c (dispT x y)) := by
  refine pe_imp (t := fun σ H Q => ∀ p, H p = none → TEx c x σ (upd H p (.dT [])) fun v1 H1 => TEx c y σ H1 fun v2 H2 => H2 p = some (.dT []) ∧ ∃ b k, v1 = .ref b ∧ H2 b = some (.tup (k.map kV)) ∧ Q (.ref p) (upd H2 p (.dT [(k, v2)]))) ⟨fun pins s σ H Q I q => ?_⟩
    fun σ H Q ⟨P, env, S, s, h⟩ p n => ?_
  · have hn := I.hok.fresh (Nat.le_refl s.heap.objs.size)
    have I1 := I.laid (a := s.heap.objs.size) (o := .dT []) (h' := s.heap.push { cls := .type "dict", data := .dict #[] }) (t' := s.toks) (fun _ _ q => Heap.get?_push_of_some _ q) (Nat.le_refl _) (dt_empty s.heap I.big)
    have pp : PPs X pos [some a] [b] [(TEx c x, TEx c y)] := pps_cons ha hb pps_nil
    refine eval_dispH (by omega) rfl rfl (fun z => nomatch z) (by show 1 ≤ 15; decide) (thn (pp.run pins _ σ _ (fun ps H2 => ∃ v1 v2, ps = [(v1, v2)] ∧ H2 s.heap.objs.size = some (.dT []) ∧ ∃ b k, v1 = .ref b ∧ H2 b = some (.tup (k.map kV)) ∧ Q (.ref s.heap.objs.size) (upd H2 s.heap.objs.size (.dT [(k, v2)]))) I1
      (show TEx c x σ _ fun v1 H1 => TEx c y σ H1 fun v2 H2 => _ from tex_mono (q _ hn) fun v1 H1 q1 => tex_mono q1 fun v2 H2 q2 => ⟨v1, v2, rfl, q2⟩)) fun ws s2 ⟨ps, H2, I2, rel, v1, v2, ep, e, bb, k, e1, e2, q2⟩ => ?_)
    subst ep e1
    cases rel with
    | @cons _ w _ _ rw0 t =>
      cases t
      obtain ⟨w1, w2⟩ := w
      obtain ⟨r1, r2⟩ := rw0
      cases (show w1 = Value.ref bb from r1)
      obtain ⟨z, hd, xs, kt, dd⟩ := dt_of I2.hok e
      cases kt
      refine ⟨[(k, bb, w2)], ⟨rfl, rfl, key_of I2.hok e2, trivial⟩, dd, fun h' tk d2 sb => ⟨.ref s.heap.objs.size, _, ?_, rfl, q2⟩⟩
      have he : ∃ q, h'.get? s.heap.objs.size = some q := let ⟨q, _, _, hq, _⟩ := d2; ⟨q, hq⟩
      obtain ⟨o, es, epp, h1, h2, h3, h4, _, h5⟩ := d2
      refine d_write I2 (by rw [e]; exact True.intro) sb he ⟨by show 1 ≤ sizeLine; decide, hd, [(k, bb, w2)], .cons ⟨rfl, ?_, r2⟩ .nil, o, es, epp, h1, h2, h3, h4, h5⟩
      rw [upd_ne (ne_of e2 e (fun z => nomatch z))]
      exact e2
  · have st : Step c.ρ P H P (upd H p (.dT [])) := Step.alloc s.le n
    have s0 := s.step st (s.so.alloc s.le n)
    have n0 : c.H0 p = none := s.st.dom p n
    unfold dispT at h
    refine tex_bindG s0 (xp_step st (show PX c P H Q _ from h) fun _ _ w => w) fun r S1 v P1 H1 st1 s1 rp h1 => tex_bindG s1 (xp_step st1 h1 fun _ _ w => w) fun r2 S2 v2 P2 H2 st2 s2 rp2 h2 => ?_
    have k1 := own_kept (u := .dT []) s0.r0 st1 n0 (s.le.none n) upd_same (fun xs z => nomatch z) rfl
    have k2 := own_kept s1.r0 st2 n0 k1.1 k1.2 (fun xs z => nomatch z) rfl
    refine ⟨k2.2, ?_⟩
    cases q : tkey r.d with
    | none => simp only [q] at h2; exact h2.elim
    | some k =>
      simp only [q] at h2
      obtain ⟨b, rfl, hb2⟩ := tkey_rep q (rp.mono st2.pp) s2.le
      refine ⟨b, k, rfl, s2.le.tup hb2, ?_⟩
      refine (show QX c P H Q ⟨true, .dT [(k, r2.d)]⟩ S2 from h2) (.ref p) P2 _ ((st.trans (st1.trans st2)).wr n k2.1 (by rw [k2.2]; trivial)) (s2.so.wr (s.new0 p n)) ?_
      unfold RepR
      rw [if_pos rfl]
      exact ⟨p, rfl, n, k2.1, .dT upd_same (.cons rp2 .nil)⟩
end
end Pv

set_option Elab.async false
set_option linter.all false
set_option maxRecDepth 100000
namespace Pv
open PySem PySem.Spec PyProof.Rows L2

/-! ### a written dict of a module -/
inductive KEnt (K : PySem.W.Frag) (G : Nat → Option (Addr × List Str)) (w : World) : List DictEntry → List (Key × D) → Prop
  | nil : KEnt K G w [] []
  | cons {e : DictEntry} {k : Key} {d : D} {es : List DictEntry} {l : List (Key × D)} : keyIs k e.key = true → e.hash = keyH w k → (∃ v, RelV v e.val ∧ ∀ P, Rep K G P d v) → KEnt K G w es l → KEnt K G w (e :: es) ((k, d) :: l)
def KTab (K : PySem.W.Frag) (G : Nat → Option (Addr × List Str)) (w : World) (a : Addr) (tb : List (Key × D)) : Prop :=
  ∃ es n, K.lookup a = some ⟨.type "dict", none, .dict es n, #[]⟩ ∧ KEnt K G w es.toList tb ∧ (a == sysModules) = false ∧ (tb.map (·.1)).Nodup
theorem KEnt.vals {K : PySem.W.Frag} {G : Nat → Option (Addr × List Str)} {w : World} {prog : Program} : ∀ {es : List DictEntry} {tb : List (Key × D)}, KEnt K G w es tb → ∃ (kvs : List (Key × V)) (vs : List (Key × Value)), KV kvs vs ∧ Pairs (mixKind prog w) es vs ∧ (∀ P, RepK K G P tb kvs) ∧ (∀ e ∈ es, ∃ k, (mixKind prog w).is k e.key = true ∧ e.hash = (mixKind prog w).hash k) ∧ vs.map (·.1) = tb.map (·.1)
  | _, _, .nil => ⟨[], [], .nil, .nil, fun _ => .nil, fun _ h => (nomatch h), rfl⟩
  | _, _, .cons (e := e) (k := k) h1 h2 ⟨v, h3, h4⟩ t => by
    obtain ⟨kvs, vs, g1, g2, g3, g4, g5⟩ := KEnt.vals (prog := prog) t
    refine ⟨(k, v) :: kvs, (k, e.val) :: vs, .cons ⟨rfl, h3⟩ g1, .cons h1 rfl g2, fun P => .cons (h4 P) (g3 P), fun e' he => ?_, congrArg (k :: ·) g5⟩
    rcases List.mem_cons.mp he with q | q
    · rw [q]; exact ⟨k, h1, h2⟩
    · exact g4 e' q
theorem KTab.dict {K : PySem.W.Frag} {G : Nat → Option (Addr × List Str)} {w : World} {prog : Program} {a : Addr} {tb : List (Key × D)} {h : Heap} (t : KTab K G w a tb) (kin : K.In h) : ∃ (kvs : List (Key × V)) (vs : List (Key × Value)), KV kvs vs ∧ h.DictOf (mixKind prog w) a vs ∧ (∀ P, RepK K G P tb kvs) ∧ (a == sysModules) = false := by
  obtain ⟨es, n, hl, ke, lo, nd⟩ := t
  obtain ⟨kvs, vs, g1, g2, g3, g4, g5⟩ := ke.vals (prog := prog)
  exact ⟨kvs, vs, g1, ⟨_, es, n, kin _ _ hl, ⟨rfl, rfl, rfl⟩, rfl, fun e he => g4 e (Array.mem_toList_iff.mpr he), g2, by rw [g5]; exact nd⟩, g3, lo⟩
def kinD (tb : List (Key × D)) (d : D) : Option R := (keyOf d).map fun k => bR (look tb k).isSome
def kninD (tb : List (Key × D)) (d : D) : Option R := (keyOf d).map fun k => bR (!(look tb k).isSome)
def kgetD (tb : List (Key × D)) (d : D) : Option R := (keyOf d).bind fun k => (look tb k).map fun d => ⟨false, d⟩
section
variable {X : Cx} {c : Cc} {P H : Hp} {a : Addr} {tb : List (Key × D)}
def rK1 (c : Cc) (a : Addr) (f : D → Option R) : R2 := fun x y H Q => y = .ref a ∧ rOp1 c f x H Q
theorem look_some {kvs : List (Key × V)} {vs : List (Key × Value)} (rk : RepK c.K c.G P tb kvs) (kv : KV kvs vs) (k : Key) : (look tb k).isSome = (valueAt vs k).isSome := by
  rw [← (kv.val k).isSome_eq]
  cases q : look tb k with
  | none => rw [(look_K rk k).2 q]; rfl
  | some d => obtain ⟨v, e, _⟩ := (look_K rk k).1 d q; rw [e]; rfl
theorem ok_in (t : KTab X.K c.G X.w a tb) (hK : X.K = c.K) : OpR X (compareOp .In) (rK1 c a (kinD tb)) := by
  intro pins s σ H x y v u Q I rx ry ⟨ey, P, S, d, r, le, n0, so, rd, e, q⟩
  subst ey
  cases (show u = Value.ref a from ry)
  obtain ⟨k, e1, e2⟩ := Option.map_eq_some_iff.mp e
  subst e2
  obtain ⟨kvs, vs, kv, dd, rk, lo⟩ := t.dict (prog := X.prog) I.kIn
  rw [keyOf_rep e1 rd] at rx
  refine wpAny_in_of (kV_is rx) lo dd.mapOf ⟨.bl _, H, I.tok _, rfl, ?_⟩
  rw [← look_some (c := c) (by rw [← hK]; exact rk P) kv k]
  exact qx_ret q le so (.bl _)
theorem ok_nin (t : KTab X.K c.G X.w a tb) (hK : X.K = c.K) : OpR X (compareOp .NotIn) (rK1 c a (kninD tb)) := by
  intro pins s σ H x y v u Q I rx ry ⟨ey, P, S, d, r, le, n0, so, rd, e, q⟩
  subst ey
  cases (show u = Value.ref a from ry)
  obtain ⟨k, e1, e2⟩ := Option.map_eq_some_iff.mp e
  subst e2
  obtain ⟨kvs, vs, kv, dd, rk, lo⟩ := t.dict (prog := X.prog) I.kIn
  rw [keyOf_rep e1 rd] at rx
  refine wpAny_notIn_of (kV_is rx) lo dd.mapOf ⟨.bl _, H, I.tok _, rfl, ?_⟩
  rw [← look_some (c := c) (by rw [← hK]; exact rk P) kv k]
  exact qx_ret q le so (.bl _)
def rIxK (c : Cc) (a : Addr) (f : D → Option R) : R2 := fun x y H Q => x = .ref a ∧ rOp1 c f y H Q
theorem ix_K (t : KTab X.K c.G X.w a tb) (hK : X.K = c.K) : IxR X (rIxK c a (kgetD tb)) := by
  intro value slice pins s σ H x y v u Q I rx ry ⟨ex, P, S, d, r, le, n0, so, rd, e, q⟩ hs
  subst ex
  cases (show v = Value.ref a from rx)
  obtain ⟨k, e1, e2⟩ := Option.bind_eq_some_iff.mp e
  obtain ⟨d2, e3, e4⟩ := Option.map_eq_some_iff.mp e2
  subst e4
  obtain ⟨kvs, vs, kv, dd, rk, lo⟩ := t.dict (prog := X.prog) I.kIn
  rw [keyOf_rep e1 rd] at ry
  have rk' : RepK c.K c.G P tb kvs := by rw [← hK]; exact rk P
  obtain ⟨w, e5, rw'⟩ := (look_K rk' k).1 d2 e3
  obtain ⟨w2, e6, r2⟩ := RelO.some_of (v := w) (o := valueAt vs k) (by rw [← e5]; exact kv.val k)
  exact tail_any dd.typeIs PySem.F.slot_dict_getitem.lookup (wpAny_getItem_of (kV_is ry) dd.mapOf e6 ⟨w, H, I.tok _, r2, qx_ret q le so rw'⟩) hs
variable {e : Expr} {x : Ex} {nm : Str} {p pos : Pos}
theorem opK_top {f : D → Option R} : ∀ σ H Q, TEx c (op1 f x) σ H Q → tOp (rK1 c a f) (TEx c x) (tC (.ref a)) σ H Q := fun σ H Q h => by
  obtain ⟨P, env, S, s, h⟩ := h
  exact tex_bind s h fun r S1 v P1 H1 st1 s1 rp1 h1 => by
    cases q : f r.d with
    | none => simp only [q] at h1; exact h1.elim
    | some r3 =>
      simp only [q] at h1
      exact ⟨rfl, P1, S1, r.d, r3, s1.le, s1.new0, s1.so, rp1, q, h1⟩
theorem ixK_top {f : D → Option R} : ∀ σ H Q, TEx c (op1 f x) σ H Q → tOp (rIxK c a f) (tC (.ref a)) (TEx c x) σ H Q := fun σ H Q h => by
  obtain ⟨P, env, S, s, h⟩ := h
  exact tex_bind s h fun r S1 v P1 H1 st1 s1 rp1 h1 => by
    cases q : f r.d with
    | none => simp only [q] at h1; exact h1.elim
    | some r3 =>
      simp only [q] at h1
      exact ⟨rfl, P1, S1, r.d, r3, s1.le, s1.new0, s1.so, rp1, q, h1⟩
theorem pd_kin (t : KTab X.K c.G X.w a tb) (hK : X.K = c.K) (hg : Gl X nm) (hm : X.mg nm = some (.ref a)) (hd : (nm == ("__debug__" : Str)) = false) (he : PE X e (TEx c x)) : PE X (.Compare e [.In] [.Name nm p] pos) (TEx c (op1 (kinD tb) x)) :=
  pe_imp (pe_cmpR (ok_in t hK) he (pe_glob hg hm (show RelV (.ref a) (.ref a) from rfl) hd) rfl) opK_top
theorem pd_knin (t : KTab X.K c.G X.w a tb) (hK : X.K = c.K) (hg : Gl X nm) (hm : X.mg nm = some (.ref a)) (hd : (nm == ("__debug__" : Str)) = false) (he : PE X e (TEx c x)) : PE X (.Compare e [.NotIn] [.Name nm p] pos) (TEx c (op1 (kninD tb) x)) :=
  pe_imp (pe_cmpR (ok_nin t hK) he (pe_glob hg hm (show RelV (.ref a) (.ref a) from rfl) hd) rfl) opK_top
theorem pd_kget (t : KTab X.K c.G X.w a tb) (hK : X.K = c.K) (hg : Gl X nm) (hm : X.mg nm = some (.ref a)) (hd : (nm == ("__debug__" : Str)) = false) (he : PE X e (TEx c x)) (hs : PlainIx e) : PE X (.Subscript (.Name nm p) e pos) (TEx c (op1 (kgetD tb) x)) :=
  pe_imp (pe_ix (ix_K t hK) (pe_glob hg hm (show RelV (.ref a) (.ref a) from rfl) hd) he hs) ixK_top
end
end Pv

set_option Elab.async false
set_option linter.all false
set_option maxRecDepth 100000
namespace Pv
open PySem PySem.Spec PyProof.Rows L2

section
variable {X : Cx} {c : Cc} {P H P1 H1 : Hp} {env : SEnv} {σ : L2.St} {S S1 : Sto} {x y z : Ex} {pos : Pos}
/-! ### a, b = x, y -/
def setR (i : Nat) (f : Bool) (r : R) (env : SEnv) : Option SEnv := match f with
  | true => if r.fr = true then some (env.set i (.own r.d)) else none
  | false => some (env.set i (.sh r.d))
def par2 (i : Nat) (f : Bool) (j : Nat) (g : Bool) (x y : Ex) : Sx := fun env S => (x env S).bind fun a S => (y env S).bind fun b S => match setR i f a env with
  | none => .bad
  | some e1 => match setR j g b e1 with
    | none => .bad
    | some e2 => .ok (.nx e2) S
def par3 (i : Nat) (f : Bool) (j : Nat) (g : Bool) (l : Nat) (h : Bool) (x y z : Ex) : Sx := fun env S => (x env S).bind fun a S => (y env S).bind fun b S => (z env S).bind fun d S => match setR i f a env with
  | none => .bad
  | some e1 => match setR j g b e1 with
    | none => .bad
    | some e2 => match setR l h d e2 with
      | none => .bad
      | some e3 => .ok (.nx e3) S
/-- a value that was made since H, as it stands -/
def Held (c : Cc) (H P1 H1 : Hp) (r : R) (v : V) : Prop := if r.fr = true then ∃ a, v = .ref a ∧ H a = none ∧ a ∉ c.ρ ∧ P1 a = none ∧ Root c.K c.G P1 H1 r.d a else Rep c.K c.G P1 r.d v
theorem Held.of {r : R} {v : V} (n : ∀ a, H a = none → a ∉ c.ρ) (h : RepR c.K c.G H P1 H1 r v) : Held c H P1 H1 r v := by
  unfold RepR at h
  unfold Held
  split at h
  · rename_i hf
    rw [if_pos hf]
    obtain ⟨a, e, n1, n2, ro⟩ := h
    exact ⟨a, e, n1, n a n1, n2, ro⟩
  · rename_i hf
    rw [if_neg hf]; exact h
theorem Held.step {H0 P2 H2 : Hp} {r : R} {v : V} (st : Step c.ρ P1 H1 P2 H2) (h : Held c H0 P1 H1 r v) : Held c H0 P2 H2 r v := by
  unfold Held at h ⊢
  split at h
  · rename_i hf
    rw [if_pos hf]
    obtain ⟨a, e, n1, nr, n2, ro⟩ := h
    obtain ⟨u, hu, mu⟩ := ro.there
    exact ⟨a, e, n1, nr, st.new a u nr n2 hu (fun xs z => by subst z; exact mu) (ntb_mut mu), ro.mono st.pp fun w hw => st.hh a w hw nr (by rw [hu] at hw; cases hw; exact ntb_mut mu)⟩
  · rename_i hf
    rw [if_neg hf]; exact h.mono st.pp
def OwnLive (H : Hp) (σ : L2.St) (env : SEnv) : Prop := ∀ j a, (sget env j).isOwn = true → σ[j]? = some (some (.ref a)) → H a ≠ none
theorem Stt.live (s : Stt c P H env σ S) : OwnLive H σ env := fun j a ho e => by
  obtain ⟨_, _, u, hu⟩ := s.ownAt ho e
  rw [hu]; exact fun z => nomatch z
/-- .. is laid for good -/
theorem Held.frz {H0 : Hp} {r : R} {v : V} (s : Stt c P1 H1 env σ S) (h : Held c H0 P1 H1 r v) (hb : ∀ a, H0 a = none → c.H0 a = none) (hn : OwnLive H0 σ env) : ∃ P2, Stt c P2 H1 env σ S ∧ Same P1 P2 ∧ Rep c.K c.G P2 r.d v ∧ ∀ b, P1 b = none → (r.fr = true → v ≠ .ref b) → P2 b = none := by
  unfold Held at h
  split at h
  · rename_i hfr
    obtain ⟨a, rfl, n1, nr, n2, ro⟩ := h
    obtain ⟨u, hu, mu, rp⟩ := ro.rep n2
    have sm : Same P1 (upd P1 a u) := fun b o e => by rw [upd_ne (ne_of_none e n2)]; exact e
    refine ⟨upd P1 a u, ⟨⟨fun b w e => ?_, s.st.pp.trans sm, s.st.hh, s.st.dom, fun b w m q e t x => ?_, fun b m q => ?_, fun b q e => s.st.mrk b q (mk_upd (ntb_mut mu) b q e)⟩, s.r0, s.so.freeze nr n2, s.ln, fun i => ?_, s.dj⟩, sm, rp, fun b e ne => by rw [upd_ne (fun z => ne hfr (by rw [z]))]; exact e⟩
    · by_cases z : b = a
      · subst z; rw [upd_same] at e; cases e; exact .inl ⟨hu, ntb_mut mu⟩
      · rw [upd_ne z] at e; exact s.le b w e
    · have ne : b ≠ a := fun z => by
        subst z
        have := hb b n1
        rw [this] at e; cases e
      rw [upd_ne ne]; exact s.st.new b w m q e t x
    · rw [upd_ne (show b ≠ a from fun z => nr (by rw [← z]; exact m))]; exact s.st.cel b m q
    · have sl := s.sl i
      have hni := hn i
      cases q : sget env i with
      | un => trivial
      | sh d => rw [q] at sl; obtain ⟨v, e, r⟩ := sl; exact ⟨v, e, r.mono sm⟩
      | ref n => rw [q] at sl; exact sl
      | own d =>
        rw [q] at sl hni
        obtain ⟨b, e, hp, h0, r⟩ := sl
        exact ⟨b, e, by rw [upd_ne (fun z => hni b rfl e (by rw [z]; exact n1))]; exact hp, h0, r.mono sm fun _ e => e⟩
      | lk d =>
        rw [q] at sl hni
        obtain ⟨b, od, w, e, hp, h0, hf, r⟩ := sl
        exact ⟨b, od, w, e, by rw [upd_ne (fun z => hni b rfl e (by rw [z]; exact n1))]; exact hp, h0, hf, r.mono sm fun _ e => e⟩
  · exact ⟨P1, s, Same.refl _, h, fun b e _ => e⟩
theorem setR_ok {H0 : Hp} {i : Nat} {f : Bool} {r : R} {v : V} {e1 : SEnv} (s : Stt c P1 H1 env σ S) (h : Held c H0 P1 H1 r v) (hb : ∀ a, H0 a = none → c.H0 a = none) (hn : OwnLive H0 σ env) (e : setR i f r env = some e1) :
    ∃ P2, Stt c P2 H1 e1 (σ.set i (some v)) S ∧ Same P1 P2 ∧ ∀ b, P1 b = none → (r.fr = true → v ≠ .ref b) → P2 b = none := by
  cases f with
  | false =>
    cases e
    obtain ⟨P2, s2, sm, rp, k⟩ := h.frz s hb hn
    exact ⟨P2, s2.set rp, sm, k⟩
  | true =>
    unfold setR at e
    dsimp only at e
    by_cases hf : r.fr = true
    · rw [if_pos hf] at e
      cases e
      unfold Held at h
      rw [if_pos hf] at h
      obtain ⟨a, rfl, n1, nr, n2, ro⟩ := h
      exact ⟨P1, s.setOwn (hb a n1) n2 ro fun j _ ho q => hn j a ho q n1, Same.refl _, fun b e _ => e⟩
    · rw [if_neg hf] at e; cases e
theorem Held.up {H0 P2 : Hp} {r r0 : R} {v v0 : V} (sm : Same P1 P2) (h : Held c H0 P1 H1 r v) (k : ∀ b, P1 b = none → (r0.fr = true → v0 ≠ .ref b) → P2 b = none) (ne : r0.fr = true → ∀ b, v0 = .ref b → H0 b ≠ none) : Held c H0 P2 H1 r v := by
  unfold Held at h ⊢
  split at h
  · rename_i hf
    rw [if_pos hf]
    obtain ⟨a, e, n1, nr, n2, ro⟩ := h
    exact ⟨a, e, n1, nr, k a n2 (fun h0 z => ne h0 a z n1), ro.mono sm fun _ e => e⟩
  · rename_i hf
    rw [if_neg hf]; exact h.mono sm
theorem Held.here {H0 : Hp} {r : R} {v : V} (h : Held c H0 P1 H1 r v) : r.fr = true → ∀ b, v = .ref b → H1 b ≠ none := fun hf b e => by
  unfold Held at h
  rw [if_pos hf] at h
  obtain ⟨a, rfl, n1, nr, n2, ro⟩ := h
  cases e
  obtain ⟨u, hu, _⟩ := ro.there
  rw [hu]; exact fun z => nomatch z
theorem OwnLive.set {i : Nat} {f : Bool} {r : R} {v : V} {e1 : SEnv} (ln : env.length = σ.length) (h : OwnLive H1 σ env) (e : setR i f r env = some e1) (hv : r.fr = true → ∀ b, v = .ref b → H1 b ≠ none) : OwnLive H1 (σ.set i (some v)) e1 := fun j a ho q => by
  by_cases hi : i < env.length
  · by_cases hj : i = j
    · subst hj
      rw [List.getElem?_set_self (by omega)] at q
      have q' : v = .ref a := Option.some.inj (Option.some.inj q)
      cases f with
      | false => cases e; rw [sget_set_self hi] at ho; cases ho
      | true =>
        unfold setR at e
        dsimp only at e
        by_cases hf : r.fr = true
        · exact hv hf a q'
        · rw [if_neg hf] at e; cases e
    · rw [List.getElem?_set_ne hj] at q
      refine h j a ?_ q
      cases f with
      | false => cases e; rw [sget_set_ne hj] at ho; exact ho
      | true =>
        unfold setR at e
        dsimp only at e
        by_cases hf : r.fr = true
        · rw [if_pos hf] at e; cases e; rw [sget_set_ne hj] at ho; exact ho
        · rw [if_neg hf] at e; cases e
  · rw [List.set_eq_of_length_le (by omega)] at q
    refine h j a ?_ q
    cases f with
    | false => cases e; rw [List.set_eq_of_length_le (by omega)] at ho; exact ho
    | true =>
      unfold setR at e
      dsimp only at e
      by_cases hf : r.fr = true
      · rw [if_pos hf] at e; cases e; rw [List.set_eq_of_length_le (by omega)] at ho; exact ho
      · rw [if_neg hf] at e; cases e
/-- an expression within a statement, its value as it stands -/
theorem te_raw {α : Type} {f : R → Sto → Out α} {QQ : α → Sto → Prop} {Q' : VK} (s : Stt c P H env σ S) (h : ((x env S).bind f).post QQ (XP c c.P0 c.H0))
    (k : ∀ r S1 v P1 H1, Step c.ρ P H P1 H1 → Stt c P1 H1 env σ S1 → Held c H P1 H1 r v → (f r S1).post QQ (XP c c.P0 c.H0) → Q' v H1) : TEx c x σ H Q' :=
  ⟨P, env, S, s, post_mono (post_bind.mp h) (fun r S1 q v P1 H1 st so rr => k r S1 v P1 H1 st (s.step st so) (Held.of s.new0 rr) q) fun _ _ _ q => q.step s.st⟩
theorem par2_top {i j : Nat} {f g : Bool} : ∀ D σ H, TSx c (par2 i f j g x y) D σ H → tPar i j (tCons (TEx c x) (tCons (TEx c y) tNil)) D σ H := fun D σ H ⟨P, env, S, s, h⟩ =>
  te_raw s h fun r1 S1 v1 P1 H1 st1 s1 h1 q1 => te_raw s1 q1 fun r2 S2 v2 P2 H2 st2 s2 h2 q2 => by
    refine ⟨v1, v2, rfl, ?_⟩
    cases e1 : setR i f r1 env with
    | none => rw [e1] at q2; exact q2.elim
    | some en1 =>
      rw [e1] at q2
      dsimp only at q2
      cases e2 : setR j g r2 en1 with
      | none => rw [e2] at q2; exact q2.elim
      | some en2 =>
        rw [e2] at q2
        obtain ⟨P3, s3, sm3, k3⟩ := setR_ok s2 (h1.step st2) s.st.dom s.live e1
        obtain ⟨P4, s4, sm4, k4⟩ := setR_ok s3 (h2.up sm3 k3 h1.here) s1.st.dom (s1.live.set s1.ln e1 h1.here) e2
        exact q2 P4 H2 _ (st1.pp.trans (st2.pp.trans (sm3.trans sm4))) s4
theorem par3_top {i j l : Nat} {f g h : Bool} : ∀ D σ H, TSx c (par3 i f j g l h x y z) D σ H → tPar3 i j l (tCons (TEx c x) (tCons (TEx c y) (tCons (TEx c z) tNil))) D σ H := fun D σ H ⟨P, env, S, s, w⟩ =>
  te_raw s w fun r1 S1 v1 P1 H1 st1 s1 h1 q1 => te_raw s1 q1 fun r2 S2 v2 P2 H2 st2 s2 h2 q2 => te_raw s2 q2 fun r3 S3 v3 P3 H3 st3 s3 h3 q3 => by
    refine ⟨v1, v2, v3, rfl, ?_⟩
    cases e1 : setR i f r1 env with
    | none => rw [e1] at q3; exact q3.elim
    | some en1 =>
      rw [e1] at q3
      dsimp only at q3
      cases e2 : setR j g r2 en1 with
      | none => rw [e2] at q3; exact q3.elim
      | some en2 =>
        rw [e2] at q3
        dsimp only at q3
        cases e3 : setR l h r3 en2 with
        | none => rw [e3] at q3; exact q3.elim
        | some en3 =>
          rw [e3] at q3
          have h1' := h1.step st2
          obtain ⟨P4, s4, sm4, k4⟩ := setR_ok s3 (h1'.step st3) s.st.dom s.live e1
          obtain ⟨P5, s5, sm5, k5⟩ := setR_ok s4 ((h2.step st3).up sm4 k4 h1.here) s1.st.dom (s1.live.set s1.ln e1 h1.here) e2
          obtain ⟨P6, s6, sm6, k6⟩ := setR_ok s5 ((h3.up sm4 k4 h1'.here).up sm5 k5 h2.here) s2.st.dom ((s2.live.set s2.ln e1 h1'.here).set (by rw [List.length_set, ← setR_len e1]; exact s2.ln) e2 h2.here) e3
          exact q3 P6 H3 _ (st1.pp.trans (st2.pp.trans (st3.pp.trans (sm4.trans (sm5.trans sm6))))) s6
where
  setR_len {i : Nat} {f : Bool} {r : R} {env e1 : SEnv} (e : setR i f r env = some e1) : env.length = e1.length := by
    cases f with
    | false => cases e; rw [List.length_set]
    | true =>
      unfold setR at e
      dsimp only at e
      by_cases hf : r.fr = true
      · rw [if_pos hf] at e; cases e; rw [List.length_set]
      · rw [if_neg hf] at e; cases e
/-- .. with the tuple made and taken apart -/
theorem par2T_top {i j : Nat} {f g : Bool} {pp : Hp → V → Prop} : ∀ D σ H, TSx c (par2 i f j g x y) D σ H → tCons (TEx c x) (tCons (TEx c y) tNil) σ H fun vs H1 => vs.length = 2 ∧ ∀ p, H1 p = none → gNames [i, j] vs σ (upd H1 p (.tup vs)) D.nx := fun D σ H ⟨P, env, S, s, h⟩ =>
  te_raw s h fun r1 S1 v1 P1 H1 st1 s1 h1 q1 => te_raw s1 q1 fun r2 S2 v2 P2 H2 st2 s2 h2 q2 => by
    refine ⟨rfl, fun p np => ?_⟩
    cases e1 : setR i f r1 env with
    | none => rw [e1] at q2; exact q2.elim
    | some en1 =>
      rw [e1] at q2
      dsimp only at q2
      cases e2 : setR j g r2 en1 with
      | none => rw [e2] at q2; exact q2.elim
      | some en2 =>
        rw [e2] at q2
        have stA : Step c.ρ P2 H2 P2 (upd H2 p (.tup [v1, v2])) := Step.alloc s2.le np
        have sA := s2.step stA (s2.so.alloc s2.le np)
        obtain ⟨P3, s3, sm3, k3⟩ := setR_ok sA ((h1.step st2).step stA) s.st.dom s.live e1
        obtain ⟨P4, s4, sm4, k4⟩ := setR_ok s3 ((h2.step stA).up sm3 k3 h1.here) s1.st.dom (s1.live.set s1.ln e1 h1.here) e2
        exact ⟨v1, [v2], rfl, v2, [], rfl, rfl, q2 P4 _ _ (st1.pp.trans (st2.pp.trans (sm3.trans sm4))) s4⟩
theorem par3T_top {i j l : Nat} {f g h : Bool} : ∀ D σ H, TSx c (par3 i f j g l h x y z) D σ H → tCons (TEx c x) (tCons (TEx c y) (tCons (TEx c z) tNil)) σ H fun vs H1 => vs.length = 3 ∧ ∀ p, H1 p = none → gNames [i, j, l] vs σ (upd H1 p (.tup vs)) D.nx := fun D σ H ⟨P, env, S, s, w⟩ =>
  te_raw s w fun r1 S1 v1 P1 H1 st1 s1 h1 q1 => te_raw s1 q1 fun r2 S2 v2 P2 H2 st2 s2 h2 q2 => te_raw s2 q2 fun r3 S3 v3 P3 H3 st3 s3 h3 q3 => by
    refine ⟨rfl, fun p np => ?_⟩
    cases e1 : setR i f r1 env with
    | none => rw [e1] at q3; exact q3.elim
    | some en1 =>
      rw [e1] at q3
      dsimp only at q3
      cases e2 : setR j g r2 en1 with
      | none => rw [e2] at q3; exact q3.elim
      | some en2 =>
        rw [e2] at q3
        dsimp only at q3
        cases e3 : setR l h r3 en2 with
        | none => rw [e3] at q3; exact q3.elim
        | some en3 =>
          rw [e3] at q3
          have stA : Step c.ρ P3 H3 P3 (upd H3 p (.tup [v1, v2, v3])) := Step.alloc s3.le np
          have sA := s3.step stA (s3.so.alloc s3.le np)
          have h1' := h1.step st2
          obtain ⟨P4, s4, sm4, k4⟩ := setR_ok sA ((h1'.step st3).step stA) s.st.dom s.live e1
          obtain ⟨P5, s5, sm5, k5⟩ := setR_ok s4 (((h2.step st3).step stA).up sm4 k4 h1.here) s1.st.dom (s1.live.set s1.ln e1 h1.here) e2
          obtain ⟨P6, s6, sm6, k6⟩ := setR_ok s5 (((h3.step stA).up sm4 k4 h1'.here).up sm5 k5 h2.here) s2.st.dom ((s2.live.set s2.ln e1 h1'.here).set (by rw [List.length_set, ← par3_top.setR_len e1]; exact s2.ln) e2 h2.here) e3
          exact ⟨v1, [v2, v3], rfl, v2, [v3], rfl, v3, [], rfl, rfl, q3 P6 _ _ (st1.pp.trans (st2.pp.trans (st3.pp.trans (sm4.trans (sm5.trans sm6))))) s6⟩
end
end Pv

set_option Elab.async false
set_option linter.all false
set_option maxRecDepth 100000
namespace Pv
open PySem PySem.Spec PyProof.Rows L2

section
variable {X : Cx} {c : Cc} {P H P1 H1 : Hp} {env : SEnv} {σ : L2.St} {S S1 : Sto} {x y z : Ex} {pos : Pos} {e tgt : Expr}
/-! ### a dict or list of one's own, locked while it is walked -/
def lockX (i : Nat) (x : Ex) : Ex := fun env S => match sget env i with
  | .own d => nox (x (env.set i (.lk d)) S)
  | _ => .bad
theorem isOwn_lk {i j : Nat} {d : D} (h : (sget (env.set i (.lk d)) j).isOwn = true) (hi : (sget env i).isOwn = true) : (sget env j).isOwn = true := by
  by_cases hj : i = j
  · subst hj; exact hi
  · rw [sget_set_ne hj] at h; exact h
theorem Stt.lock {i : Nat} {d : D} {a : Addr} {u od} (s : Stt c P H env σ S) (q : sget env i = .own d) (e : σ[i]? = some (some (.ref a))) (hu : H a = some u) (hp : P a = none) (h0 : c.H0 a = none) (r : Root c.K c.G P H d a) : Stt c P (upd H a (.frz od u)) (env.set i (.lk d)) σ S := by
  have hi : i < env.length := by
    rcases Nat.lt_or_ge i env.length with h | h
    · exact h
    · unfold sget at q; rw [List.getD_eq_getElem?_getD, List.getElem?_eq_none h] at q; cases q
  have ho : (sget env i).isOwn = true := by rw [q]; rfl
  refine ⟨s.st.wr h0 hp r.plain, s.r0, s.so.wr (s.r0 a h0), by rw [List.length_set]; exact s.ln, fun j => ?_, fun j k b e1 e2 e3 e4 => s.dj j k b (isOwn_lk e1 ho) (isOwn_lk e2 ho) e3 e4⟩
  by_cases hj : i = j
  · subst hj
    rw [sget_set_self hi]
    exact ⟨a, od, u, e, hp, h0, upd_same, r.mono (Same.refl P) fun w hw => by rw [hu] at hw; cases hw; exact upd_same⟩
  · rw [sget_set_ne hj]
    have sl := s.sl j
    have ne : ∀ b, (sget env j).isOwn = true → σ[j]? = some (some (.ref b)) → b ≠ a := fun b ob eb z => hj (s.dj i j a ho ob e (by rw [← z]; exact eb))
    cases qj : sget env j with
    | un => trivial
    | sh d => rw [qj] at sl; exact sl
    | ref m => rw [qj] at sl; exact sl
    | own d2 =>
      rw [qj] at sl ne
      obtain ⟨b, eb, hpb, h0b, rb⟩ := sl
      have nb := ne b rfl eb
      exact ⟨b, eb, hpb, h0b, rb.mono (Same.refl P) fun w hw => by rw [upd_ne nb]; exact hw⟩
    | lk d2 =>
      rw [qj] at sl ne
      obtain ⟨b, od2, w, eb, hpb, h0b, hf, rb⟩ := sl
      have nb := ne b rfl eb
      exact ⟨b, od2, w, eb, hpb, h0b, by rw [upd_ne nb]; exact hf, rb.mono (Same.refl P) fun w' hw => by rw [upd_same] at hw ⊢; exact hw⟩
theorem lock_top {i : Nat} : ∀ σ H Q, TEx c (lockX i x) σ H Q → tLockE (TEx c x) σ H Q := fun σ H Q ⟨P, env, S, s, h⟩ => by
  unfold lockX at h
  cases q : sget env i with
  | own d =>
    rw [q] at h
    have sl := s.sl i
    rw [q] at sl
    obtain ⟨a, e, hp, h0, r⟩ := sl
    obtain ⟨u, hu, mu⟩ := r.there
    have na : a ∉ c.ρ := s.r0 a h0
    refine ⟨a, u, hu, mu, fun od => ⟨P, env.set i (.lk d), S, s.lock q e hu hp h0 r, post_mono (nox_post (E' := EF) h) (fun r1 S1 q1 v P1 H1 st so rr => ?_) fun _ _ _ q => q.elim⟩⟩
    obtain ⟨k1, k2⟩ := own_kept s.r0 st h0 hp upd_same (fun xs z => nomatch z) rfl
    refine ⟨k2, q1 v P1 (upd H1 a u) ⟨st.le.wr k1 (by rw [k2]; trivial), st.pp, fun b w eb nb xb => ?_, fun b eb => ?_, fun b w nb pb eb tb xb => ?_, st.cel, st.mrk⟩ (so.wr na) ?_⟩
    · by_cases z : b = a
      · subst z; rw [hu] at eb; cases eb; exact upd_same
      · rw [upd_ne z]; exact st.hh b w (by rw [upd_ne z]; exact eb) nb xb
    · have ne : b ≠ a := fun z => by subst z; rw [upd_same] at eb; cases eb
      rw [upd_ne ne] at eb
      have := st.dom b eb
      rw [upd_ne ne] at this; exact this
    · by_cases z : b = a
      · subst z; exact k1
      · exact st.new b w nb pb (by rw [upd_ne z]; exact eb) tb xb
    · unfold RepR at rr ⊢
      split at rr
      · rename_i hf
        rw [if_pos hf]
        obtain ⟨b, eb, n1, n2, ro⟩ := rr
        have ne : b ≠ a := fun z => by subst z; rw [upd_same] at n1; cases n1
        rw [upd_ne ne] at n1
        exact ⟨b, eb, n1, n2, ro.mono (Same.refl _) fun w hw => by rw [upd_ne ne]; exact hw⟩
      · rename_i hf
        rw [if_neg hf]; exact rr
  | _ => rw [q] at h; exact h.elim
theorem pd_lock (i : Nat) (h : PE X e (TEx c x)) : PE X e (TEx c (lockX i x)) := pe_imp (pe_lock h) lock_top
/-! ### .. its keys -/
def keyD : Key → D
  | .inl i => .int i
  | .inr s => .str s
def keysD : D → Option (List D)
  | .dK l => some (l.map fun p => keyD p.1)
  | .dT l => some (l.map fun p => .tup (p.1.map keyD))
  | _ => none
def iKey (i : Nat) : Ix := fun env S => match sget env i with
  | .lk d => (match keysD d with
    | some l => .ok l S
    | none => .bad)
  | _ => .bad
theorem key_rep (k : Key) : Rep c.K c.G P (keyD k) (kV k) := by
  cases k with
  | inl i => exact .int i
  | inr s => exact .str s
theorem keys_rep : ∀ l : List Key, Reps c.K c.G P (l.map keyD) (l.map kV)
  | [] => .nil
  | k :: l => .cons (key_rep k) (keys_rep l)
theorem RepK.getk {K : PySem.W.Frag} {G : Nat → Option (Addr × List Str)} : ∀ {l : List (Key × D)} {kvs : List (Key × V)} {i : Nat} {k : Key} {v : V}, RepK K G P l kvs → kvs[i]? = some (k, v) → ∃ d, l[i]? = some (k, d) ∧ Rep K G P d v
  | _, _, _, _, _, .nil, e => by simp at e
  | _, _, 0, _, _, .cons h r, e => by simp at e; obtain ⟨rfl, rfl⟩ := e; exact ⟨_, rfl, h⟩
  | _, _, i + 1, _, _, .cons h r, e => by
    obtain ⟨d, h1, h2⟩ := RepK.getk (i := i) r (by simpa using e)
    exact ⟨d, by simpa using h1, h2⟩
theorem RepT.getk {K : PySem.W.Frag} {G : Nat → Option (Addr × List Str)} : ∀ {l : List (List Key × D)} {kvs : List (List Key × V)} {i : Nat} {k : List Key} {v : V}, RepT K G P l kvs → kvs[i]? = some (k, v) → ∃ d, l[i]? = some (k, d) ∧ Rep K G P d v
  | _, _, _, _, _, .nil, e => by simp at e
  | _, _, 0, _, _, .cons h r, e => by simp at e; obtain ⟨rfl, rfl⟩ := e; exact ⟨_, rfl, h⟩
  | _, _, i + 1, _, _, .cons h r, e => by
    obtain ⟨d, h1, h2⟩ := RepT.getk (i := i) r (by simpa using e)
    exact ⟨d, by simpa using h1, h2⟩
/-- the key's own tuple is laid for good -/
theorem tup_here {q : Addr} {k : List Key} (le : Le P H) (so : StoOk c.K c.G c.ρ P H S) (e : H q = some (.tup (k.map kV))) : ∃ P', Step c.ρ P H P' H ∧ StoOk c.K c.G c.ρ P' H S ∧ Rep c.K c.G P' (.tup (k.map keyD)) (.ref q) := by
  have nq : q ∉ c.ρ := fun m => by
    obtain ⟨_, u, hu, mu⟩ := so.mem m
    rw [e] at hu; cases hu; exact mu
  have st := Step.tup (ρ := c.ρ) le nq e
  exact ⟨upd P q (.tup (k.map kV)), st, so.step st fun a m u h => h, .tup upd_same (keys_rep k)⟩
theorem ti_key (i : Nat) {nm : Str} {p : Pos} (hN : X.N[i]? = some nm) (hv : Vis X.env.scope nm) (hd : (nm == ("__debug__" : Str)) = false) (hcd : (nm == ("__classdict__" : Str)) = false) : PI X tgt (.Name nm p) (TIe c (iKey i)) :=
  pi_imp (pi_keys (pe_var hN hv hd hcd)) fun σ H R ⟨P, env, S, s, h⟩ => by
    unfold iKey at h
    have sl := s.sl i
    cases q : sget env i with
    | lk d =>
      rw [q] at h sl
      obtain ⟨a, od, u, e, hp, h0, hf, r⟩ := sl
      refine ⟨.ref a, e, a, od, rfl, ?_⟩
      cases r with
      | obj _ _ _ _ => exact h.elim
      | lst _ _ => exact h.elim
      | @dK _ kvs l hk rk =>
        rw [upd_same] at hk
        cases hk
        refine .inl ⟨_, hf, h _ P H (Step.refl s.le) s.so ⟨?_⟩⟩
        have w0 := walk_keys (d := a) (o := od) (kvs := kvs)
        rw [show kvs.length = (l.map fun p => keyD p.1).length by rw [List.length_map, rk.length]] at w0
        refine w0.mono (fun H' ⟨P', st⟩ => (own_kept s.r0 st h0 hp hf (fun xs z => nomatch z) rfl).2) fun n H' x H2 hn _ ⟨eH, k, v, ek, ex⟩ => ?_
        subst eH ex
        obtain ⟨d, e1, _⟩ := rk.getk ek
        exact ⟨keyD k, by rw [List.getElem?_map, e1]; rfl, fun P2 S2 sm le so => ⟨P2, Step.refl le, so, key_rep k⟩⟩
      | @dT _ kvs l hk rk =>
        rw [upd_same] at hk
        cases hk
        refine .inr ⟨_, hf, h _ P H (Step.refl s.le) s.so ⟨?_⟩⟩
        have w0 := walk_keysT (d := a) (o := od) (kvs := kvs)
        rw [show kvs.length = (l.map fun p => D.tup (p.1.map keyD)).length by rw [List.length_map, rk.length]] at w0
        refine w0.mono (fun H' ⟨P', st⟩ => (own_kept s.r0 st h0 hp hf (fun xs z => nomatch z) rfl).2) fun n H' x H2 hn _ ⟨eH, k, v, qa, ek, ex, et⟩ => ?_
        subst eH ex
        obtain ⟨d, e1, _⟩ := rk.getk ek
        exact ⟨.tup (k.map keyD), by rw [List.getElem?_map, e1]; rfl, fun P2 S2 sm le so => tup_here le so et⟩
    | _ => rw [q] at h; exact h.elim
end
end Pv

set_option Elab.async false
set_option linter.all false
set_option maxRecDepth 100000
namespace Pv
open PySem PySem.Spec PyProof.Rows L2

/-! ### name[k] = e -/
def putX (d k v : D) : Option D := match d with
  | .lst l => (match k with
    | .int j => (ixN l.length j).map fun m => .lst (l.set m v)
    | _ => none)
  | .dK l => if l.length < line then (keyOf k).map fun kk => .dK (putD l kk v) else none
  | .dT l => if l.length < line then (tkey k).map fun kk => .dT (putD l kk v) else none
  | _ => none
def putSlot (i : Nat) (k v : D) (env : SEnv) (S : Sto) : Out Fl := match sget env i with
  | .own d => (match putX d k v with
    | some d' => .ok (.nx (env.set i (.own d'))) S
    | none => .bad)
  | .ref n => (match S[n]? with
    | some d => (match putX d k v with
      | some d' => .ok (.nx env) (S.set n d')
      | none => .bad)
    | none => .bad)
  | _ => .bad
def storeS (i : Nat) (k e : Ex) : Sx := fun env S => (e env S).bind fun v S => match peek env S i with
  | none => .bad
  | some _ => (k env S).bind fun b S => putSlot i b.d v.d env S
def rSt : V → V → V → Hp → (Hp → Prop) → Prop := fun o i v H Q => rSetL o i v H Q ∨ ∃ a H', o = .ref a ∧ DPut H a i v H' ∧ Q H'
section
variable {X : Cx} {c : Cc} {P H P1 H1 : Hp} {env : SEnv} {σ : L2.St} {S S1 : Sto} {x y z : Ex} {pos : Pos} {e : Expr}
theorem set_any (hu : X.A.units + 65 < cLine) : PSet X rSt := by
  intro pins s σ H o i v ov iv u Q I ro ri rv h
  rcases h with h | ⟨a, H', eo, g, q⟩
  · exact set_list pins s σ H o i v ov iv u Q I ro ri rv h
  · subst eo
    cases (show ov = Value.ref a from ro)
    exact d_setItem (by omega) I g ri rv fun s' I' => ⟨H', I', q⟩
theorem rep_putK {k : Key} {d : D} {v : V} (rd : Rep c.K c.G P d v) : ∀ {l : List (Key × D)} {kvs : List (Key × V)}, RepK c.K c.G P l kvs → RepK c.K c.G P (putD l k d) (putK kvs k v) := by
  have any : ∀ {l : List (Key × D)} {kvs : List (Key × V)}, RepK c.K c.G P l kvs → (l.any fun p => decide (p.1 = k)) = (kvs.any fun p => decide (p.1 = k)) := fun {l} => by
    induction l with
    | nil => intro kvs r; cases r; rfl
    | cons p l ih =>
      intro kvs r
      cases r with
      | cons r1 r2 => rw [List.any_cons, List.any_cons, ih r2]
  have rpl : ∀ {l : List (Key × D)} {kvs : List (Key × V)}, RepK c.K c.G P l kvs → RepK c.K c.G P (l.map fun p => if p.1 = k then (p.1, d) else p) (kvs.map fun p => if p.1 = k then (p.1, v) else p) := fun {l} => by
    induction l with
    | nil => intro kvs r; cases r; exact .nil
    | cons p l ih =>
      intro kvs r
      cases r with
      | @cons k1 d1 v1 _ _ r1 r2 =>
        rw [List.map_cons, List.map_cons]
        by_cases e : k1 = k
        · rw [if_pos e, if_pos e]; exact .cons rd (ih r2)
        · rw [if_neg e, if_neg e]; exact .cons r1 (ih r2)
  have snoc : ∀ {l : List (Key × D)} {kvs : List (Key × V)}, RepK c.K c.G P l kvs → RepK c.K c.G P (l ++ [(k, d)]) (kvs ++ [(k, v)]) := fun {l} => by
    induction l with
    | nil => intro kvs r; cases r; exact .cons rd .nil
    | cons p l ih =>
      intro kvs r
      cases r with
      | cons r1 r2 => exact .cons r1 (ih r2)
  intro l kvs r
  unfold putD putK
  rw [any r]
  by_cases e : (kvs.any fun p => decide (p.1 = k)) = true
  · rw [if_pos e, if_pos e]; exact rpl r
  · rw [if_neg e, if_neg e]; exact snoc r
theorem root_put {d k v d' : D} {a : Addr} {kv vv : V} (le : Le P H) (r : Root c.K c.G P H d a) (rk : Rep c.K c.G P k kv) (rv : Rep c.K c.G P v vv) (e : putX d k v = some d') : ∃ u, Root c.K c.G P (upd H a u) d' a ∧ ∀ Q : Hp → Prop, Q (upd H a u) → rSt (.ref a) kv vv H Q := by
  cases r with
  | obj _ _ _ _ => cases e
  | @lst _ xs l h rl =>
    cases rk with
    | int j =>
      obtain ⟨m, e1, e2⟩ := Option.map_eq_some_iff.mp (show (ixN l.length j).map _ = some d' from e)
      subst e2
      exact ⟨.lst (xs.set m vv), .lst upd_same (rl.set rv m), fun Q q => .inl ⟨a, xs, j, m, rfl, rfl, h, by rw [← rl.length]; exact e1, q⟩⟩
    | _ => cases e
  | @dK _ kvs l h rl =>
    simp only [putX] at e
    split at e
    · rename_i hl
      obtain ⟨kk, e1, e2⟩ := Option.map_eq_some_iff.mp e
      subst e2
      rw [keyOf_rep e1 rk]
      exact ⟨.dK (putK kvs kk vv), .dK upd_same (rep_putK rv rl), fun Q q => .inr ⟨a, _, rfl, DPut.k h (by rw [← rl.length, ← line_eq]; exact hl), q⟩⟩
    · cases e
  | @dT _ kvs l h rl =>
    simp only [putX] at e
    split at e
    · rename_i hl
      obtain ⟨kk, e1, e2⟩ := Option.map_eq_some_iff.mp e
      subst e2
      obtain ⟨b, rfl, hb⟩ := tkey_rep e1 rk le
      exact ⟨.dT (putK kvs kk vv), .dT upd_same (rep_putT rv rl), fun Q q => .inr ⟨a, _, rfl, DPut.t h (le.tup hb) (by rw [← rl.length, ← line_eq]; exact hl), q⟩⟩
    · cases e
theorem Stt.wrOwn {i : Nat} {d d' : D} {a : Addr} {u : HO} (s : Stt c P H env σ S) (q : sget env i = .own d) (e : σ[i]? = some (some (.ref a))) (hu : Plain (H a)) (hp : P a = none) (h0 : c.H0 a = none) (r : Root c.K c.G P (upd H a u) d' a) : Stt c P (upd H a u) (env.set i (.own d')) σ S := by
  have hi : i < env.length := by
    rcases Nat.lt_or_ge i env.length with h | h
    · exact h
    · unfold sget at q; rw [List.getD_eq_getElem?_getD, List.getElem?_eq_none h] at q; cases q
  have ho : (sget env i).isOwn = true := by rw [q]; rfl
  have io : ∀ {j : Nat}, (sget (env.set i (.own d')) j).isOwn = true → (sget env j).isOwn = true := fun {j} h => by
    by_cases hj : i = j
    · subst hj; exact ho
    · rw [sget_set_ne hj] at h; exact h
  refine ⟨s.st.wr h0 hp hu, s.r0, s.so.wr (s.r0 a h0), by rw [List.length_set]; exact s.ln, fun j => ?_, fun j k b e1 e2 e3 e4 => s.dj j k b (io e1) (io e2) e3 e4⟩
  by_cases hj : i = j
  · subst hj
    rw [sget_set_self hi]
    exact ⟨a, e, hp, h0, r⟩
  · rw [sget_set_ne hj]
    have sl := s.sl j
    have ne : ∀ b, (sget env j).isOwn = true → σ[j]? = some (some (.ref b)) → b ≠ a := fun b ob eb z => hj (s.dj i j a ho ob e (by rw [← z]; exact eb))
    cases qj : sget env j with
    | un => trivial
    | sh d => rw [qj] at sl; exact sl
    | ref m => rw [qj] at sl; exact sl
    | own d2 =>
      rw [qj] at sl ne
      obtain ⟨b, eb, hpb, h0b, rb⟩ := sl
      have nb := ne b rfl eb
      exact ⟨b, eb, hpb, h0b, rb.mono (Same.refl P) fun w hw => by rw [upd_ne nb]; exact hw⟩
    | lk d2 =>
      rw [qj] at sl ne
      obtain ⟨b, od2, w, eb, hpb, h0b, hf, rb⟩ := sl
      have nb := ne b rfl eb
      exact ⟨b, od2, w, eb, hpb, h0b, by rw [upd_ne nb]; exact hf, rb.mono (Same.refl P) fun w' hw => by rw [upd_same] at hw ⊢; exact hw⟩
theorem Stt.wrRef {n : Nat} {d' : D} {a : Addr} {u : HO} (s : Stt c P H env σ S) (hr : c.ρ[n]? = some a) (hn : n < S.length) (r : Root c.K c.G P (upd H a u) d' a) : Stt c P (upd H a u) env σ (S.set n d') := by
  have ha : a ∈ c.ρ := List.mem_of_getElem? hr
  obtain ⟨hp, u0, hu, _⟩ := s.so.mem ha
  have own : ∀ {b}, c.H0 b = none → b ≠ a := fun {b} hb z => s.r0 b hb (by rw [z]; exact ha)
  refine ⟨⟨s.le.wr hp (s.so.plain ha), s.st.pp, fun b w e nb xb => ?_, fun b e => ?_, s.st.new, s.st.cel, s.st.mrk⟩, s.r0, ⟨by rw [List.length_set]; exact s.so.len, s.so.nd, fun m d e => ?_⟩, s.ln, fun i => ?_, s.dj⟩
  · have ne : b ≠ a := fun z => nb (by rw [z]; exact ha)
    rw [upd_ne ne]; exact s.st.hh b w e nb xb
  · have ne : b ≠ a := fun z => by subst z; rw [upd_same] at e; cases e
    rw [upd_ne ne] at e; exact s.st.dom b e
  · by_cases hm : n = m
    · subst hm
      rw [List.getElem?_set_self hn] at e
      cases e
      exact ⟨a, hr, hp, r⟩
    · rw [List.getElem?_set_ne hm] at e
      obtain ⟨b, hb, pb, rb⟩ := s.so.at_ m d e
      have ne : b ≠ a := fun z => by
        subst z
        exact hm ((List.getElem?_inj (List.getElem?_eq_some_iff.mp hr).1 s.so.nd).mp (hr.trans hb.symm))
      exact ⟨b, hb, pb, rb.mono (Same.refl P) fun w hw => by rw [upd_ne ne]; exact hw⟩
  · have sl := s.sl i
    cases q : sget env i with
    | un => trivial
    | sh d => rw [q] at sl; exact sl
    | ref m => rw [q] at sl; exact sl
    | own d2 =>
      rw [q] at sl
      obtain ⟨b, eb, hpb, h0b, rb⟩ := sl
      exact ⟨b, eb, hpb, h0b, rb.mono (Same.refl P) fun w hw => by rw [upd_ne (own h0b)]; exact hw⟩
    | lk d2 =>
      rw [q] at sl
      obtain ⟨b, od2, w, eb, hpb, h0b, hf, rb⟩ := sl
      exact ⟨b, od2, w, eb, hpb, h0b, by rw [upd_ne (own h0b)]; exact hf, rb.mono (Same.refl P) fun w' hw => by rw [upd_same] at hw ⊢; exact hw⟩
/-- the slot's own list or dict takes the item -/
theorem put_ok {i : Nat} {k v : D} {kv vv o : V} {D0 : Ends} (s : Stt c P H env σ S) (eo : σ[i]? = some (some o)) (rk : Rep c.K c.G P k kv) (rv : Rep c.K c.G P v vv) (h : (putSlot i k v env S).post (QF c P D0) (XP c c.P0 c.H0)) : rSt o kv vv H fun H' => D0.nx σ H' := by
  unfold putSlot at h
  have sl := s.sl i
  cases q : sget env i with
  | own d =>
    rw [q] at h sl
    obtain ⟨a, e, hp, h0, r⟩ := sl
    rw [eo] at e; cases e
    dsimp only at h
    cases q2 : putX d k v with
    | none => rw [q2] at h; exact h.elim
    | some d' =>
      rw [q2] at h
      obtain ⟨u, r2, w⟩ := root_put s.le r rk rv q2
      obtain ⟨u0, hu0, _⟩ := r.there
      exact w _ (h P _ σ (Same.refl P) (s.wrOwn q eo r.plain hp h0 r2))
  | ref n =>
    rw [q] at h sl
    obtain ⟨a, e, hr⟩ := sl
    rw [eo] at e; cases e
    dsimp only at h
    cases q1 : S[n]? with
    | none => rw [q1] at h; exact h.elim
    | some d =>
      rw [q1] at h
      dsimp only at h
      cases q2 : putX d k v with
      | none => rw [q2] at h; exact h.elim
      | some d' =>
        rw [q2] at h
        obtain ⟨b, hb, pb, r⟩ := s.so.at_ n d q1
        rw [hr] at hb; cases hb
        obtain ⟨u, r2, w⟩ := root_put s.le r rk rv q2
        exact w _ (h P _ σ (Same.refl P) (s.wrRef hr (List.getElem?_eq_some_iff.mp q1).1 r2))
  | _ => rw [q] at h; exact h.elim
theorem store_top {i : Nat} : ∀ D σ H, TSx c (storeS i y x) D σ H → tAsg (TEx c x) (gSub (tVar i) (TEx c y) rSt) D σ H := fun D σ H ⟨P, env, S, s, h⟩ =>
  te_in s h fun r S1 v P1 H1 st1 s1 rp h1 => by
    cases q : peek env S1 i with
    | none => rw [q] at h1; exact h1.elim
    | some d0 =>
      rw [q] at h1
      obtain ⟨o, eo, _⟩ := s1.slot q
      refine ⟨o, eo, te_in s1 h1 fun r2 S2 w P2 H2 st2 s2 rp2 h2 => ?_⟩
      refine put_ok s2 eo rp2 (rp.mono st2.pp) (post_mono h2 (fun fl S3 q3 => q3.step (st1.pp.trans st2.pp)) fun _ _ _ q => q)
theorem sx_store {k : Expr} {nm : Str} {p p2 : Pos} (i : Nat) (hu : X.A.units + 65 < cLine) (hN : X.N[i]? = some nm) (hv : Vis X.env.scope nm) (hd : (nm == ("__debug__" : Str)) = false) (hcd : (nm == ("__classdict__" : Str)) = false) (hk : PE X k (TEx c y)) (he : PE X e (TEx c x))
    (hs : swapsWithSole [.Subscript (.Name nm p) k p2] e pos.line X.env = pure false) (hw : swappedStores [.Subscript (.Name nm p) k p2] e X.env = pure none)
    (ha : ∀ v, assign (.Subscript (.Name nm p) k p2) X.env v = (do
      let ov ← holding [v] (eval (.Name nm p) X.env)
      let iv ← holding [v, ov] (eval k X.env)
      standAt p2
      holding [v, ov, iv] (setItem ov iv v)
      release [v, ov, iv] [])) : PS X (.Assign [.Subscript (.Name nm p) k p2] e pos) (TSx c (storeS i y x)) :=
  ps_imp (ps_asg he (pg_sub (pe_var hN hv hd hcd) hk (set_any hu) ha) hs hw rfl) store_top
end
end Pv

set_option Elab.async false
set_option linter.all false
set_option maxRecDepth 100000
namespace Pv
open PySem PySem.Spec PyProof.Rows L2

section
variable {X : Cx} {c : Cc} {P H P1 H1 : Hp} {env : SEnv} {σ : L2.St} {S S1 : Sto} {x y z : Ex} {pos : Pos} {e1 e2 e3 : Expr} {n1 n2 n3 : Str} {p1 p2 p3 q1 q2 : Pos} {k1 k2 : Nat}
/-- a, b = x, y of plain locals -/
theorem sx_par2 {i j : Nat} {f g : Bool} (hc : X.calm = true) (hN : X.N.Nodup) (hi : X.N[i]? = some n1) (hj : X.N[j]? = some n2) (hij : i ≠ j) (hx : X.env.scope.names.lookup n1 = some .local) (hy : X.env.scope.names.lookup n2 = some .local) (ha : PE X e1 (TEx c x)) (hb : PE X e2 (TEx c y))
    (s1 : starEach [e1, e2] X.env = (false, eval e1 X.env) :: starEach [e2] X.env) (s2 : starEach [e2] X.env = (false, eval e2 X.env) :: starEach [] X.env) (hw : swappedStores [.Tuple [.Name n1 p1, .Name n2 p2] k1 q1] (.Tuple [e1, e2] k2 q2) X.env = pure (some [n1, n2]))
    (hs : swapsWithSole [.Tuple [.Name n1 p1, .Name n2 p2] k1 q1] (.Tuple [e1, e2] k2 q2) pos.line X.env = pure false) : PS X (.Assign [.Tuple [.Name n1 p1, .Name n2 p2] k1 q1] (.Tuple [e1, e2] k2 q2) pos) (TSx c (par2 i f j g x y)) :=
  ps_imp (ps_par hc hN hi hj hij hx hy (pa_cons ha (pa_cons hb pa_nil s2) s1) hw hs) par2_top
theorem sx_par3 {i j l : Nat} {f g h : Bool} (hc : X.calm = true) (hN : X.N.Nodup) (hi : X.N[i]? = some n1) (hj : X.N[j]? = some n2) (hl : X.N[l]? = some n3) (hij : i ≠ j) (hil : i ≠ l) (hjl : j ≠ l) (hx : X.env.scope.names.lookup n1 = some .local) (hy : X.env.scope.names.lookup n2 = some .local) (hz : X.env.scope.names.lookup n3 = some .local)
    (ha : PE X e1 (TEx c x)) (hb : PE X e2 (TEx c y)) (hd : PE X e3 (TEx c z)) (s1 : starEach [e1, e2, e3] X.env = (false, eval e1 X.env) :: starEach [e2, e3] X.env) (s2 : starEach [e2, e3] X.env = (false, eval e2 X.env) :: starEach [e3] X.env) (s3 : starEach [e3] X.env = (false, eval e3 X.env) :: starEach [] X.env)
    (hw : swappedStores [.Tuple [.Name n1 p1, .Name n2 p2, .Name n3 p3] k1 q1] (.Tuple [e1, e2, e3] k2 q2) X.env = pure (some [n1, n2, n3])) (hs : swapsWithSole [.Tuple [.Name n1 p1, .Name n2 p2, .Name n3 p3] k1 q1] (.Tuple [e1, e2, e3] k2 q2) pos.line X.env = pure false) :
    PS X (.Assign [.Tuple [.Name n1 p1, .Name n2 p2, .Name n3 p3] k1 q1] (.Tuple [e1, e2, e3] k2 q2) pos) (TSx c (par3 i f j g l h x y z)) :=
  ps_imp (ps_par3 hc hN hi hj hl hij hil hjl hx hy hz (pa_cons ha (pa_cons hb (pa_cons hd pa_nil s3) s2) s1) hw hs) par3_top
theorem len2 {vs : List V} (h : vs.length = 2) : vs.length ≤ sizeLine := by rw [h]; decide
theorem len3 {vs : List V} (h : vs.length = 3) : vs.length ≤ sizeLine := by rw [h]; decide
/-- .. with the tuple made -/
theorem sx_par2T {i j : Nat} {f g : Bool} {es : List Expr} (hc : X.calm = true) (ha : PE X e1 (TEx c x)) (hb : PE X e2 (TEx c y)) (hg : PGs X es (gNames [i, j])) (hn : (assignEach es X.env).length = 2) (hst : (assignEach es X.env).findIdx? (·.1) = none)
    (s1 : starEach [e1, e2] X.env = (false, eval e1 X.env) :: starEach [e2] X.env) (s2 : starEach [e2] X.env = (false, eval e2 X.env) :: starEach [] X.env) (hs : swapsWithSole [.Tuple es k1 q1] (.Tuple [e1, e2] k2 q2) pos.line X.env = pure false) (hw : swappedStores [.Tuple es k1 q1] (.Tuple [e1, e2] k2 q2) X.env = pure none)
    (h1 : (assignEach [.Tuple es k1 q1] X.env).map (·.2) = [assign (.Tuple es k1 q1) X.env]) : PS X (.Assign [.Tuple es k1 q1] (.Tuple [e1, e2] k2 q2) pos) (TSx c (par2 i f j g x y)) :=
  ps_imp (ps_asg (pe_tup (pa_cons ha (pa_cons hb pa_nil s2) s1)) (pg_tup hc hg hn hst) hs hw h1) fun D σ H h =>
    tex_mono (par2T_top (pp := fun _ _ => True) D σ H h) fun v1 H1 q => tex_mono q fun v2 H2 ⟨l, w⟩ => ⟨len2 l, fun p np => ⟨p, _, rfl, .inl (.inl upd_same), l, w p np⟩⟩
theorem sx_par3T {i j l : Nat} {f g h : Bool} {es : List Expr} (hc : X.calm = true) (ha : PE X e1 (TEx c x)) (hb : PE X e2 (TEx c y)) (hd : PE X e3 (TEx c z)) (hg : PGs X es (gNames [i, j, l])) (hn : (assignEach es X.env).length = 3) (hst : (assignEach es X.env).findIdx? (·.1) = none)
    (s1 : starEach [e1, e2, e3] X.env = (false, eval e1 X.env) :: starEach [e2, e3] X.env) (s2 : starEach [e2, e3] X.env = (false, eval e2 X.env) :: starEach [e3] X.env) (s3 : starEach [e3] X.env = (false, eval e3 X.env) :: starEach [] X.env) (hs : swapsWithSole [.Tuple es k1 q1] (.Tuple [e1, e2, e3] k2 q2) pos.line X.env = pure false) (hw : swappedStores [.Tuple es k1 q1] (.Tuple [e1, e2, e3] k2 q2) X.env = pure none)
    (h1 : (assignEach [.Tuple es k1 q1] X.env).map (·.2) = [assign (.Tuple es k1 q1) X.env]) : PS X (.Assign [.Tuple es k1 q1] (.Tuple [e1, e2, e3] k2 q2) pos) (TSx c (par3 i f j g l h x y z)) :=
  ps_imp (ps_asg (pe_tup (pa_cons ha (pa_cons hb (pa_cons hd pa_nil s3) s2) s1)) (pg_tup hc hg hn hst) hs hw h1) fun D σ H w =>
    tex_mono (par3T_top D σ H w) fun v1 H1 q => tex_mono q fun v2 H2 q => tex_mono q fun v3 H3 ⟨l, w⟩ => ⟨len3 l, fun p np => ⟨p, _, rfl, .inl (.inl upd_same), l, w p np⟩⟩
/-- a name takes a value -/
theorem sx_set {i : Nat} {pt : Pos} (hN : X.N.Nodup) (hi : X.N[i]? = some n1) (hx : Loc X.env.scope n1) (he : PE X e1 (TEx c x)) (hs : swapsWith e1 (some (.Name n1 pt)) pos.line X.env = pure false) (hf : X.fn n1 = true ∨ X.env.scope.names.lookup n1 = some .local) : PS X (.Assign [.Name n1 pt] e1 pos) (TSx c (setS i x)) :=
  ps_imp (ps_set hN hi hx he hs hf) set_top
theorem sx_setO {i : Nat} {pt : Pos} (hN : X.N.Nodup) (hi : X.N[i]? = some n1) (hx : Loc X.env.scope n1) (he : PE X e1 (TEx c x)) (hs : swapsWith e1 (some (.Name n1 pt)) pos.line X.env = pure false) (hf : X.fn n1 = true ∨ X.env.scope.names.lookup n1 = some .local) : PS X (.Assign [.Name n1 pt] e1 pos) (TSx c (setO i x)) :=
  ps_imp (ps_set hN hi hx he hs hf) setO_top
/-- what is not reached -/
def nope : Sx := fun _ _ => .bad
theorem sx_nope {st : Stmt} : PS X st (TSx c nope) := ⟨fun pins s σ H D I ⟨P, env, S, s', h⟩ => h.elim⟩
theorem sxs_nope {st : List Stmt} : PSs X st (TSx c nope) := ⟨fun pins s σ H D I ⟨P, env, S, s', h⟩ => h.elim⟩
/-! ### row = [..]: a list that the callees write to -/
def calmE (env : SEnv) : Bool := env.all fun s => !s.isOwn
def cellS (i : Nat) (x : Ex) (b : Sx) : Sx := fun env S => (x env S).bind fun r S1 => if (r.fr && calmE env) = true then (nox (b (env.set i (.ref S1.length)) (S1 ++ [r.d]))).bind fun fl S2 => match fl with
    | .ret r => .ok (.ret r) (S2.take S1.length)
    | .nx _ => .bad
  else .bad
abbrev Cc.at_ (c : Cc) (ρ : List Addr) (P0 H0 : Hp) : Cc := { c with ρ := ρ, P0 := P0, H0 := H0 }
theorem calm_at (h : calmE env = true) (i : Nat) : (sget env i).isOwn = false := by
  unfold sget
  rw [List.getD_eq_getElem?_getD]
  cases q : env[i]? with
  | none => rfl
  | some s =>
    have := List.all_eq_true.mp h s (List.mem_of_getElem? q)
    simpa using this
theorem StoOk.shrink {K : PySem.W.Frag} {G : Nat → Option (Addr × List Str)} {ρ : List Addr} {a : Addr} (s : StoOk K G (ρ ++ [a]) P H S) {n : Nat} (hn : n = ρ.length) : StoOk K G ρ P H (S.take n) := by
  subst hn
  refine ⟨?_, (List.nodup_append.mp s.nd).1, fun m d e => ?_⟩
  · rw [List.length_take, ← s.len, List.length_append]; simp
  · rw [List.getElem?_take] at e
    split at e
    · rename_i hm
      obtain ⟨b, hb, pb, r⟩ := s.at_ m d e
      exact ⟨b, by rw [List.getElem?_append_left hm] at hb; exact hb, pb, r⟩
    · cases e
theorem Step.shrink {ρ : List Addr} {a : Addr} {P0 H0 P2 H2 : Hp} (st : Step ρ P0 H0 P H) (n0 : H0 a = none) (st2 : Step (ρ ++ [a]) P H P2 H2) (sh : ∀ b ∈ ρ, P b = none → P2 b = none) : Step ρ P0 H0 P2 H2 :=
  ⟨st2.le, st.pp.trans st2.pp, fun b u e nb xb => st2.hh b u (st.hh b u e nb xb) (fun m => by
      rcases List.mem_append.mp m with m | m
      · exact nb m
      · rw [List.mem_singleton.mp m, n0] at e; cases e) xb, fun b e => st.dom b (st2.dom b e),
    fun b u nb p e t xb => st2.new b u (fun m => by
      rcases List.mem_append.mp m with m | m
      · exact nb m
      · rw [List.mem_singleton.mp m, n0] at e; cases e) (st.new b u nb p e t xb) (st.hh b u e nb xb) t xb, fun b m p => sh b m (st.cel b m p), fun b q e => st.mrk b q (st2.mrk b q e)⟩
theorem sx_cell2 {i : Nat} {st : Stmt} {rest : List Stmt} {b : Sx} (hx : PS X st (tAsg (TEx c x) (gName i))) (hr : ∀ ρ P0 H0, Same c.P0 P0 → (∀ a q, P0 a = some (mkT q) → c.P0 a = some (mkT q)) → PSs X rest (TSx (c.at_ ρ P0 H0) b)) : PSs X (st :: rest) (TSx c (cellS i x b)) := by
  have h2 : PSs X rest (fun D σ H => ∃ ρ P0 H0, Same c.P0 P0 ∧ (∀ a q, P0 a = some (mkT q) → c.P0 a = some (mkT q)) ∧ TSx (c.at_ ρ P0 H0) b D σ H) := ⟨fun pins s σ H D I ⟨ρ, P0, H0, w1, w2, w⟩ => (hr ρ P0 H0 w1 w2).run pins s σ H D I w⟩
  refine pss_imp (pss_cons hx h2) fun D σ H ⟨P, env, S, s, h⟩ => ⟨P, env, S, s, post_mono (post_bind.mp h) (fun r S1 q v P1 H1 st so rr => ?_) fun _ _ _ q => q.step s.st⟩
  by_cases hf : (r.fr && calmE env) = true
  · rw [if_pos hf] at q
    obtain ⟨hf1, hf2⟩ := Bool.and_eq_true_iff.mp hf
    unfold RepR at rr
    rw [if_pos hf1] at rr
    obtain ⟨a, rfl, n0, n1, ro⟩ := rr
    have s1 := s.step st so
    have na : a ∉ c.ρ := s.new0 a n0
    obtain ⟨u, hu, mu⟩ := ro.there
    have hl := so.len
    refine ⟨c.ρ ++ [a], P1, H1, s1.st.pp, s1.st.mrk, P1, env.set i (.ref S1.length), S1 ++ [r.d], ⟨Step.refl s1.le, fun b hb m => ?_, ⟨by rw [List.length_append, List.length_append, hl]; rfl, ?_, fun m d e => ?_⟩, by rw [List.length_set, List.length_set]; exact s.ln, fun j => ?_, fun j k b e1 => ?_⟩, ?_⟩
    · rcases List.mem_append.mp m with m | m
      · exact s1.new0 b hb m
      · have hb2 : H1 b = none := hb
        rw [List.mem_singleton.mp m, hu] at hb2; cases hb2
    · exact List.nodup_append.mpr ⟨so.nd, by simp, fun x hx y hy => by rw [List.mem_singleton.mp hy]; exact fun z => na (by rw [← z]; exact hx)⟩
    · by_cases hm : m < S1.length
      · rw [List.getElem?_append_left hm] at e
        obtain ⟨b, hb, pb, rb⟩ := so.at_ m d e
        exact ⟨b, by rw [List.getElem?_append_left (by rw [hl]; exact hm)]; exact hb, pb, rb⟩
      · rw [List.getElem?_append_right (by omega)] at e
        have hm2 : m = S1.length := by
          cases h3 : m - S1.length with
          | zero => omega
          | succ k => rw [h3] at e; simp at e
        subst hm2
        simp at e
        subst e
        exact ⟨a, by rw [List.getElem?_append_right (by omega), hl]; simp, n1, ro⟩
    · by_cases hj : i = j
      · subst hj
        by_cases hi : i < env.length
        · rw [sget_set_self hi, List.getElem?_set_self (by rw [← s.ln]; exact hi)]
          exact ⟨a, rfl, by rw [List.getElem?_append_right (by omega), hl]; simp⟩
        · have e : sget (env.set i (.ref S1.length)) i = .un := by
            unfold sget
            rw [List.getD_eq_getElem?_getD, List.getElem?_eq_none (by rw [List.length_set]; omega)]; rfl
          rw [e]; trivial
      · rw [sget_set_ne hj, List.getElem?_set_ne hj]
        have sl := s1.sl j
        have cj := calm_at hf2 j
        cases q : sget env j with
        | un => trivial
        | sh d => rw [q] at sl; exact sl
        | ref m =>
          rw [q] at sl
          obtain ⟨b, e, hb⟩ := sl
          exact ⟨b, e, by rw [List.getElem?_append_left (List.getElem?_eq_some_iff.mp hb).1]; exact hb⟩
        | own d => rw [q] at cj; cases cj
        | lk d => rw [q] at cj; cases cj
    · exfalso
      by_cases hj : i = j
      · subst hj
        by_cases hi : i < env.length
        · rw [sget_set_self hi] at e1; cases e1
        · have e : sget (env.set i (.ref S1.length)) i = .un := by
            unfold sget
            rw [List.getD_eq_getElem?_getD, List.getElem?_eq_none (by rw [List.length_set]; omega)]; rfl
          rw [e] at e1; cases e1
      · rw [sget_set_ne hj, calm_at hf2 j] at e1; cases e1
    · refine post_mono (nox_post (E' := EF) (post_bind.mp q)) (fun fl S2 q2 => ?_) fun _ _ _ q => q.elim
      cases fl with
      | nx _ => exact q2.elim
      | ret r2 =>
        intro v P' H' st' so' rr'
        refine (show QF c P D (.ret r2) (S2.take S1.length) from q2) v P' H' (s1.st.shrink (s.st.dom a n0) st' fun b m pb => st'.cel b (List.mem_append_left _ m) pb) (so'.shrink hl.symm) ?_
        exact repR_up s1.st rr'
  · rw [if_neg hf] at q; exact q.elim
theorem sx_cell {i : Nat} {st : Stmt} {rest : List Stmt} {b : Sx} (hx : PS X st (tAsg (TEx c x) (gName i))) (hr : ∀ ρ P0 H0, PSs X rest (TSx (c.at_ ρ P0 H0) b)) : PSs X (st :: rest) (TSx c (cellS i x b)) := sx_cell2 hx fun ρ P0 H0 _ _ => hr ρ P0 H0
end
end Pv

set_option Elab.async false
set_option linter.all false
set_option maxRecDepth 100000
namespace Pv
open PySem PySem.Spec PyProof.Rows L2

section
variable {X : Cx} {c : Cc} {P H P1 H1 : Hp} {env : SEnv} {σ : L2.St} {S S1 : Sto} {x y z : Ex} {pos p : Pos} {a b e : Expr} {es : List Expr} {nm : Str}
/-! ### comparisons as tests -/
theorem tt_te {Q : Bool → Hp → Prop} (h : TTx c x σ H Q) : TEx c x σ H fun v H' => ∃ k, v = .bl k ∧ Q k H' := by
  obtain ⟨P, env, S, s, h⟩ := h
  exact ⟨P, env, S, s, post_mono h (fun r S1 ⟨k, e, w⟩ v P1 H1 st so rr => by subst e; cases rr; exact ⟨k, rfl, w P1 H1 st so⟩) fun _ _ _ q => q⟩
theorem pq_c {op : CmpOp} {r : R2} {ta tb : TE} (ho : OpR X (compareOp op) r) (ha : PE X a ta) (hb : PE X b tb) (hm : behindInMarks op b = false) (top : ∀ σ H Q, TEx c x σ H Q → tOp r ta tb σ H Q) : PT X (.Compare a [op] [b] pos) (TTx c x) :=
  pt_imp (pt_cmpR ho ha hb hm) fun σ H Q h => top σ H _ (tt_te h)
theorem pq_cmp2 {op : CmpOp} {f : D → D → Option R} (ho : OpR X (compareOp op) (rOp2 c f)) (ha : PE X a (TEx c x)) (hb : PE X b (TEx c y)) (hm : behindInMarks op b = false) : PT X (.Compare a [op] [b] pos) (TTx c (op2 f x y)) := pq_c ho ha hb hm op2_top
theorem pq_in {op : CmpOp} {f : D → D → Option R} (ho : OpR X (compareOp op) (rOpR c f)) (ha : PE X a (TEx c x)) (hb : PE X b (TEx c y)) (hm : behindInMarks op b = false) : PT X (.Compare a [op] [b] pos) (TTx c (op2 f x y)) := pq_c ho ha hb hm op2R_top
theorem pq_inV {op : CmpOp} {f : D → D → Option R} (i : Nat) (ho : OpR X (compareOp op) (rOpR c f)) (ha : PE X a (TEx c x)) (hN : X.N[i]? = some nm) (hv : Vis X.env.scope nm) (hd : (nm == ("__debug__" : Str)) = false) (hcd : (nm == ("__classdict__" : Str)) = false) :
    PT X (.Compare a [op] [.Name nm p] pos) (TTx c (inV f x i)) := pq_c ho ha (pe_var hN hv hd hcd) rfl inV_top
theorem pq_kin {A0 : Addr} {tb : List (Key × D)} (t : KTab X.K c.G X.w A0 tb) (hK : X.K = c.K) (hg : Gl X nm) (hm : X.mg nm = some (.ref A0)) (hd : (nm == ("__debug__" : Str)) = false) (he : PE X e (TEx c x)) : PT X (.Compare e [.In] [.Name nm p] pos) (TTx c (op1 (kinD tb) x)) :=
  pq_c (ok_in t hK) he (pe_glob hg hm (show RelV (.ref A0) (.ref A0) from rfl) hd) rfl opK_top
theorem pq_knin {A0 : Addr} {tb : List (Key × D)} (t : KTab X.K c.G X.w A0 tb) (hK : X.K = c.K) (hg : Gl X nm) (hm : X.mg nm = some (.ref A0)) (hd : (nm == ("__debug__" : Str)) = false) (he : PE X e (TEx c x)) : PT X (.Compare e [.NotIn] [.Name nm p] pos) (TTx c (op1 (kninD tb) x)) :=
  pq_c (ok_nin t hK) he (pe_glob hg hm (show RelV (.ref A0) (.ref A0) from rfl) hd) rfl opK_top
theorem pq_chain2 {op op' : CmpOp} {f g : D → D → Option R} {t : Expr} (hf : OpR X (compareOp op) (rOp2 c f)) (hg : OpR X (compareOp op') (rOp2 c g)) (ha : PE X a (TEx c x)) (hb : PE X b (TEx c y)) (ht : PE X t (TEx c z))
    (hm : lastMarks [op, op'] [b, t] = false) (hgb : boolR g) : PT X (.Compare a [op, op'] [b, t] pos) (TTx c (chain f g x y z)) := pq_chain hgb hf hg ha hb ht hm
theorem bool_cmpI (f : Int → Int → Bool) : boolR (cmpI f) := fun a b r h => by
  unfold cmpI at h
  split at h
  · cases h; exact ⟨_, rfl⟩
  · cases h
theorem bool_lt : boolR ltD := fun a b r h => by
  unfold ltD at h
  split at h
  · cases h; exact ⟨_, rfl⟩
  · cases h; exact ⟨_, rfl⟩
  · cases h
/-! ### calls of the program's own defs -/
structure Callee (P : Program) (w : World) (K : PySem.W.Frag) (mg : Str → Option Value) (base : Heap) (G : Nat → Option (Addr × List Str)) (xc : Nat → Value) (k : Nat) (nm : Str) (n : Nat) (cf : List Arg → Sto → Out R) : Prop where
  ex : ∃ (f : Addr) (fd : FuncData) (ps : List Str), FnOk P w K mg base (L2.CX P w) k f fd ps (spF K G xc n cf) ∧ mg nm = some (.ref f) ∧ PySem.W.keepIn K (.ref f) = true ∧ Binds K fd ps []
def LenA (l : Ax) (n : Nat) : Prop := ∀ env S as S1, l env S = .ok as S1 → as.length = n
theorem len_nil : LenA anil 0 := fun env S as S1 h => by cases h; rfl
theorem len_val {l : Ax} {n : Nat} (h : LenA l n) : LenA (aval x l) (n + 1) := fun env S as S1 e => by
  unfold aval at e
  cases q : x env S with
  | ok a S2 =>
    rw [q] at e
    cases q2 : l env S2 with
    | ok bs S3 =>
      simp only [Out.bind, q2] at e
      cases e
      exact congrArg (· + 1) (h env S2 bs _ q2)
    | exc _ _ _ => simp only [Out.bind, q2] at e; cases e
    | bad => simp only [Out.bind, q2] at e; cases e
  | exc _ _ _ => rw [q] at e; cases e
  | bad => rw [q] at e; cases e
theorem len_name {l : Ax} {n : Nat} (i : Nat) (h : LenA l n) : LenA (aname i l) (n + 1) := fun env S as S1 e => by
  unfold aname at e
  cases q : sget env i with
  | sh d =>
    rw [q] at e
    cases q2 : l env S with
    | ok bs S3 =>
      simp only [Out.bind, q2] at e
      cases e
      exact congrArg (· + 1) (h env S bs _ q2)
    | exc _ _ _ => simp only [Out.bind, q2] at e; cases e
    | bad => simp only [Out.bind, q2] at e; cases e
  | ref m =>
    rw [q] at e
    cases q2 : l env S with
    | ok bs S3 =>
      simp only [Out.bind, q2] at e
      cases e
      exact congrArg (· + 1) (h env S bs _ q2)
    | exc _ _ _ => simp only [Out.bind, q2] at e; cases e
    | bad => simp only [Out.bind, q2] at e; cases e
  | _ => rw [q] at e; cases e
theorem pd_call {k n : Nat} {l : Ax} {cf : Nat → List Arg → Sto → Out R} (i : Nat) (hK : X.K = c.K) (C : Callee X.prog X.w X.K X.mg X.base c.G c.xc k nm n (cf i)) (hr : Room k X.A) (px : Passes (L2.CX X.prog X.w) X c.E) (hg : Gl X nm) (hdb : (nm == ("__debug__" : Str)) = false) (ha : PA X (e :: es) (TAx c l)) (hl : LenA l n)
    (he : starEach (e :: es) X.env = (false, eval e X.env) :: starEach es X.env) (hpl : (backTo pos (starEach es X.env)).any (·.1) = false) : PE X (.Call (.Name nm p) (e :: es) [] pos) (TEx c (callX cf i l)) := by
  obtain ⟨f, fd, ps, F, hm, hk, hb⟩ := C.ex
  exact pe_imp (pe_call F hr hg hm hk hb .nil px ha hdb he hpl) (by rw [hK]; exact call_top fun P H env σ S as S1 _ h => hl env S as S1 h)
theorem pd_call0 {k : Nat} {cf : Nat → List Arg → Sto → Out R} (i : Nat) (hK : X.K = c.K) (C : Callee X.prog X.w X.K X.mg X.base c.G c.xc k nm 0 (cf i)) (hr : Room k X.A) (px : Passes (L2.CX X.prog X.w) X c.E) (hg : Gl X nm) (hdb : (nm == ("__debug__" : Str)) = false) : PE X (.Call (.Name nm p) [] [] pos) (TEx c (callX cf i anil)) := by
  obtain ⟨f, fd, ps, F, hm, hk, hb⟩ := C.ex
  refine pe_imp (pe_call0 F hr hg hm hk hb .nil px hdb) fun σ H Q h => ?_
  rw [hK]
  obtain ⟨P, env, S, s, w⟩ := call_top (c := c) (cf := cf) (f := i) (n := 0) (l := anil) (fun P H env σ S as S1 _ h => len_nil env S as S1 h) σ H Q h
  exact w [] P H (Step.refl s.le) s.so .nil
end
/-! ### a def -/
section
variable {P : Program} {w : World} {K : PySem.W.Frag} {mg : Str → Option Value} {base : Heap} {x qual : Str} {params : Arguments} {body : List Stmt} {scope : Scope} {dvs : List V} {kws : List (Str × V)} {f : Addr} {fd : FuncData} {N ps : List Str} {k : Nat}
abbrev XC (P : Program) (w : World) (K : PySem.W.Frag) (mg : Str → Option Value) (base : Heap) (N : List Str) (qual : Str) (scope : Scope) (f : Addr) (cd : Value) (A : Around) (outer : List Env) (s : Shared) (H : Hp) (E : XK) : Cx := cxOf (L2.CX P w) P w K mg base N qual scope f cd A outer s H E
theorem fn_ok {G : Nat → Option (Addr × List Str)} {xc : Nat → Value} {b : Sx} {m n : Nat} (F : FunD K x qual params body scope dvs kws f fd) (Sc : FnScope N ps scope) (hm : N.length = m) (hn : ps.length = n)
    (hb : ∀ (cdv : Value) (A : Around) (outer : List Env) (s : Shared) (H : Hp) (E : XK) (ρ : List Addr) (P0 : Hp), Room k (A.deeper (envOfC qual scope s.heap.objs.size f cdv)) → PSs (XC P w K mg base N qual scope f cdv A outer s H E) body (TSx ⟨K, G, xc, ρ, P0, H, E⟩ b)) :
    FnOk P w K mg base (L2.CX P w) (k + 1) f fd ps (spF K G xc n (runF b m)) := by
  refine F.ok Sc (fun vs H Q E ⟨ρ, P0, S, as, le, so, ra, hl, px⟩ => hl.trans hn.symm) fun cdv A outer s H vs Q E hr ⟨ρ, P0, S, as, le, so, ra, hl, px⟩ => ?_
  refine ⟨TSx ⟨K, G, xc, ρ, P0, H, E⟩ b, hb cdv A outer s H E ρ P0 hr, P0, as.map Arg.sl ++ List.replicate (N.length - as.length) .un, S, start_ok le so ra ?_, ?_⟩
  · have := congrArg List.length Sc.pre
    rw [List.length_take] at this
    omega
  · rw [hm]
    refine post_mono (post_bind.mp (show PX ⟨K, G, xc, ρ, P0, H, E⟩ P0 H Q (runF b m as S) from px)) (fun fl S1 q => ?_) fun _ _ _ q => q
    cases fl with
    | nx env' => exact fun P' H' σ' e st => q .non P' H' st.st st.so (RepR.sh .non)
    | ret r => exact q
/-- nothing is promised -/
theorem fn_bad {G : Nat → Option (Addr × List Str)} {xc : Nat → Value} {n : Nat} (F : FunD K x qual params body scope dvs kws f fd) (Sc : FnScope N ps scope) (hn : ps.length = n) : FnOk P w K mg base (L2.CX P w) 1 f fd ps (spF K G xc n fun _ _ => .bad) :=
  F.ok Sc (fun vs H Q E ⟨ρ, P0, S, as, le, so, ra, hl, px⟩ => hl.trans hn.symm) fun cdv A outer s H vs Q E hr ⟨ρ, P0, S, as, le, so, ra, hl, px⟩ => px.elim
theorem xc_takes {qual : Str} {cdv : Value} {A : Around} {outer : List Env} {s : Shared} {H : Hp} {E : XK} : Passes (L2.CX P w) (XC P w K mg base N qual scope f cdv A outer s H E) E :=
  fun pins σ H' s' e s2 I h => passes_call (X := XC P w K mg base N qual scope f cdv A outer s H E) (takes_of rfl rfl rfl rfl) (fun _ _ _ _ h => h) pins σ H' s' e s2 I h
theorem xc_own {qual : Str} {cdv : Value} {A : Around} {outer : List Env} {s : Shared} {H : Hp} {E : XK} : PassesOwn (model P w) (XC P w K mg base N qual scope f cdv A outer s H E).A (XC P w K mg base N qual scope f cdv A outer s H E).env (XC P w K mg base N qual scope f cdv A outer s H E).xe := passes_of rfl
theorem xc_units {A : Around} (r : Room k A) : A.units + 65 < cLine := by have := r.un; omega
end
/-! ### the names of a comprehension's block, by computing -/
def blkB (N : List Str) (sc scope : Scope) (own : List (Str × Nat)) : Bool :=
  decide (scope.kind = .function) && decide (∀ y ∈ scope.names, scope.names.lookup y.1 = some y.2) && decide (∀ p ∈ own, N[p.2]? = some p.1) && decide (∀ y ∈ scope.names, y.2 = .free → sc.names.lookup y.1 = some .cell ∨ sc.names.lookup y.1 = some .free) &&
    decide (∀ y ∈ scope.names, y.2 = .local ∨ y.2 = .cell → y.1 ∈ own.map (·.1) ∨ y.1 ∉ N)
theorem blk_of {N : List Str} {sc scope : Scope} {own : List (Str × Nat)} (h : blkB N sc scope own = true) : BlkOk N sc scope own := by
  simp only [blkB, Bool.and_eq_true, decide_eq_true_eq] at h
  obtain ⟨⟨⟨⟨h1, h2⟩, h3⟩, h4⟩, h5⟩ := h
  exact ⟨h1, h2, h3, h4, h5⟩
section
variable {X : Cx} {c : Cc} {elt tgt iter : Expr} {ifs : List Expr} {scope : Scope} {own : List (Str × Nat)} {tg : Tx} {it : Ix} {t e : Ex} {is vs : List Nat} {pos : Pos}
theorem pd_lcV (hc : X.calm = true) (hN : X.N.Nodup) (hi : PI X tgt iter (TIe c it)) (ok : BlkOk X.N X.env.scope scope own) (hvs : own.map (·.2) = vs) (his : ∀ i ∈ is, i ∈ vs)
    (hg : ∀ (s : Shared) (H : Hp) (C : Addr) (cl : List (Str × Addr)) (fp : List Addr), PG (X.blk s H scope (compEnvC scope cl C X.env) fp) tgt (TGx c.in0 is tg)) (ht : ∀ (s : Shared) (H : Hp) (C : Addr) (cl : List (Str × Addr)) (fp : List Addr), PTs (X.blk s H scope (compEnvC scope cl C X.env) fp) ifs (TTx c.in0 t))
    (he : ∀ (s : Shared) (H : Hp) (C : Addr) (cl : List (Str × Addr)) (fp : List Addr), PE (X.blk s H scope (compEnvC scope cl C X.env) fp) elt (TEx c.in0 e)) (hs : ∀ x, foldedSetIterable iter X.env x = pure x) :
    PE X (.ListComp elt [⟨tgt, iter, ifs, 0⟩] scope pos) (TEx c (compX vs tg it t e)) := by
  subst hvs
  exact pd_lc hc hN hi ok his hg ht he hs
theorem sx_setLc {i : Nat} {y : Str} {py spos : Pos} (hc : X.calm = true) (hN : X.N.Nodup) (hy : X.N[i]? = some y) (hyl : X.env.scope.names.lookup y = some .local) (hsw : swapsWith (.ListComp elt [⟨tgt, iter, ifs, 0⟩] scope pos) (some (.Name y py)) spos.line X.env = pure true)
    (hi : PI X tgt iter (TIe c it)) (ok : BlkOk X.N X.env.scope scope own) (hvs : own.map (·.2) = vs) (his : ∀ i ∈ is, i ∈ vs)
    (hg : ∀ (s : Shared) (H : Hp) (C : Addr) (cl : List (Str × Addr)) (fp : List Addr), PG (X.blk s H scope (compEnvC scope cl C X.env) fp) tgt (TGx c.in0 is tg)) (ht : ∀ (s : Shared) (H : Hp) (C : Addr) (cl : List (Str × Addr)) (fp : List Addr), PTs (X.blk s H scope (compEnvC scope cl C X.env) fp) ifs (TTx c.in0 t))
    (he : ∀ (s : Shared) (H : Hp) (C : Addr) (cl : List (Str × Addr)) (fp : List Addr), PE (X.blk s H scope (compEnvC scope cl C X.env) fp) elt (TEx c.in0 e)) (hs : ∀ x, foldedSetIterable iter X.env x = pure x) :
    PS X (.Assign [.Name y py] (.ListComp elt [⟨tgt, iter, ifs, 0⟩] scope pos) spos) (TSx c (setS i (compX vs tg it t e))) := by
  subst hvs
  exact ps_imp (ps_setLc hc hN hy hyl hsw hi ok hg ht he hs) (tAsg_lc his)
theorem sx_setLcO {i : Nat} {y : Str} {py spos : Pos} (hc : X.calm = true) (hN : X.N.Nodup) (hy : X.N[i]? = some y) (hyl : X.env.scope.names.lookup y = some .local) (hsw : swapsWith (.ListComp elt [⟨tgt, iter, ifs, 0⟩] scope pos) (some (.Name y py)) spos.line X.env = pure true)
    (hi : PI X tgt iter (TIe c it)) (ok : BlkOk X.N X.env.scope scope own) (hvs : own.map (·.2) = vs) (his : ∀ i ∈ is, i ∈ vs)
    (hg : ∀ (s : Shared) (H : Hp) (C : Addr) (cl : List (Str × Addr)) (fp : List Addr), PG (X.blk s H scope (compEnvC scope cl C X.env) fp) tgt (TGx c.in0 is tg)) (ht : ∀ (s : Shared) (H : Hp) (C : Addr) (cl : List (Str × Addr)) (fp : List Addr), PTs (X.blk s H scope (compEnvC scope cl C X.env) fp) ifs (TTx c.in0 t))
    (he : ∀ (s : Shared) (H : Hp) (C : Addr) (cl : List (Str × Addr)) (fp : List Addr), PE (X.blk s H scope (compEnvC scope cl C X.env) fp) elt (TEx c.in0 e)) (hs : ∀ x, foldedSetIterable iter X.env x = pure x) :
    PS X (.Assign [.Name y py] (.ListComp elt [⟨tgt, iter, ifs, 0⟩] scope pos) spos) (TSx c (setO i (compX vs tg it t e))) := by
  subst hvs
  exact ps_imp (ps_setLc hc hN hy hyl hsw hi ok hg ht he hs) (tAsg_lcO his)
end
end Pv

set_option Elab.async false
set_option linter.all false
set_option maxRecDepth 100000
namespace Pv
open PySem PySem.Spec PyProof.Rows L2

/-! ### the head's observation: the defs, the names, and a test of one's own -/
def hookP (n : Nat) (fa : List He.Fa) (fn : List He.DefD) (xt : PySem.W.Frag → Bool) : PySem.W.Hook where
  α := He.AlD × Bool
  obs := fun s => (He.obsDG n fa fn s.heap.get?, xt (He.frG s.heap.get? (He.asD s.heap.get? n)))
  val := fun _ => (He.valD fn, true)
  says := fun _ h => ∃ K : PySem.W.Frag, K.In h ∧ He.SaysD fa fn K ∧ xt K = true
  of := fun _ _ e => ⟨_, He.frG_in, congrArg Prod.fst e, congrArg Prod.snd e⟩
  keeps := fun _ _ _ ⟨K, hK, c⟩ k => ⟨K, PySem.W.Frag.In.keeps hK k, c⟩
def obP (n : Nat) (fa : List He.Fa) (fn : List He.DefD) (xt : PySem.W.Frag → Bool) (s : PySem.W.SharedT) : He.AlD × Bool := (He.obsDG n fa fn (HandSHeadRun.getT s), xt (He.frG (HandSHeadRun.getT s) (He.asD (HandSHeadRun.getT s) n)))
theorem obP_eq {n : Nat} {fa : List He.Fa} {fn : List He.DefD} {xt : PySem.W.Frag → Bool} (s : PySem.W.SharedT) : obP n fa fn xt s = (hookP n fa fn xt).obs s.abs := by
  have e : HandSHeadRun.getT s = s.abs.heap.get? := funext (HandSHeadRun.getT_eq s)
  unfold obP
  rw [e] <;> rfl
/-! ### a dict of ints of the module -/
def entB : List DictEntry → List (Int × Int) → Bool
  | [], [] => true
  | e :: es, (k, v) :: l => keyIs (.inl k) e.key && decide (e.hash = hashInt k) && (match e.val with | .int j _ => decide (j = v) | _ => false) && entB es l
  | _, _ => false
def tabI (x : Str) (l : List (Int × Int)) (K : PySem.W.Frag) : Bool := match K.lookup (He.ga K x) with
  | some ⟨.type c, none, .dict es _, sl⟩ => decide (c = "dict") && decide (sl = #[]) && entB es.toList l && !(He.ga K x == sysModules)
  | _ => false
def tbI (l : List (Int × Int)) : List (Key × D) := l.map fun p => (.inl p.1, .int p.2)
theorem entB_ok {K : PySem.W.Frag} {G : Nat → Option (Addr × List Str)} {w : World} : ∀ {es : List DictEntry} {l : List (Int × Int)}, entB es l = true → KEnt K G w es (tbI l)
  | [], [], _ => .nil
  | [], _ :: _, h => by cases h
  | _ :: _, [], h => by cases h
  | e :: es, (k, v) :: l, h => by
    simp only [entB, Bool.and_eq_true, decide_eq_true_eq] at h
    obtain ⟨⟨⟨h1, h2⟩, h3⟩, h4⟩ := h
    refine .cons h1 h2 ?_ (entB_ok h4)
    split at h3
    · rename_i j t q
      have e3 : j = v := of_decide_eq_true h3
      subst e3
      exact ⟨.int j, by rw [q]; exact ⟨t, rfl⟩, fun _ => .int j⟩
    · cases h3
theorem tabI_ok {K : PySem.W.Frag} {G : Nat → Option (Addr × List Str)} {w : World} {x : Str} {l : List (Int × Int)} (h : tabI x l K = true) (nd : ((tbI l).map (·.1)).Nodup) : KTab K G w (He.ga K x) (tbI l) := by
  unfold tabI at h
  split at h
  · rename_i c es n sl q
    simp only [Bool.and_eq_true, decide_eq_true_eq, Bool.not_eq_true'] at h
    obtain ⟨⟨⟨rfl, rfl⟩, h3⟩, h4⟩ := h
    exact ⟨es, n, q, entB_ok h3, h4, nd⟩
  · cases h
/-! ### the law's def at the script -/
/-- what is told at the law's entry: the script, the tables -/
theorem ground {K : PySem.W.Frag} {H : Hp} {a : Addr} {xs : List V} {T : List (Addr × Str)} (hS : SqL K H a xs) (tb : LamX.Tabs T H) (nd : (T.map (·.1)).Nodup) : ∃ P, Le P H ∧ SqL K P a xs ∧ ∀ p ∈ T, P p.1 = some (mkT p.2) := by
  have lk : ∀ {T : List (Addr × Str)}, (T.map (·.1)).Nodup → ∀ p ∈ T, T.lookup p.1 = some p.2 := by
    intro T
    induction T with
    | nil => intro _ p hp; cases hp
    | cons z T ih =>
      intro nd p hp
      obtain ⟨n1, n2⟩ := List.nodup_cons.mp nd
      rcases List.mem_cons.mp hp with e | e
      · subst e; simp [List.lookup]
      · have ne : (p.1 == z.1) = false := by
          have h : p.1 ≠ z.1 := fun y => n1 (List.mem_map.mpr ⟨p, e, y⟩)
          simpa using h
        show (match p.1 == z.1 with | true => some z.2 | false => T.lookup p.1) = _
        rw [ne]
        exact ih n2 p e
  have mo : ∀ {T : List (Addr × Str)} {b : Addr} {q : Str}, T.lookup b = some q → (b, q) ∈ T := by
    intro T
    induction T with
    | nil => intro b q e; cases e
    | cons z T ih =>
      intro b q e
      have e2 : (match b == z.1 with | true => some z.2 | false => T.lookup b) = some q := e
      cases k : b == z.1 with
      | true =>
        rw [k] at e2
        have e3 : z.2 = q := Option.some.inj e2
        have e4 : b = z.1 := by simpa using k
        rw [e4, ← e3]; exact List.mem_cons_self
      | false => rw [k] at e2; exact List.mem_cons_of_mem _ (ih e2)
  have mem : ∀ {b : Addr} {q : Str}, T.lookup b = some q → LamX.TabS H b q := fun {b q} e => tb (b, q) (mo e)
  have go : ∀ u : HO, H a = some u → NTb u → ∃ P : Hp, Le P H ∧ P a = some u ∧ ∀ p ∈ T, P p.1 = some (mkT p.2) := fun u hu nt => by
    refine ⟨fun b => if b = a then some u else (T.lookup b).map mkT, fun b w e => ?_, if_pos rfl, fun p hp => ?_⟩
    · by_cases z : b = a
      · have e2 : (if b = a then some u else (T.lookup b).map mkT) = some w := e
        rw [if_pos z] at e2
        cases e2
        exact .inl ⟨by rw [z]; exact hu, nt⟩
      · have e2 : (if b = a then some u else (T.lookup b).map mkT) = some w := e
        rw [if_neg z] at e2
        cases q : T.lookup b with
        | none => rw [q] at e2; cases e2
        | some q1 =>
          rw [q] at e2
          cases e2
          exact .inr (.inr ⟨q1, rfl, mem q⟩)
    · have ne : p.1 ≠ a := fun z => by
        obtain ⟨ps, h1, _⟩ := tb p hp
        rw [z, hu] at h1
        exact ntb_tbl nt ps (Option.some.inj h1)
      show (if p.1 = a then some u else (T.lookup p.1).map mkT) = _
      rw [if_neg ne, lk nd p hp]; rfl
  rcases hS with (h | ⟨o, h⟩) | h
  · obtain ⟨P, l, e, t⟩ := go _ h rfl
    exact ⟨P, l, .inl (.inl e), t⟩
  · obtain ⟨P, l, e, t⟩ := go _ h rfl
    exact ⟨P, l, .inl (.inr ⟨o, e⟩), t⟩
  · refine ⟨fun b => (T.lookup b).map mkT, fun b w e => ?_, .inr h, fun p hp => by show (T.lookup p.1).map mkT = _; rw [lk nd p hp]; rfl⟩
    cases q : T.lookup b with
    | none =>
      have e2 : (T.lookup b).map mkT = some w := e
      rw [q] at e2; cases e2
    | some q1 =>
      have e2 : (T.lookup b).map mkT = some w := e
      rw [q] at e2
      cases e2
      exact .inr (.inr ⟨q1, rfl, mem q⟩)
def scrD (ns : List Int) : List D := ns.map D.int
theorem scr_rep {K : PySem.W.Frag} {G : Nat → Option (Addr × List Str)} {P : Hp} : ∀ ns : List Int, Reps K G P (scrD ns) (ns.map V.int)
  | [] => .nil
  | n :: ns => .cons (.int n) (scr_rep ns)
theorem law_at {K : PySem.W.Frag} {G : Nat → Option (Addr × List Str)} {xc : Nat → Value} {cf : List Pv.Arg → Sto → Out R} {H : Hp} {a : Addr} {ns : List Int} (hS : SqL K H a (ns.map V.int)) (h : ∃ S, cf [.sh (.ro (scrD ns))] [] = .ok ⟨false, .bl true⟩ S) :
    spF K G xc 1 cf [.ref a] H (fun v _ => v = .bl true) fun _ _ _ => False := by
  obtain ⟨S, h⟩ := h
  obtain ⟨P, le, sq, _⟩ := ground (T := []) hS (fun _ z => nomatch z) List.nodup_nil
  refine ⟨[], P, [], [.sh (.ro (scrD ns))], le, ⟨rfl, List.nodup_nil, fun n d e => by simp at e⟩, .cons (show ArgOk K G [] P (.sh (.ro (scrD ns))) (.ref a) from .ro sq (scr_rep ns)) .nil, rfl, ?_⟩
  show (cf [.sh (.ro (scrD ns))] []).post _ _
  rw [h]
  intro v P' H' st so rr
  cases rr
  rfl
/-! ### the callees -/
theorem callee_mk {P : Program} {w : World} {K : PySem.W.Frag} {mg : Str → Option Value} {base : Heap} {G : Nat → Option (Addr × List Str)} {xc : Nat → Value} {k n : Nat} {nm qual : Str} {params : Arguments} {body : List Stmt} {scope : Scope} {dvs : List V} {kws : List (Str × V)} {f : Addr} {fd : FuncData} {ps : List Str} {cf : List Pv.Arg → Sto → Out R}
    (F : FunD K nm qual params body scope dvs kws f fd) (hm : mg nm = some (.ref f)) (b : Binds K fd ps []) (ok : FnOk P w K mg base (L2.CX P w) k f fd ps (spF K G xc n cf)) : Callee P w K mg base G xc k nm n cf := ⟨f, fd, ps, ok, hm, F.kp, b⟩
theorem no_out {P : Program} {w : World} (H : Hp) (s : Shared) (e : Value) (s' : Shared) : L2.CX P w [] H s (fun _ _ _ => False) e s' → False := fun ⟨_, _, _, _, _, _, _, _, _, _, _, _, z⟩ => z
/-- a law whose defs may raise, over a head by facts -/
theorem walk_P {l : PySem.W.OpenLaw} {n k : Nat} {q : Program} {loose : List Str} {XP : (Str → Option Value) → Heap → Prop} {YP : World → Heap → Prop} {d : DefRec} {x : Str} (hn : l.most = some n) (hn2 : n ≤ sizeLine) (hdf : d.params.defaults = []) (hr : Room k callerA)
    (F : ∀ (w : World) (mg : Str → Option Value) (fa : Addr) (h : Heap), YP w h → h.Ns mainGlobals mg → mg d.name = some (.ref fa) → ∃ (K : PySem.W.Frag) (fd : FuncData) (sp : Sp), K.In h ∧ (∀ (s : Shared) (u : Value), BindsTo s fd ⟨[u], []⟩ [(x, u)]) ∧
      (∀ (H : Hp) (a : Addr) (ns : List Int), ns.length ≤ n → SqL K H a (ns.map V.int) → sp [.ref a] H (fun v _ => v = .bl true) fun _ _ _ => False) ∧ ∀ base : Heap, K.In base → base.Ns mainGlobals mg → FnOk l.prog w K mg base (L2.CX l.prog w) k fa fd [x] sp) :
    PySem.W.WalkO q loose XP YP l.row.toRowW d [] (fun f vs => PySem.call f vs) :=
  Att.attach_call hn hdf fun w s₀ s₁ mg mb fa o pm cd doc a vs ns G Y ho hd hcd hmg hobj hints hlen hg => by
    obtain ⟨K, fd, sp, KX, hb, hsp, hF⟩ := F w mg fa _ Y G.T.g hmg
    exact law_call KX G.T.g G.T.b G.T.builtins G.T.nolimit hg hobj hints (Nat.le_trans hlen hn2) hr hF hb (fun H _ hS => hsp H a ns hlen hS) fun H e s' => no_out H s₁ e s'
end Pv

set_option Elab.async false
set_option linter.all false
set_option maxRecDepth 100000
namespace Pv
open PySem PySem.Spec PyProof.Rows L2

/-! ### the draw -/
def takenS : Sx :=
  seqS (ifS (op2 gtD (subV 0 (con (.int 3))) (con (.int 0))) (seqS (setS 2 (op2 modD (op1 intD (subV 0 (con (.int 3)))) (var 1))) (seqS (storeS 0 (con (.int 3)) (op2 fdivD (subV 0 (con (.int 3))) (var 1))) (retS (var 2)))) skip)
  (seqS (storeS 0 (con (.int 1)) (op2 addD (subV 0 (con (.int 1))) (con (.int 1))))
  (seqS (ifS (op2 gtD (subV 0 (con (.int 1))) (op1 lenD (subV 0 (con (.int 0))))) (seqS (storeS 0 (con (.int 2)) (op2 modD (op1 intD (op2 addD (op2 mulD (subV 0 (con (.int 2))) (con (.int 48271))) (con (.int 11)))) (con (.int 2147483647))))
    (retS (op2 modD (op1 intD (op2 fdivD (subV 0 (con (.int 2))) (con (.int 7)))) (var 1)))) skip)
  (seqS (setS 3 (op2 atD (subV 0 (con (.int 0))) (op2 subD (subV 0 (con (.int 1))) (con (.int 1)))))
  (seqS (storeS 0 (con (.int 2)) (op2 modD (op1 intD (op2 addD (op2 addD (op2 mulD (subV 0 (con (.int 2))) (con (.int 48271))) (var 3)) (con (.int 11)))) (con (.int 2147483647))))
  (seqS (ifS (op2 geD (var 3) (op2 powD (con (.int 10)) (con (.int 18)))) (storeS 0 (con (.int 3)) (op2 fdivD (var 3) (var 1))) skip)
  (retS (op2 modD (b1V intD 3) (var 1))))))))
def rowD (ns : List Int) (a b c : Int) : D := .lst [.ro (scrD ns), .int a, .int b, .int c]
theorem gt_eq (i j : Int) : gtD (.int i) (.int j) = some (bR (decide (j < i))) := rfl
theorem ge_eq (i j : Int) : geD (.int i) (.int j) = some (bR (decide (j ≤ i))) := rfl
theorem mod_eq {i j : Int} (h : j ≠ 0) : modD (.int i) (.int j) = some ⟨false, .int (i.fmod j)⟩ := by show (if j = 0 then none else _) = _; rw [if_neg h]
theorem fdiv_eq {i j : Int} (h : j ≠ 0) (h2 : j.natAbs < 1073741824) : fdivD (.int i) (.int j) = some ⟨false, .int (i.fdiv j)⟩ := by show (if _ then _ else _) = _; rw [if_pos (.inl ⟨h, h2⟩)]
theorem mul_eq {i j : Int} (h : -two64 < j ∧ j < two64) : mulD (.int i) (.int j) = some ⟨false, .int (i * j)⟩ := by show (if _ then _ else _) = _; rw [if_pos (.inl (.inr h))]
theorem out_ok {α β : Type} (a : α) (S : Sto) (f : α → Sto → Out β) : (Out.ok a S).bind f = f a S := rfl
theorem taken_c (ns : List Int) (a b c m : Int) (hc : 0 < c) (hm : m ≠ 0) (hm2 : m.natAbs < 1073741824) : runF takenS 4 [.ref 0, .sh (.int m)] [rowD ns a b c] = .ok ⟨false, .int (c.fmod m)⟩ [rowD ns a b (c.fdiv m)] := by
  have h1 : decide (0 < c) = true := decide_eq_true hc
  simp [runF, takenS, seqS, ifS, setS, storeS, retS, op1, op2, subV, con, var, peek, sget, rowD, atD, atSeq, seqR, atI, ixN, shO, intD, gt_eq, bR, h1, mod_eq hm, fdiv_eq hm hm2, putSlot, putX, Out.bind, Arg.sl]
def nextW (w x : Int) : Int := (w * 48271 + x + 11).fmod 2147483647
theorem taken_end (ns : List Int) (a b c m : Int) (hc : ¬ 0 < c) (ha : (ns.length : Int) < a + 1) (hm : m ≠ 0) (hm2 : m.natAbs < 1073741824) :
    runF takenS 4 [.ref 0, .sh (.int m)] [rowD ns a b c] = .ok ⟨false, .int ((((b * 48271 + 11).fmod 2147483647).fdiv 7).fmod m)⟩ [rowD ns (a + 1) ((b * 48271 + 11).fmod 2147483647) c] := by
  have h1 : decide (0 < c) = false := decide_eq_false hc
  have h2 : decide (((scrD ns).length : Int) < a + 1) = true := decide_eq_true (by unfold scrD; rw [List.length_map]; exact ha)
  have h3 : -two64 < (48271 : Int) ∧ (48271 : Int) < two64 := by decide
  have h4 : (2147483647 : Int) ≠ 0 := by decide
  have h5 : (7 : Int) ≠ 0 ∧ (7 : Int).natAbs < 1073741824 := by decide
  simp [runF, takenS, skip, seqS, ifS, setS, storeS, retS, op1, op2, subV, con, var, peek, sget, rowD, atD, atSeq, seqR, atI, ixN, shO, intD, lenD, addD, gt_eq, bR, h1, h2, mul_eq h3, mod_eq h4, fdiv_eq h5.1 h5.2, mod_eq hm, fdiv_eq hm hm2, putSlot, putX, Out.bind, Arg.sl]
theorem row0 (ns : List Int) (a b c : Int) : atD (rowD ns a b c) (.int 0) = some ⟨false, .ro (scrD ns)⟩ := rfl
theorem row1 (ns : List Int) (a b c : Int) : atD (rowD ns a b c) (.int 1) = some ⟨false, .int a⟩ := rfl
theorem row2 (ns : List Int) (a b c : Int) : atD (rowD ns a b c) (.int 2) = some ⟨false, .int b⟩ := rfl
theorem row3 (ns : List Int) (a b c : Int) : atD (rowD ns a b c) (.int 3) = some ⟨false, .int c⟩ := rfl
theorem put1 (ns : List Int) (a b c v : Int) : putX (rowD ns a b c) (.int 1) (.int v) = some (rowD ns v b c) := rfl
theorem put2 (ns : List Int) (a b c v : Int) : putX (rowD ns a b c) (.int 2) (.int v) = some (rowD ns a v c) := rfl
theorem put3 (ns : List Int) (a b c v : Int) : putX (rowD ns a b c) (.int 3) (.int v) = some (rowD ns a b v) := rfl
theorem at_ro (l : List D) (i : Int) : atD (.ro l) (.int i) = shO (atI l i) := rfl
theorem add_int (i j : Int) : addD (.int i) (.int j) = some ⟨false, .int (i + j)⟩ := rfl
theorem sub_int (i j : Int) : subD (.int i) (.int j) = some ⟨false, .int (i - j)⟩ := rfl
theorem len_ro (l : List D) : lenD (.ro l) = some ⟨false, .int l.length⟩ := rfl
theorem taken_at (ns : List Int) (a b c m x : Int) (hc : ¬ 0 < c) (ha : ¬ (ns.length : Int) < a + 1) (hx : atI (scrD ns) a = some (.int x)) (hm : m ≠ 0) (hm2 : m.natAbs < 1073741824) :
    runF takenS 4 [.ref 0, .sh (.int m)] [rowD ns a b c] = .ok ⟨false, .int (x.fmod m)⟩ [rowD ns (a + 1) (nextW b x) (if 10 ^ 18 ≤ x then x.fdiv m else c)] := by
  have h1 : decide (0 < c) = false := decide_eq_false hc
  have h2 : decide (((scrD ns).length : Int) < a + 1) = false := decide_eq_false (by unfold scrD; rw [List.length_map]; exact ha)
  have h3 : -two64 < (48271 : Int) ∧ (48271 : Int) < two64 := by decide
  have h4 : (2147483647 : Int) ≠ 0 := by decide
  have h6 : a + 1 - 1 = a := by omega
  have hp : powD (.int 10) (.int 18) = some ⟨false, .int 1000000000000000000⟩ := by rfl
  by_cases hg : (1000000000000000000 : Int) ≤ x
  · have h7 : decide ((1000000000000000000 : Int) ≤ x) = true := decide_eq_true hg
    rw [if_pos (show (10 : Int) ^ 18 ≤ x from hg)]
    simp [runF, takenS, skip, seqS, ifS, setS, storeS, retS, op1, op2, b1V, subV, con, var, peek, sget, row0, row1, row2, row3, put1, put2, put3, at_ro, hx, shO, intD, len_ro, add_int, sub_int, gt_eq, ge_eq, bR, h1, h2, h6, h7, hp, mul_eq h3, mod_eq h4, mod_eq hm, fdiv_eq hm hm2, putSlot, Out.bind, Arg.sl, nextW]
  · have h7 : decide ((1000000000000000000 : Int) ≤ x) = false := decide_eq_false hg
    rw [if_neg (show ¬ (10 : Int) ^ 18 ≤ x from hg)]
    simp [runF, takenS, skip, seqS, ifS, setS, storeS, retS, op1, op2, b1V, subV, con, var, peek, sget, row0, row1, row2, row3, put1, put2, put3, at_ro, hx, shO, intD, len_ro, add_int, sub_int, gt_eq, ge_eq, bR, h1, h2, h6, h7, hp, mul_eq h3, mod_eq h4, mod_eq hm, fdiv_eq hm hm2, putSlot, Out.bind, Arg.sl, nextW]
theorem scr_at (ns : List Int) {a : Int} (h0 : 0 ≤ a) (h : a < ns.length) : ∃ x, atI (scrD ns) a = some (.int x) := by
  have hl : (scrD ns).length = ns.length := by unfold scrD; rw [List.length_map]
  have hn : a.toNat < ns.length := by omega
  refine ⟨ns[a.toNat], ?_⟩
  unfold atI ixN
  rw [if_pos h0, if_pos (by rw [hl]; exact h)]
  show (scrD ns)[a.toNat]? = _
  unfold scrD
  rw [List.getElem?_map, List.getElem?_eq_getElem hn]
  rfl
theorem fmod_rng (x : Int) {m : Int} (h : 0 < m) : 0 ≤ x.fmod m ∧ x.fmod m < m := ⟨Int.fmod_nonneg_of_pos x h, Int.fmod_lt_of_pos x h⟩
/-- the row's state -/
structure RowOk (d : D) : Prop where
  ex : ∃ ns a b c, d = rowD ns a b c ∧ 0 ≤ a ∧ 0 ≤ c
/-- a draw: some number below the bound, the row stays one -/
theorem taken_ok {d : D} {m : Int} (r : RowOk d) (hm : 0 < m) (hm2 : m < 1073741824) : ∃ v d', RowOk d' ∧ 0 ≤ v ∧ v < m ∧ runF takenS 4 [.ref 0, .sh (.int m)] [d] = .ok ⟨false, .int v⟩ [d'] := by
  obtain ⟨ns, a, b, c, rfl, ha, hc⟩ := r.ex
  have m0 : m ≠ 0 := by omega
  have m1 : m.natAbs < 1073741824 := by omega
  by_cases h1 : 0 < c
  · exact ⟨_, _, ⟨ns, a, b, _, rfl, ha, Int.fdiv_nonneg (by omega) (by omega)⟩, (fmod_rng _ hm).1, (fmod_rng _ hm).2, taken_c ns a b c m h1 m0 m1⟩
  · by_cases h2 : (ns.length : Int) < a + 1
    · exact ⟨_, _, ⟨ns, a + 1, _, c, rfl, by omega, hc⟩, (fmod_rng _ hm).1, (fmod_rng _ hm).2, taken_end ns a b c m h1 h2 m0 m1⟩
    · obtain ⟨x, hx⟩ := scr_at ns ha (by omega)
      refine ⟨_, _, ⟨ns, a + 1, _, _, rfl, by omega, ?_⟩, (fmod_rng _ hm).1, (fmod_rng _ hm).2, taken_at ns a b c m x h1 h2 hx m0 m1⟩
      split
      · rename_i hg
        exact Int.fdiv_nonneg (Int.le_trans (by decide) hg) (by omega)
      · exact hc
end Pv

set_option Elab.async false
set_option linter.all false
set_option maxRecDepth 100000
namespace Pv
open PySem PySem.Spec PyProof.Rows L2

/-! ### one of some kinds -/
def pickS (i : Nat) (cf : Nat → List Pv.Arg → Sto → Out R) : Sx := retS (subV 1 (callX cf i (aname 0 (aval (b1V lenD 1) anil))))
theorem at_lst (l : List D) (i : Int) : atD (.lst l) (.int i) = shO (atI l i) := rfl
theorem at_tup (l : List D) (i : Int) : atD (.tup l) (.int i) = shO (atI l i) := rfl
theorem atI_nat {l : List D} {v : Int} (h0 : 0 ≤ v) (h : v < l.length) : ∃ x ∈ l, atI l v = some x := by
  have hn : v.toNat < l.length := by omega
  refine ⟨l[v.toNat], List.getElem_mem hn, ?_⟩
  unfold atI ixN
  rw [if_pos h0, if_pos h]
  show l[v.toNat]? = _
  rw [List.getElem?_eq_getElem hn]
theorem pick_ok {i : Nat} {cf : Nat → List Pv.Arg → Sto → Out R} (hc : cf i = runF takenS 4) {d : D} {l : List D} (r : RowOk d) (h0 : 0 < l.length) (h1 : l.length < 1000) : ∃ x ∈ l, ∃ d', RowOk d' ∧ runF (pickS i cf) 2 [.ref 0, .sh (.lst l)] [d] = .ok ⟨false, x⟩ [d'] := by
  obtain ⟨v, d', r', v0, v1, e⟩ := taken_ok (m := l.length) r (by omega) (by omega)
  obtain ⟨x, hx, ex⟩ := atI_nat (l := l) v0 v1
  refine ⟨x, hx, d', r', ?_⟩
  have hl : lenD (.lst l) = some ⟨false, .int l.length⟩ := rfl
  rw [← hc] at e
  unfold runF
  simp [pickS, retS, subV, callX, aname, aval, anil, b1V, peek, sget, hl, e, Out.bind, Arg.sl, at_lst, ex, shO]
/-! ### a comprehension whose turns each give a number -/
theorem comp_ints {tg : Tx} {t e : Ex} {env : SEnv} (Q : Int → Prop) (turn : ∀ (d : D) (row : D), RowOk row → ∃ env1 v row', tg env d = some env1 ∧ t env1 [row] = .ok ⟨false, .bl true⟩ [row] ∧ e env1 [row] = .ok ⟨false, .int v⟩ [row'] ∧ Q v ∧ RowOk row') :
    ∀ (ds : List D) (row : D), RowOk row → ∃ (xs : List Int) (row' : D), compL tg t e env ds [row] = .ok (xs.map D.int) [row'] ∧ xs.length = ds.length ∧ (∀ x ∈ xs, Q x) ∧ RowOk row'
  | [], row, r => ⟨[], row, rfl, rfl, (fun x h => nomatch h), r⟩
  | d :: ds, row, r => by
    obtain ⟨env1, v, row', h1, h2, h3, h4, h5⟩ := turn d row r
    obtain ⟨xs, row2, g1, g2, g3, g4⟩ := comp_ints Q turn ds row' h5
    refine ⟨v :: xs, row2, ?_, congrArg (· + 1) g2, fun x hx => ?_, g4⟩
    · unfold compL
      rw [h1]
      simp only [h2, nox, Out.bind, h3, g1]
      rfl
    · rcases List.mem_cons.mp hx with q | q
      · rw [q]; exact h4
      · exact g3 x q
end Pv

set_option Elab.async false
set_option linter.all false
set_option maxRecDepth 100000
namespace Pv
open PySem PySem.Spec PyProof.Rows L2

/-! ### the law's own comparison -/
def alikeS (i : Nat) (cf : Nat → List Pv.Arg → Sto → Out R) : Sx :=
    (seqS (ifS (isIX ["tuple", "list"] (var 1)) (seqS (ifS (orX (notX (isIX ["tuple", "list"] (var 0))) (op2 neD (isIX ["list"] (var 0)) (isIX ["list"] (var 1)))) (retS (con (.bl false))) skip)
    (seqS (ifS (op2 neD (b1V lenD 0) (b1V lenD 1)) (retS (con (.bl false))) skip)
    (retS (op2 eqD (compX [2] (tName 2) (iRg1 (lcons (b1V lenD 1) lnil)) (notX (callX cf i (aval (subV 0 (var 2)) (aval (subV 1 (var 2)) anil)))) (var 2)) (lstX lnil))))) skip)
    (seqS (ifS (orX (op2 isND (var 1) (con .non)) (isIX ["str"] (var 1))) (retS (andX (op2 eqD (var 0) (var 1)) (op2 eqD (isIX ["str"] (var 0)) (isIX ["str"] (var 1))))) skip)
    (retS (andX (isIX ["int"] (var 0)) (andX (op2 eqD (isIX ["bool"] (var 0)) (isIX ["bool"] (var 1))) (op2 eqD (var 0) (var 1)))))))
theorem comp_none {tg : Tx} {t e : Ex} {env : SEnv} {S : Sto} : ∀ ds : List D, (∀ d ∈ ds, ∃ env1, tg env d = some env1 ∧ t env1 S = .ok ⟨false, .bl false⟩ S) → compL tg t e env ds S = .ok [] S
  | [], _ => rfl
  | d :: ds, h => by
    obtain ⟨env1, h1, h2⟩ := h d (List.mem_cons_self ..)
    unfold compL
    rw [h1]
    simp only [h2, nox, Out.bind]
    exact comp_none ds fun x hx => h x (List.mem_cons_of_mem _ hx)
theorem alike_int {i : Nat} {cf : Nat → List Pv.Arg → Sto → Out R} {S : Sto} (x y : Int) : runF (alikeS i cf) 3 [.sh (.int x), .sh (.int y)] S = .ok ⟨false, .bl (decide (x = y))⟩ S := by
  rfl
abbrev tt' : R := ⟨false, .bl true⟩
abbrev ff' : R := ⟨false, .bl false⟩
section
variable {a b : Sx} {x y t : Ex} {env env1 : SEnv} {S S1 S2 : Sto} {o : Out Fl} {r r1 : R} {q : Out R} {i m : Nat} {f : D → D → Option R} {g : D → Option R} {as : List Arg} {d : D}
theorem s_nx (h : a env S = .ok (.nx env1) S1) (h2 : b env1 S1 = o) : seqS a b env S = o := by unfold seqS; rw [h]; exact h2
theorem s_ret (h : a env S = .ok (.ret r) S1) : seqS a b env S = .ok (.ret r) S1 := by unfold seqS; rw [h]; rfl
theorem i_t (h : t env S = .ok tt' S1) (h2 : a env S1 = o) : ifS t a b env S = o := by unfold ifS; rw [h]; exact h2
theorem i_f (h : t env S = .ok ff' S1) (h2 : b env S1 = o) : ifS t a b env S = o := by unfold ifS; rw [h]; exact h2
theorem e_set (h : x env S = .ok r S1) : setS i x env S = .ok (.nx (env.set i (.sh r.d))) S1 := by unfold setS; rw [h]; rfl
theorem e_ret (h : x env S = .ok r S1) : retS x env S = .ok (.ret r) S1 := by unfold retS; rw [h]; rfl
theorem e_ex (h : x env S = .ok r S1) : exS x env S = .ok (.nx env) S1 := by unfold exS; rw [h]; rfl
theorem or_t (h : x env S = .ok tt' S1) : orX x y env S = .ok tt' S1 := by unfold orX; rw [h]; rfl
theorem or_f (h : x env S = .ok ff' S1) (h2 : y env S1 = q) : orX x y env S = q := by unfold orX; rw [h]; exact h2
theorem and_t (h : x env S = .ok tt' S1) (h2 : y env S1 = q) : andX x y env S = q := by unfold andX; rw [h]; exact h2
theorem and_f (h : x env S = .ok ff' S1) : andX x y env S = .ok ff' S1 := by unfold andX; rw [h]; rfl
theorem not_t (h : x env S = .ok tt' S1) : notX x env S = .ok ff' S1 := by unfold notX; rw [h]; rfl
theorem not_f (h : x env S = .ok ff' S1) : notX x env S = .ok tt' S1 := by unfold notX; rw [h]; rfl
theorem e_2 (h : x env S = .ok r S1) (h2 : y env S1 = .ok r1 S2) (e : f r.d r1.d = some rr) : op2 f x y env S = .ok rr S2 := by
  unfold op2; rw [h]; simp only [Out.bind, h2, e]
theorem e_1 (h : x env S = .ok r S1) (e : g r.d = some r1) : op1 g x env S = .ok r1 S1 := by
  unfold op1; rw [h]; simp only [Out.bind, e]
theorem f_ret (h : a (as.map Arg.sl ++ List.replicate (m - as.length) .un) S = .ok (.ret r) S1) : runF a m as S = .ok r S1 := by unfold runF; rw [h]; rfl
theorem f_nx (h : a (as.map Arg.sl ++ List.replicate (m - as.length) .un) S = .ok (.nx env) S1) : runF a m as S = .ok ⟨false, .non⟩ S1 := by unfold runF; rw [h]; rfl
end
theorem ne_int (x y : Int) : neD (.int x) (.int y) = some (bR (!decide (x = y))) := rfl
theorem len_tup (l : List D) : lenD (.tup l) = some ⟨false, .int l.length⟩ := rfl
theorem alike_tups {i : Nat} {cf : Nat → List Pv.Arg → Sto → Out R} {S : Sto} (l m : List D) (hn : l.length < 1000) (hl : m.length = l.length)
    (h : ∀ k, k < l.length → ∃ x y, l[k]? = some x ∧ m[k]? = some y ∧ cf i [.sh x, .sh y] S = .ok ⟨false, .bl true⟩ S) : runF (alikeS i cf) 3 [.sh (.tup l), .sh (.tup m)] S = .ok ⟨false, .bl true⟩ S := by
  have h4 : op2 neD (b1V lenD 0) (b1V lenD 1) [.sh (.tup l), .sh (.tup m), .un] S = .ok ⟨false, .bl false⟩ S := by
    simp [op2, b1V, peek, sget, len_tup, ne_int, Out.bind, hl, bR]
  have h5 : compX [2] (tName 2) (iRg1 (lcons (b1V lenD 1) lnil)) (notX (callX cf i (aval (subV 0 (var 2)) (aval (subV 1 (var 2)) anil)))) (var 2) [.sh (.tup l), .sh (.tup m), .un] S = .ok ⟨true, .lst []⟩ S := by
    have hw : (-line : Int) ≤ (m.length : Int) ∧ (m.length : Int) ≤ line := by rw [hl]; unfold line; omega
    have e : iRg1 (lcons (b1V lenD 1) lnil) [.sh (.tup l), .sh (.tup m), .un] S = .ok ((List.range m.length).map fun (i : Nat) => D.int i) S := by
      simp [iRg1, lcons, lnil, b1V, peek, sget, len_tup, Out.bind, hw]
    unfold compX
    rw [e]
    show (if _ then _ else _) = _
    rw [if_pos (by rw [List.length_map, List.length_range, hl]; unfold line; omega)]
    rw [comp_none _ fun d hd => ?_]
    · rfl
    · obtain ⟨k, hk, rfl⟩ := List.mem_map.mp hd
      obtain ⟨x, y, g1, g2, g3⟩ := h k (by rw [List.mem_range] at hk; omega)
      refine ⟨_, rfl, ?_⟩
      have hk' : (k : Int) < l.length := by rw [List.mem_range] at hk; omega
      have a1 : atI l (k : Int) = some x := by unfold atI ixN; rw [if_pos (by omega), if_pos hk']; exact g1
      have a2 : atI m (k : Int) = some y := by unfold atI ixN; rw [if_pos (by omega), if_pos (by omega)]; exact g2
      simp [notX, callX, aval, anil, subV, peek, sget, clr, var, at_tup, a1, a2, shO, Out.bind, g3]
  exact f_ret (s_ret (i_t (S1 := S) rfl (s_nx (i_f (or_f (S1 := S) rfl rfl) rfl) (s_nx (i_f h4 rfl) (e_ret (e_2 h5 rfl rfl))))))
end Pv

set_option Elab.async false
set_option linter.all false
set_option maxRecDepth 100000
namespace Pv
open PySem PySem.Spec PyProof.Rows L2
theorem for_inv {tg : Tx} {b : Sx} {S : Sto} (I : SEnv → Prop) : ∀ (ds : List D), (∀ d ∈ ds, ∀ env, I env → ∃ env1 env2, tg env d = some env1 ∧ b env1 S = .ok (.nx env2) S ∧ I env2) → ∀ env, I env → ∃ env', I env' ∧ forL tg b ds env S = .ok (.nx env') S
  | [], _, env, i => ⟨env, i, rfl⟩
  | d :: ds, h, env, i => by
    obtain ⟨env1, env2, h1, h2, h3⟩ := h d (List.mem_cons_self ..) env i
    obtain ⟨env', h4, h5⟩ := for_inv I ds (fun x hx => h x (List.mem_cons_of_mem _ hx)) env2 h3
    refine ⟨env', h4, ?_⟩
    unfold forL
    rw [h1]
    simp only [h2, Out.bind]
    exact h5
def nD (xs : List Int) : D := .tup (xs.map D.int)
theorem atI_ints {xs : List Int} {k : Nat} (h : k < xs.length) : atI (xs.map D.int) (k : Int) = some (.int xs[k]) := by
  unfold atI ixN
  rw [if_pos (by omega), if_pos (by rw [List.length_map]; omega)]
  show (xs.map D.int)[k]? = _
  rw [List.getElem?_map, List.getElem?_eq_getElem h]
  rfl
theorem flat_ints : ∀ xs : List Int, flatL (xs.map D.int) = true
  | [] => rfl
  | x :: xs => by show (true && flatL (xs.map D.int)) = true; rw [flat_ints xs]; rfl
theorem lay_ints : ∀ xs : List Int, PyData.canLayAll0 (pyL (xs.map D.int)) = true
  | [] => rfl
  | x :: xs => by show (true && PyData.canLayAll0 (pyL (xs.map D.int))) = true; rw [lay_ints xs]; rfl
theorem deep_ints : ∀ xs : List Int, PyData.depthAll (pyL (xs.map D.int)) ≤ 1
  | [] => by show 0 ≤ 1; omega
  | x :: xs => by
    have := deep_ints xs
    show max (PyData.depth (.int x)) (PyData.depthAll (pyL (xs.map D.int))) ≤ 1
    have e : PyData.depth (.int x) ≤ 1 := by first | exact Nat.le_refl 1 | exact Nat.zero_le _
    omega
theorem eqv_ints : ∀ xs : List Int, PyData.eqvAll (pyL (xs.map D.int)) (pyL (xs.map D.int)) = true
  | [] => rfl
  | x :: xs => by show ((x == x) && PyData.eqvAll (pyL (xs.map D.int)) (pyL (xs.map D.int))) = true; rw [eqv_ints xs]; simp
theorem ok_nD (xs : List Int) : okD (nD xs) = true := by
  show (flatL (xs.map D.int) && (PyData.canLayAll0 (pyL (xs.map D.int)) && decide (PyData.depth (.tuple (pyL (xs.map D.int))) ≤ 64))) = true
  rw [flat_ints, lay_ints]
  have := deep_ints xs
  have e : PyData.depth (.tuple (pyL (xs.map D.int))) ≤ 64 := by rw [PyData.depth]; omega
  rw [decide_eq_true e]; rfl
theorem ne_nD (xs : List Int) : neD (nD xs) (nD xs) = some ff' := by
  unfold neD
  rw [ok_nD]
  show some (bR (!PyData.eqvAll (pyL (xs.map D.int)) (pyL (xs.map D.int)))) = _
  rw [eqv_ints]; rfl
theorem alike_nD {i : Nat} {cf cf2 : Nat → List Pv.Arg → Sto → Out R} {S : Sto} (hc : cf i = runF (alikeS i cf2) 3) (xs : List Int) (hn : xs.length < 1000) : runF (alikeS i cf) 3 [.sh (nD xs), .sh (nD xs)] S = .ok tt' S :=
  alike_tups _ _ (by rw [List.length_map]; exact hn) rfl fun k hk => by
    rw [List.length_map] at hk
    have e : (xs.map D.int)[k]? = some (.int xs[k]) := by rw [List.getElem?_map, List.getElem?_eq_getElem hk]; rfl
    refine ⟨_, _, e, e, ?_⟩
    rw [hc, alike_int]
    rw [decide_eq_true rfl]
theorem gt_abs {x n : Int} (h : -n ≤ x ∧ x ≤ n) : (gtD (.int (if x < 0 then -x else x)) (.int n)) = some ff' := by
  rw [gt_eq]
  have : decide (n < if x < 0 then -x else x) = false := by
    apply decide_eq_false
    split <;> omega
  rw [this]; rfl
end Pv

set_option Elab.async false
set_option linter.all false
set_option maxRecDepth 100000
namespace Pv
open PySem PySem.Spec PyProof.Rows L2
section
variable {x : Ex} {env : SEnv} {S S1 S2 : Sto} {q : Out R} {i : Nat} {as : List Arg} {l : Ax} {r : R} {cf : Nat → List Arg → Sto → Out R}
theorem x_call (h : l env S = .ok as S1) (h2 : cf i as S1 = q) : callX cf i l env S = q := by unfold callX; rw [h]; exact h2
theorem a_val (h : x env S = .ok r S1) (h2 : l env S1 = .ok as S2) : aval x l env S = .ok (.sh r.d :: as) S2 := by unfold aval; rw [h]; simp only [Out.bind, h2]
theorem e_for {tg : Tx} {it : Ix} {b : Sx} {ds : List D} {o : Out Fl} (h : it env S = .ok ds S1) (h2 : forL tg b ds env S1 = o) : forS tg it b env S = o := by unfold forS; rw [h]; exact h2
end
end Pv

set_option Elab.async false
set_option linter.all false
set_option maxRecDepth 100000
namespace Pv
open PySem PySem.Spec PyProof.Rows L2
section
variable {x y t e : Ex} {env env1 env2 env3 : SEnv} {S S1 S2 S3 : Sto} {q : Out R} {i j : Nat} {as : List Arg} {l : Ax} {r r1 r2 : R} {f g : Bool} {tg : Tx} {it : Ix} {vs : List Nat} {d : D} {ds out : List D} {b : Sx} {o : Out Fl} {n : Nat}
theorem e_par2 (h : x env S = .ok r S1) (h2 : y env S1 = .ok r1 S2) (e1 : setR i f r env = some env1) (e2 : setR j g r1 env1 = some env2) : par2 i f j g x y env S = .ok (.nx env2) S2 := by
  unfold par2; rw [h]; simp only [Out.bind, h2, e1, e2]
theorem a_ref (h : sget env i = .ref n) (h2 : l env S = .ok as S2) : aname i l env S = .ok (.ref n :: as) S2 := by unfold aname; rw [h]; simp only [h2, Out.bind]
theorem a_sh (h : sget env i = .sh d) (h2 : l env S = .ok as S2) : aname i l env S = .ok (.sh d :: as) S2 := by unfold aname; rw [h]; simp only [h2, Out.bind]
theorem e_comp (h : it env S = .ok ds S1) (hl : ds.length ≤ line) (h2 : compL tg t e (clr env vs) ds S1 = .ok out S2) : compX vs tg it t e env S = .ok ⟨true, .lst out⟩ S2 := by
  unfold compX; rw [h]; simp only [Out.bind, hl, if_true, h2]
theorem f_cons (h : tg env d = some env1) (h2 : b env1 S = .ok (.nx env2) S1) (h3 : forL tg b ds env2 S1 = o) : forL tg b (d :: ds) env S = o := by
  unfold forL; rw [h]; simp only [h2, Out.bind]; exact h3
theorem f_nil : forL tg b [] env S = .ok (.nx env) S := rfl
theorem e_cell (h : x env S = .ok ⟨true, d⟩ S1) (hc : calmE env = true) (h2 : b (env.set i (.ref S1.length)) (S1 ++ [d]) = .ok (.ret r) S2) : cellS i x b env S = .ok (.ret r) (S2.take S1.length) := by
  unfold cellS; rw [h]; simp only [Out.bind, hc, h2, nox]; rfl
theorem e_store {k : Ex} {d0 : D} (h : e env S = .ok r S1) (hp : peek env S1 i = some d0) (h2 : k env S1 = .ok r1 S2) (h3 : putSlot i r1.d r.d env S2 = o) : storeS i k e env S = o := by
  unfold storeS; rw [h]; simp only [Out.bind, hp, h2]; exact h3
end
theorem eq_i (i j : Int) : eqD (.int i) (.int j) = some (bR (decide (i = j))) := rfl
theorem ne_same {x y : Int} (h : x = y) : neD (.int x) (.int y) = some ff' := by subst h; show some (bR (!decide (x = x))) = _; rw [decide_eq_true rfl]; rfl
/-- one of some ints -/
theorem pick_in {i : Nat} {cf : Nat → List Pv.Arg → Sto → Out R} (hc : cf i = runF takenS 4) {d : D} {l : List D} (P : D → Prop) (r : RowOk d) (h0 : 0 < l.length) (h1 : l.length < 1000) (hP : ∀ x ∈ l, P x) : ∃ x, P x ∧ x ∈ l ∧ ∃ d', RowOk d' ∧ runF (pickS i cf) 2 [.ref 0, .sh (.lst l)] [d] = .ok ⟨false, x⟩ [d'] := by
  obtain ⟨x, hx, d', r', e⟩ := pick_ok hc r h0 h1
  exact ⟨x, hP x hx, hx, d', r', e⟩
theorem row_new (ns : List Int) (b : Int) : RowOk (.lst [.ro (scrD ns), .int 0, .int b, .int 0]) := ⟨ns, 0, b, 0, rfl, by omega, by omega⟩
end Pv

set_option Elab.async false
set_option linter.all false
/-! ratios: pairs of ints, the second one above 0 -/
namespace Ra
def canon (t l : Int) : Int × Int := (t / (Int.gcd t l : Int), l / (Int.gcd t l : Int))
theorem gcd_step {a b : Int} : Int.gcd b (a % b) = Int.gcd a b := by
  rw [Int.emod_def, Int.gcd_comm a b, Int.gcd_sub_mul_left_right]
theorem gpos {t l : Int} (h : 0 < l) : (0 : Int) < Int.gcd t l := by
  have := Int.gcd_pos_of_ne_zero_right t (b := l) (by omega)
  omega
theorem canon_scale {a b k : Int} (hk : 0 < k) : canon (k * a) (k * b) = canon a b := by
  unfold canon
  have e : (Int.gcd (k * a) (k * b) : Int) = k * Int.gcd a b := by
    rw [Int.gcd_mul_left, Int.natCast_mul, Int.natAbs_of_nonneg (by omega)]
  rw [e, Int.mul_ediv_mul_of_pos _ _ hk, Int.mul_ediv_mul_of_pos _ _ hk]
/-- equal ratios -/
def E (x y : Int × Int) : Prop := x.1 * y.2 = y.1 * x.2
theorem canon_eq {x y : Int × Int} (hx : 0 < x.2) (hy : 0 < y.2) (h : E x y) : canon x.1 x.2 = canon y.1 y.2 := by
  have h1 : y.2 * x.1 = x.2 * y.1 := by rw [Int.mul_comm, h, Int.mul_comm]
  rw [← canon_scale (a := x.1) (b := x.2) hy, h1, Int.mul_comm y.2 x.2, canon_scale hx]
theorem canon_mul {t l : Int} (h : 0 < l) : ∃ g : Int, 0 < g ∧ t = g * (canon t l).1 ∧ l = g * (canon t l).2 :=
  ⟨Int.gcd t l, gpos h, (Int.mul_ediv_cancel' (Int.gcd_dvd_left t l)).symm, (Int.mul_ediv_cancel' (Int.gcd_dvd_right t l)).symm⟩
theorem canon_pos {t l : Int} (h : 0 < l) : 0 < (canon t l).2 := by
  obtain ⟨g, g0, _, e⟩ := canon_mul (t := t) h
  rw [e] at h
  exact Int.pos_of_mul_pos_right h g0
where
  Int.pos_of_mul_pos_right {a b : Int} (h : 0 < a * b) (ha : 0 < a) : 0 < b := by
    rcases Int.lt_or_le 0 b with q | q
    · exact q
    · have := Int.mul_nonpos_of_nonneg_of_nonpos (Int.le_of_lt ha) q
      omega
theorem canon_E {t l : Int} (h : 0 < l) : E (canon t l) (t, l) := by
  obtain ⟨g, g0, e1, e2⟩ := canon_mul (t := t) h
  show (canon t l).1 * l = t * (canon t l).2
  generalize canon t l = p at e1 e2
  rw [e1, e2]; grind
theorem canon_gcd {t l : Int} (h : 0 < l) : Int.gcd (canon t l).1 (canon t l).2 = 1 := Int.gcd_ediv_gcd_ediv_gcd (Int.gcd_pos_of_ne_zero_right t (by omega))
theorem canon_self {a b : Int} (h : Int.gcd a b = 1) : canon a b = (a, b) := by
  unfold canon
  rw [h]; simp
theorem canon_le {t l : Int} (h : 0 < l) : (canon t l).1.natAbs ≤ t.natAbs ∧ (canon t l).2.natAbs ≤ l.natAbs := by
  obtain ⟨g, g0, e1, e2⟩ := canon_mul (t := t) h
  generalize canon t l = p at e1 e2
  have q : ∀ x : Int, x.natAbs ≤ (g * x).natAbs := fun x => by
    rw [Int.natAbs_mul]
    exact Nat.le_mul_of_pos_left _ (by omega)
  constructor
  · rw [e1]; exact q _
  · rw [e2]; exact q _
def addP (x y : Int × Int) : Int × Int := (x.1 * y.2 + y.1 * x.2, x.2 * y.2)
def sumP (ps : List (Int × Int)) : Int × Int := ps.foldl addP (0, 1)
def canonP (x : Int × Int) : Int × Int := canon x.1 x.2
theorem E.refl (x : Int × Int) : E x x := rfl
theorem E.symm {x y : Int × Int} (h : E x y) : E y x := Eq.symm h
theorem E.trans {x y z : Int × Int} (hy : 0 < y.2) (h : E x y) (g : E y z) : E x z := by
  unfold E at *
  have : y.2 * (x.1 * z.2) = y.2 * (z.1 * x.2) := by grind
  exact Int.eq_of_mul_eq_mul_left (by omega) this
theorem addP_E {x x' y y' : Int × Int} (h : E x x') (g : E y y') : E (addP x y) (addP x' y') := by
  unfold E addP at *
  grind
theorem foldl_E : ∀ {ps qs : List (Int × Int)} {x y : Int × Int}, ps.length = qs.length → (∀ (i : Nat) (p q : Int × Int), ps[i]? = some p → qs[i]? = some q → E p q) → E x y → E (ps.foldl addP x) (qs.foldl addP y)
  | [], [], _, _, _, _, h => h
  | [], _ :: _, _, _, hl, _, _ => by simp at hl
  | _ :: _, [], _, _, hl, _, _ => by simp at hl
  | p :: ps, q :: qs, x, y, hl, hp, h => by
    rw [List.foldl_cons, List.foldl_cons]
    exact foldl_E (by simpa using hl) (fun i a b ha hb => hp (i + 1) a b (by simpa using ha) (by simpa using hb)) (addP_E h (hp 0 p q rfl rfl))
theorem foldl_pos : ∀ {ps : List (Int × Int)} {x : Int × Int}, (∀ p ∈ ps, 0 < p.2) → 0 < x.2 → 0 < (ps.foldl addP x).2
  | [], _, _, h => h
  | p :: ps, x, hp, h => by
    rw [List.foldl_cons]
    exact foldl_pos (fun q hq => hp q (List.mem_cons_of_mem _ hq)) (Int.mul_pos h (hp p List.mem_cons_self))
/-- the same low ones: tops add -/
theorem foldl_add : ∀ {ns ms ds : List Int} {x y : Int × Int}, ns.length = ds.length → ms.length = ds.length → x.2 = y.2 →
    ((List.zipWith (fun (n : Int × Int) d => (n.1 + n.2, d)) (ns.zip ms) ds).foldl addP (x.1 + y.1, x.2)) = (((ns.zip ds).foldl addP x).1 + ((ms.zip ds).foldl addP y).1, ((ns.zip ds).foldl addP x).2) ∧ ((ns.zip ds).foldl addP x).2 = ((ms.zip ds).foldl addP y).2
  | [], [], [], x, y, _, _, h => ⟨rfl, h⟩
  | n :: ns, m :: ms, d :: ds, x, y, h1, h2, h => by
    simp only [List.zip_cons_cons, List.zipWith_cons_cons, List.foldl_cons]
    have := foldl_add (ns := ns) (ms := ms) (ds := ds) (x := addP x (n, d)) (y := addP y (m, d)) (by simpa using h1) (by simpa using h2) (by simp [addP, h])
    refine ⟨?_, this.2⟩
    rw [← this.1]
    congr 1
    simp only [addP, h]
    congr 1
    grind
  | [], _ :: _, _, _, _, h1, h2, _ => by simp at h1 h2; omega
  | _ :: _, [], _, _, _, h1, h2, _ => by simp at h1 h2; omega
  | [], [], _ :: _, _, _, h1, _, _ => by simp at h1
  | _ :: _, _ :: _, [], _, _, h1, _, _ => by simp at h1
end Ra

set_option Elab.async false
set_option linter.all false
set_option maxRecDepth 100000
namespace Pv
open PySem PySem.Spec PyProof.Rows L2

section
variable {X : Cx} {c : Cc} {P H P1 H1 : Hp} {env : SEnv} {σ : L2.St} {S S1 : Sto} {x y z : Ex} {pos : Pos} {e e1 e2 tgt : Expr} {nm : Str}
/-! ### a, b = e -/
def unpS (is : List Nat) (x : Ex) : Sx := fun env S => (x env S).bind fun r S => match tupOf r.d with
  | some ds => (match setAll is ds env with
    | some env' => .ok (.nx env') S
    | none => .bad)
  | none => .bad
theorem sx_unp {is : List Nat} {es : List Expr} {k : Nat} {q : Pos} (hK : X.K = c.K) (hc : X.calm = true) (he : PE X e (TEx c x)) (hg : PGs X es (gNames is)) (hn : (assignEach es X.env).length = is.length) (hst : (assignEach es X.env).findIdx? (·.1) = none)
    (hs : swapsWithSole [.Tuple es k q] e pos.line X.env = pure false) (hw : swappedStores [.Tuple es k q] e X.env = pure none) (h1 : (assignEach [.Tuple es k q] X.env).map (·.2) = [assign (.Tuple es k q) X.env]) :
    PS X (.Assign [.Tuple es k q] e pos) (TSx c (unpS is x)) :=
  ps_imp (ps_asg he (pg_tup hc hg hn hst) hs hw h1) fun D σ H ⟨P, env, S, s, h⟩ => te_in s h fun r S1 v P1 H1 st1 s1 rp h1 => by
    cases q : tupOf r.d with
    | none => simp only [q] at h1; exact h1.elim
    | some ds =>
      simp only [q] at h1
      cases q2 : setAll is ds env with
      | none => simp only [q2] at h1; exact h1.elim
      | some env' =>
        simp only [q2] at h1
        obtain ⟨a, xs, rfl, sq, rx⟩ := tupOf_rep q rp s1.le
        exact ⟨a, xs, rfl, by rw [hK]; exact sq, by rw [← rx.length, setAll_len q2], setAll_ok s1 rx q2 fun σ' s' _ => h1 P1 H1 σ' st1.pp s'⟩
/-! ### a list of one's own grows -/
def updSlot (i : Nat) (g : D → Option D) (env : SEnv) (S : Sto) : Out Fl := match sget env i with
  | .own d => (match g d with
    | some d' => .ok (.nx (env.set i (.own d'))) S
    | none => .bad)
  | .ref n => (match S[n]? with
    | some d => (match g d with
      | some d' => .ok (.nx env) (S.set n d')
      | none => .bad)
    | none => .bad)
  | _ => .bad
theorem upd_ok {i : Nat} {g : D → Option D} {o : V} {D0 : Ends} {W : V → (Hp → Prop) → Prop} (s : Stt c P H env σ S) (eo : σ[i]? = some (some o)) (h : (updSlot i g env S).post (QF c P D0) (XP c c.P0 c.H0))
    (hg : ∀ d d' a, Root c.K c.G P H d a → g d = some d' → ∃ u, Root c.K c.G P (upd H a u) d' a ∧ ∀ Q : Hp → Prop, Q (upd H a u) → W (.ref a) Q) : W o fun H' => D0.nx σ H' := by
  unfold updSlot at h
  have sl := s.sl i
  cases q : sget env i with
  | own d =>
    rw [q] at h sl
    obtain ⟨a, e, hp, h0, r⟩ := sl
    rw [eo] at e; cases e
    dsimp only at h
    cases q2 : g d with
    | none => rw [q2] at h; exact h.elim
    | some d' =>
      rw [q2] at h
      obtain ⟨u, r2, w⟩ := hg _ _ _ r q2
      obtain ⟨u0, hu0, _⟩ := r.there
      exact w _ (h P _ σ (Same.refl P) (s.wrOwn q eo r.plain hp h0 r2))
  | ref n =>
    rw [q] at h sl
    obtain ⟨a, e, hr⟩ := sl
    rw [eo] at e; cases e
    dsimp only at h
    cases q1 : S[n]? with
    | none => rw [q1] at h; exact h.elim
    | some d =>
      rw [q1] at h
      dsimp only at h
      cases q2 : g d with
      | none => rw [q2] at h; exact h.elim
      | some d' =>
        rw [q2] at h
        obtain ⟨b, hb, pb, r⟩ := s.so.at_ n d q1
        rw [hr] at hb; cases hb
        obtain ⟨u, r2, w⟩ := hg _ _ _ r q2
        exact w _ (h P _ σ (Same.refl P) (s.wrRef hr (List.getElem?_eq_some_iff.mp q1).1 r2))
  | _ => rw [q] at h; exact h.elim
def appD (v : D) (d : D) : Option D := match d with
  | .lst l => if l.length < line then some (.lst (l ++ [v])) else none
  | _ => none
def extD (v : D) (d : D) : Option D := match d, v with
  | .lst l, .lst m => if l.length + m.length ≤ line then some (.lst (l ++ m)) else none
  | _, _ => none
def mutS (i : Nat) (g : D → D → Option D) (x : Ex) : Sx := fun env S => match peek env S i with
  | some (.lst _) => (x env S).bind fun v S => updSlot i (g v.d) env S
  | _ => .bad
theorem slot_lst {i : Nat} {l : List D} (s : Stt c P H env σ S) (h : peek env S i = some (.lst l)) : ∃ a xs, σ[i]? = some (some (.ref a)) ∧ SqL c.K H a xs := by
  obtain ⟨o, eo, r⟩ := s.slot h
  cases r with
  | rep rd =>
    cases rd with
    | lst h1 _ => exact ⟨_, _, eo, .inl (.inl (s.le.lst h1))⟩
  | lst h1 _ => exact ⟨_, _, eo, .inl h1⟩
theorem mut_top {i : Nat} {g : D → D → Option D} {r : V → List V → Hp → VK → Prop} (hK : X.K = c.K)
    (hg : ∀ {P H : Hp} {v d d' : D} {y : V} {a : Addr}, Le P H → Rep c.K c.G P v y → Root c.K c.G P H d a → g v d = some d' → ∃ u, Root c.K c.G P (upd H a u) d' a ∧ ∀ Q : VK, Q .non (upd H a u) → r (.ref a) [y] H Q) :
    ∀ D σ H, TSx c (mutS i g x) D σ H → tBM X.K "list" r (tVar i) (tCons (TEx c x) tNil) σ H (fun _ H' => D.nx σ H') := fun D σ H ⟨P, env, S, s, h⟩ => by
  unfold mutS at h
  cases q : peek env S i with
  | none => rw [q] at h; exact h.elim
  | some d0 =>
    rw [q] at h
    cases d0 with
    | lst l =>
      obtain ⟨a, xs, ea, sq⟩ := slot_lst s q
      refine ⟨_, ea, .inl ⟨rfl, xs, by rw [hK]; exact sq⟩, ?_⟩
      refine te_in s h fun r1 S1 v P1 H1 st1 s1 rp h1 => ?_
      exact upd_ok (W := fun o Q => r o [v] H1 fun _ H' => Q H') s1 ea (post_mono h1 (fun fl S3 q3 => q3.step st1.pp) fun _ _ _ q => q) fun d d' a rt e => by
        obtain ⟨u, r2, w⟩ := hg s1.le rp rt e
        exact ⟨u, r2, fun Q q => w _ q⟩
    | _ => exact h.elim
theorem app_root {P H : Hp} {v d d' : D} {y : V} {a : Addr} (le : Le P H) (rv : Rep c.K c.G P v y) (r : Root c.K c.G P H d a) (e : appD v d = some d') : ∃ u, Root c.K c.G P (upd H a u) d' a ∧ ∀ Q : VK, Q .non (upd H a u) → rAppend (.ref a) [y] H Q := by
  cases r with
  | lst h r =>
    unfold appD at e
    dsimp only at e
    split at e
    · rename_i hl
      cases e
      exact ⟨_, .lst upd_same (r.append (.cons rv .nil)), fun Q q => ⟨a, _, y, rfl, rfl, h, by rw [← r.length, ← line_eq]; exact hl, q⟩⟩
    · cases e
  | _ => cases e
theorem ext_root {P H : Hp} {v d d' : D} {y : V} {a : Addr} (le : Le P H) (rv : Rep c.K c.G P v y) (r : Root c.K c.G P H d a) (e : extD v d = some d') : ∃ u, Root c.K c.G P (upd H a u) d' a ∧ ∀ Q : VK, Q .non (upd H a u) → rExtend (.ref a) [y] H Q := by
  cases r with
  | lst h r =>
    unfold extD at e
    cases rv with
    | lst h2 r2 =>
      dsimp only at e
      split at e
      · rename_i hl
        cases e
        exact ⟨_, .lst upd_same (r.append r2), fun Q q => ⟨a, _, _, _, rfl, rfl, h, le.lst h2, by rw [← r.length, ← r2.length, ← line_eq]; exact hl, q⟩⟩
      · cases e
    | _ => cases e
  | dK h r => cases v <;> cases e
  | dT h r => cases v <;> cases e
  | obj _ _ _ _ => cases v <;> cases e
section
variable {p apos cpos : Pos}
theorem sx_app (i : Nat) (hK : X.K = c.K) (hN : X.N[i]? = some nm) (hv : Vis X.env.scope nm) (hd : (nm == ("__debug__" : Str)) = false) (hcd : (nm == ("__classdict__" : Str)) = false) (ha : PE X e (TEx c x))
    (hbase : attributeBase (.Name nm p) "append" X.env (eval (.Name nm p) X.env) = eval (.Name nm p) X.env)
    (hfew : ((backTo cpos (starEach [e] X.env)).all (fun x => !x.1) && (backToKw cpos (keywordEach [] X.env)).all (fun x => x.1.isSome)
      && decide ([e].length + ([] : List Keyword).length + (if ([] : List Keyword).isEmpty then 0 else 1) < 30)) = true)
    (hline : (apos.endLine == cpos.line) = true) (hs : starEach [e] X.env = (false, eval e X.env) :: starEach [] X.env) (hplain : (backTo cpos (starEach [] X.env)).any (·.1) = false)
    (hsw : swapsWith (.Call (.Attribute (.Name nm p) "append" apos) [e] [] cpos) none pos.line X.env = pure false) : PS X (.Expr (.Call (.Attribute (.Name nm p) "append" apos) [e] [] cpos) pos) (TSx c (mutS i appD x)) :=
  ps_imp (ps_expr (pe_bm PySem.F.plainAttrs_list PySem.F.slot_list_append PySem.F.type_list_append mt_append (pe_var hN hv hd hcd) (pa_cons ha pa_nil hs) hbase hfew hline hs hplain) hsw) fun D σ H h => mut_top hK app_root D σ H h
theorem sx_ext (i : Nat) (hK : X.K = c.K) (hN : X.N[i]? = some nm) (hv : Vis X.env.scope nm) (hd : (nm == ("__debug__" : Str)) = false) (hcd : (nm == ("__classdict__" : Str)) = false) (ha : PE X e (TEx c x))
    (hbase : attributeBase (.Name nm p) "extend" X.env (eval (.Name nm p) X.env) = eval (.Name nm p) X.env)
    (hfew : ((backTo cpos (starEach [e] X.env)).all (fun x => !x.1) && (backToKw cpos (keywordEach [] X.env)).all (fun x => x.1.isSome)
      && decide ([e].length + ([] : List Keyword).length + (if ([] : List Keyword).isEmpty then 0 else 1) < 30)) = true)
    (hline : (apos.endLine == cpos.line) = true) (hs : starEach [e] X.env = (false, eval e X.env) :: starEach [] X.env) (hplain : (backTo cpos (starEach [] X.env)).any (·.1) = false)
    (hsw : swapsWith (.Call (.Attribute (.Name nm p) "extend" apos) [e] [] cpos) none pos.line X.env = pure false) : PS X (.Expr (.Call (.Attribute (.Name nm p) "extend" apos) [e] [] cpos) pos) (TSx c (mutS i extD x)) :=
  ps_imp (ps_expr (pe_bm PySem.F.plainAttrs_list PySem.F.slot_list_extend PySem.F.type_list_extend mt_extend (pe_var hN hv hd hcd) (pa_cons ha pa_nil hs) hbase hfew hline hs hplain) hsw) fun D σ H h => mut_top hK ext_root D σ H h
end
/-! ### xs.index(v) -/
def seqL : D → Option (List D)
  | .lst l => some l
  | .ro l => some l
  | _ => none
def idxL (v : PyData) : List PyData → Nat → Option Nat
  | [], _ => none
  | z :: l, j => if PyData.eqv z v = true then some j else idxL v l (j + 1)
def indexD (d v : D) : Option R := match seqL d with
  | some l => if (okD (.lst l) && okD v) = true then (idxL (D.py v) (pyL l) 0).map fun j => ⟨false, .int (j : Nat)⟩ else none
  | none => none
theorem idxL_ok {v : PyData} : ∀ {l : List PyData} {k j : Nat}, idxL v l k = some j → ∃ m z, j = k + m ∧ l[m]? = some z ∧ PyData.eqv z v = true ∧ ∀ n z', n < m → l[n]? = some z' → PyData.eqv z' v = false
  | [], _, _, e => by cases e
  | z :: l, k, j, e => by
    unfold idxL at e
    split at e
    · rename_i h
      cases e
      exact ⟨0, z, rfl, rfl, h, fun n z' hn => absurd hn (Nat.not_lt_zero n)⟩
    · rename_i h
      obtain ⟨m, z2, e1, e2, e3, e4⟩ := idxL_ok e
      refine ⟨m + 1, z2, by omega, e2, e3, fun n z' hn ez => ?_⟩
      cases n with
      | zero =>
        have : z = z' := by simpa using ez
        subst this
        simpa using h
      | succ n => exact e4 n z' (by omega) ez
/-! ### o.m(e) of a built-in type -/
def opM (t : D → Bool) (f : D → D → Option R) (x y : Ex) : Ex := fun env S => (x env S).bind fun a S => match t a.d with
  | true => (y env S).bind fun b S => (match f a.d b.d with
    | some r => .ok r S
    | none => .bad)
  | false => .bad
def op0 (t : D → Bool) (f : D → Option R) (x : Ex) : Ex := fun env S => (x env S).bind fun a S => match t a.d with
  | true => (match f a.d with
    | some r => .ok r S
    | none => .bad)
  | false => .bad
theorem opM_top {t : D → Bool} {f : D → D → Option R} {T : String} {r : V → List V → Hp → VK → Prop} (hK : X.K = c.K) (ht : ∀ {P H : Hp} {d : D} {v : V}, Le P H → Rep c.K c.G P d v → t d = true → tyV c.K T v H)
    (hr : ∀ {P H : Hp} {S : Sto} {a b : D} {v w : V} {r3 : R} {Q : VK}, Le P H → (∀ a, H a = none → a ∉ c.ρ) → StoOk c.K c.G c.ρ P H S → Rep c.K c.G P a v → Rep c.K c.G P b w → t a = true → f a b = some r3 → QX c P H Q r3 S → r v [w] H Q) :
    ∀ σ H Q, TEx c (opM t f x y) σ H Q → tBM X.K T r (TEx c x) (tCons (TEx c y) tNil) σ H Q := fun σ H Q ⟨P, env, S, s, h⟩ =>
  tex_bind s h fun r1 S1 v P1 H1 st1 s1 rp1 h1 => by
    cases q : t r1.d with
    | false => simp only [q] at h1; exact h1.elim
    | true =>
      simp only [q] at h1
      refine ⟨by rw [hK]; exact ht s1.le rp1 q, tex_bind s1 h1 fun r2 S2 w P2 H2 st2 s2 rp2 h2 => ?_⟩
      cases q2 : f r1.d r2.d with
      | none => simp only [q2] at h2; exact h2.elim
      | some r3 =>
        simp only [q2] at h2
        exact hr s2.le s2.new0 s2.so (rp1.mono st2.pp) rp2 q q2 h2
theorem op0_top {t : D → Bool} {f : D → Option R} {T : String} {r : V → List V → Hp → VK → Prop} (hK : X.K = c.K) (ht : ∀ {P H : Hp} {d : D} {v : V}, Le P H → Rep c.K c.G P d v → t d = true → tyV c.K T v H)
    (hr : ∀ {P H : Hp} {S : Sto} {a : D} {v : V} {r3 : R} {Q : VK}, Le P H → (∀ a, H a = none → a ∉ c.ρ) → StoOk c.K c.G c.ρ P H S → Rep c.K c.G P a v → t a = true → f a = some r3 → QX c P H Q r3 S → r v [] H Q) :
    ∀ σ H Q, TEx c (op0 t f x) σ H Q → tBM0 X.K T r (TEx c x) σ H Q := fun σ H Q ⟨P, env, S, s, h⟩ =>
  tex_bind s h fun r1 S1 v P1 H1 st1 s1 rp1 h1 => by
    cases q : t r1.d with
    | false => simp only [q] at h1; exact h1.elim
    | true =>
      simp only [q] at h1
      cases q2 : f r1.d with
      | none => simp only [q2] at h1; exact h1.elim
      | some r3 =>
        simp only [q2] at h1
        exact ⟨by rw [hK]; exact ht s1.le rp1 q, hr s1.le s1.new0 s1.so rp1 q q2 h1⟩
def isL (d : D) : Bool := (seqL d).isSome
def isS : D → Bool
  | .str _ => true
  | _ => false
theorem seqL_rep {d : D} {l : List D} {P H : Hp} {v : V} (le : Le P H) (e : seqL d = some l) (r : Rep c.K c.G P d v) : ∃ a xs, v = .ref a ∧ SqL c.K H a xs ∧ Reps c.K c.G P l xs := by
  cases r with
  | lst h r => cases e; exact ⟨_, _, rfl, .inl (.inl (le.lst h)), r⟩
  | ro h r => cases e; exact ⟨_, _, rfl, le.sqL h, r⟩
  | _ => cases e
theorem isL_ty {P H : Hp} {d : D} {v : V} (le : Le P H) (r : Rep c.K c.G P d v) (h : isL d = true) : tyV c.K "list" v H := by
  obtain ⟨l, e⟩ := Option.isSome_iff_exists.mp h
  obtain ⟨a, xs, rfl, sq, _⟩ := seqL_rep le e r
  exact .inl ⟨rfl, xs, sq⟩
theorem isS_ty {P H : Hp} {d : D} {v : V} (le : Le P H) (r : Rep c.K c.G P d v) (h : isS d = true) : tyV c.K "str" v H := by
  cases r with
  | str z => rfl
  | _ => cases h
theorem pd_index {o : Expr} {apos cpos : Pos} (hK : X.K = c.K) (hu : X.A.units + 65 < cLine) (ho : PE X o (TEx c x)) (ha : PE X e (TEx c y))
    (hbase : attributeBase o "index" X.env (eval o X.env) = eval o X.env)
    (hfew : ((backTo cpos (starEach [e] X.env)).all (fun x => !x.1) && (backToKw cpos (keywordEach [] X.env)).all (fun x => x.1.isSome)
      && decide ([e].length + ([] : List Keyword).length + (if ([] : List Keyword).isEmpty then 0 else 1) < 30)) = true)
    (hline : (apos.endLine == cpos.line) = true) (hs : starEach [e] X.env = (false, eval e X.env) :: starEach [] X.env) (hplain : (backTo cpos (starEach [] X.env)).any (·.1) = false) :
    PE X (.Call (.Attribute o "index" apos) [e] [] cpos) (TEx c (opM isL indexD x y)) :=
  pe_imp (pe_bm PySem.F.plainAttrs_list PySem.F.slot_list_index PySem.F.type_list_index (mt_indexD hu) ho (pa_cons ha pa_nil hs) hbase hfew hline hs hplain) (opM_top hK isL_ty fun {P H S a b v w r3 Q} le n0 so ra rb ta e q => by
    unfold indexD at e
    cases el : seqL a with
    | none => rw [el] at e; cases e
    | some l =>
      rw [el] at e
      dsimp only at e
      split at e
      · rename_i hk
        obtain ⟨j, e1, e2⟩ := Option.map_eq_some_iff.mp e
        subst e2
        obtain ⟨k1, k2⟩ := Bool.and_eq_true_iff.mp hk
        obtain ⟨k3, k4⟩ := Bool.and_eq_true_iff.mp (show (D.flat (.lst l) && SeqAt.shaped (D.py (.lst l))) = true from k1)
        obtain ⟨k5, k6⟩ := Bool.and_eq_true_iff.mp (show (D.flat b && SeqAt.shaped (D.py b)) = true from k2)
        obtain ⟨p, xs, rfl, sq, rx⟩ := seqL_rep le el ra
        obtain ⟨m, z, e3, e4, e5, e6⟩ := idxL_ok e1
        have e7 : j = m := by omega
        subst e7
        rw [hK]
        exact ⟨p, w, D.py b, pyL l, j, z, rfl, rfl, .lst sq (Reps.dp le rx k3), Rep.dp le rb k5, k4, k6, e4, e5, e6, qx_ret q le so (.int _)⟩
      · cases e)
/-! ### max(a, b) -/
def max2D (ds : List D) : Option R := match ds with
  | [.int i, .int j] => some ⟨false, .int (if j > i then j else i)⟩
  | _ => none
theorem cd_max2 (hc : X.calm = true) : CallR X (.builtin "max") (rBi c max2D) := fun pins s σ H xs us Q I r ⟨P, S, ds, r3, le, n0, so, rr, e, q⟩ => by
  refine call_max2 hc pins s σ H xs us Q I r ?_
  unfold max2D at e
  split at e
  · rename_i i j
    cases e
    cases rr with
    | cons r1 r2 =>
      cases r2 with
      | cons r2 r3 =>
        cases r1; cases r2; cases r3
        exact ⟨i, j, rfl, qx_ret q le so (.int _)⟩
  · cases e
theorem pd_max2 {l : Lx} {p : Pos} {es : List Expr} (hc : X.calm = true) (hg : Gl X "max") (hm : X.mg "max" = none) (ha : PA X (e :: es) (TLx c l)) (he : starEach (e :: es) X.env = (false, eval e X.env) :: starEach es X.env) (hpl : (backTo pos (starEach es X.env)).any (·.1) = false) :
    PE X (.Call (.Name "max" p) (e :: es) [] pos) (TEx c (biX max2D l)) :=
  pe_imp (pe_callB (cd_max2 hc) hg hm (by decide +kernel) ha (by decide) (by decide) he hpl) bi_top
end
/-! ### what a module holds for good: ints, texts, tuples of such -/
mutual
def litB (K : PySem.W.Frag) : D → Value → Bool
  | .int i, .int j _ => decide (i = j)
  | .str s, .str t _ => decide (s = t)
  | .rt l, .ref a => (match K.lookup a with
    | some ⟨.type c, _, .seq its _, _⟩ => decide (c = "tuple") && decide (its.size ≤ line) && litsB K l its.toList
    | _ => false)
  | _, _ => false
def litsB (K : PySem.W.Frag) : List D → List Value → Bool
  | [], [] => true
  | d :: l, v :: vs => litB K d v && litsB K l vs
  | _, _ => false
end
section
variable {K : PySem.W.Frag} {G : Nat → Option (Addr × List Str)}
mutual
theorem litB_ok : ∀ {d : D} {u : Value}, litB K d u = true → ∃ v, RelV v u ∧ ∀ P, Rep K G P d v
  | .int i, u, h => by
    cases u with
    | int j t => exact ⟨.int j, ⟨t, rfl⟩, fun P => by rw [show i = j from of_decide_eq_true h]; exact .int j⟩
    | _ => simp [litB] at h
  | .str i, u, h => by
    cases u with
    | str j t => exact ⟨.str j, ⟨t, rfl⟩, fun P => by rw [show i = j from of_decide_eq_true h]; exact .str j⟩
    | _ => simp [litB] at h
  | .rt l, u, h => by
    cases u with
    | ref a =>
      unfold litB at h
      split at h
      · rename_i c d its n sl q
        simp only [Bool.and_eq_true, decide_eq_true_eq] at h
        obtain ⟨⟨h1, h2⟩, h3⟩ := h
        obtain ⟨vs, r, rp⟩ := litsB_ok h3
        exact ⟨.ref a, rfl, fun P => .rt (.inr ⟨_, its, n, q, by rw [h1], rfl, by rw [← line_eq]; exact h2, r⟩) (rp P)⟩
      · cases h
    | _ => simp [litB] at h
  | .non, u, h => by simp [litB] at h
  | .bl _, u, h => by simp [litB] at h
  | .tup _, u, h => by simp [litB] at h
  | .lst _, u, h => by simp [litB] at h
  | .ro _, u, h => by simp [litB] at h
  | .dK _, u, h => by simp [litB] at h
  | .dT _, u, h => by simp [litB] at h
  | .obj _ _, u, h => by simp [litB] at h
theorem litsB_ok : ∀ {l : List D} {us : List Value}, litsB K l us = true → ∃ vs, Vals vs us ∧ ∀ P, Reps K G P l vs
  | [], us, h => by
    cases us with
    | nil => exact ⟨[], .nil, fun _ => .nil⟩
    | cons _ _ => simp [litsB] at h
  | d :: l, us, h => by
    cases us with
    | nil => simp [litsB] at h
    | cons u us =>
      unfold litsB at h
      obtain ⟨h1, h2⟩ := Bool.and_eq_true_iff.mp h
      obtain ⟨v, r, rp⟩ := litB_ok h1
      obtain ⟨vs, r2, rp2⟩ := litsB_ok h2
      exact ⟨v :: vs, .cons r r2, fun P => .cons (rp P) (rp2 P)⟩
end
end
def KLit (K : PySem.W.Frag) (G : Nat → Option (Addr × List Str)) (a : Addr) (d : D) : Prop := ∀ P, Rep K G P d (.ref a)
def litC (x : Str) (d : D) (K : PySem.W.Frag) : Bool := litB K d (.ref (He.ga K x))
theorem litC_ok {K : PySem.W.Frag} {G : Nat → Option (Addr × List Str)} {x : Str} {d : D} (h : litC x d K = true) : KLit K G (He.ga K x) d := by
  obtain ⟨v, r, rp⟩ := litB_ok (G := G) h
  cases v with
  | ref b => cases r; exact rp
  | _ => first | (cases r; done) | (obtain ⟨_, r⟩ := r; cases r)
/-- .. with ints as keys -/
def entsB (K : PySem.W.Frag) : List DictEntry → List (Int × D) → Bool
  | [], [] => true
  | e :: es, (k, d) :: l => keyIs (.inl k) e.key && decide (e.hash = hashInt k) && litB K d e.val && entsB K es l
  | _, _ => false
def tabD (x : Str) (l : List (Int × D)) (K : PySem.W.Frag) : Bool := match K.lookup (He.ga K x) with
  | some ⟨.type c, none, .dict es _, sl⟩ => decide (c = "dict") && decide (sl = #[]) && entsB K es.toList l && !(He.ga K x == sysModules)
  | _ => false
def tbD (l : List (Int × D)) : List (Key × D) := l.map fun p => (.inl p.1, p.2)
theorem entsB_ok {K : PySem.W.Frag} {G : Nat → Option (Addr × List Str)} {w : World} : ∀ {es : List DictEntry} {l : List (Int × D)}, entsB K es l = true → KEnt K G w es (tbD l)
  | [], [], _ => .nil
  | [], _ :: _, h => by cases h
  | _ :: _, [], h => by cases h
  | e :: es, (k, d) :: l, h => by
    simp only [entsB, Bool.and_eq_true, decide_eq_true_eq] at h
    obtain ⟨⟨⟨h1, h2⟩, h3⟩, h4⟩ := h
    exact .cons h1 h2 (litB_ok h3) (entsB_ok h4)
theorem tabD_ok {K : PySem.W.Frag} {G : Nat → Option (Addr × List Str)} {w : World} {x : Str} {l : List (Int × D)} (h : tabD x l K = true) (nd : ((tbD l).map (·.1)).Nodup) : KTab K G w (He.ga K x) (tbD l) := by
  unfold tabD at h
  split at h
  · rename_i c es n sl q
    simp only [Bool.and_eq_true, decide_eq_true_eq, Bool.not_eq_true'] at h
    obtain ⟨⟨⟨rfl, rfl⟩, h3⟩, h4⟩ := h
    exact ⟨es, n, q, entsB_ok h3, h4, nd⟩
  · cases h
theorem pd_klit {X : Cx} {c : Cc} {nm : Str} {pos : Pos} {a : Addr} {d : D} (t : KLit X.K c.G a d) (hK : X.K = c.K) (hg : Gl X nm) (hm : X.mg nm = some (.ref a)) (hd : (nm == ("__debug__" : Str)) = false) : PE X (.Name nm pos) (TEx c (con d)) :=
  pd_con (pe_glob hg hm (show RelV (.ref a) (.ref a) from rfl) hd) fun P => by rw [← hK]; exact t P
end Pv

set_option Elab.async false
set_option linter.all false
set_option maxRecDepth 100000
namespace Pv
open PySem PySem.Spec PyProof.Rows L2

/-! ### the pairs of a dict that stays as it is: one locked, or one of a module -/
def HasO (K : PySem.W.Frag) (H : Hp) (d : Addr) (o : Obj) : Prop := (∃ u, H d = some (.frz o u)) ∨ K.lookup d = some o
theorem HasO.get {X : Cx} {pins : List (Addr × Obj)} {σ : L2.St} {H : Hp} {s : Shared} {d : Addr} {o : Obj} (h : HasO X.K H d o) (I : Inv X pins σ H s) : s.heap.get? d = some o := by
  rcases h with ⟨u, h⟩ | h
  · exact (I.hok d _ h).1
  · exact I.kIn _ _ h
def EntV (p : V × V) (e : DictEntry) : Prop := RelV p.1 e.key ∧ RelV p.2 e.val
def ItR (K : PySem.W.Frag) (d : Addr) (o : Obj) (kvs : List (V × V)) : It where
  go := fun i H => HasO K H d o ∧ i < kvs.length
  yld := fun i H x H' => ∃ T p, kvs[i]? = some p ∧ x = .ref T ∧ H T = none ∧ H' = upd H T (.tup [p.1, p.2])
  stop := fun i H => HasO K H d o ∧ kvs.length ≤ i
theorem turn_raw {P : Program} {w : World} {K : PySem.W.Frag} {elts : List Expr} {kk : Nat} {tpos : Pos} {d : Addr} {o : Obj} {es : Array DictEntry} {ep : Nat} {kvs : List (V × V)} (it : Addr) (ho : o.ExactDict) (hd : o.data = .dict es ep) (hv : Paired EntV kvs es.toList) :
    Turn P w K (.Tuple elts kk tpos) (ItR K d o kvs) [it] it (fun i h => ∃ a b, IsItemIter h it d i es.size ep a b) where
  mem := List.mem_singleton.mpr rfl
  obj := fun i h ⟨a, b, e⟩ c hc => by
    cases List.mem_singleton.mp hc
    exact ⟨_, e, fun v z => nomatch z⟩
  keep := fun i h h' ⟨a, b, e⟩ k => ⟨a, b, k it (List.mem_singleton.mpr rfl) _ e⟩
  item := by
    intro X hP hw hK hc i pins s σ H E I hf ⟨a, b, st⟩ ⟨g1, g2⟩
    subst hP hw hK
    have len : kvs.length = es.size := by rw [Paired.length hv]; exact Array.length_toList
    have lt : i < es.size := by omega
    have old : it < s.heap.objs.size := Heap.lt_size st
    have ek : kvs[i]? = some kvs[i] := List.getElem?_eq_getElem g2
    have en : EntV kvs[i] es[i] := by
      obtain ⟨e, q1, q2⟩ := paired_get hv ek
      rw [Array.getElem?_toList, Array.getElem?_eq_getElem lt] at q1
      cases q1
      exact q2
    refine wpAny_pyNext_items_item_raw st ⟨o, g1.get I, ho, hd⟩ lt fun h1 out hT hz kp => ⟨_, rfl, wpAny_letOwnedTupleGo_items (s := { s with heap := h1 }) out fun h2 in2 sb => ?_⟩
    have new : ObjOk X.prog X.w (upd H s.heap.objs.size (.tup [kvs[i].1, kvs[i].2])) h2 s.heap.objs.size (.tup [kvs[i].1, kvs[i].2]) :=
      ⟨by show 2 ≤ sizeLine; decide, [es[i].key, es[i].val], .cons en.1 (.cons en.2 .nil), ⟨_, (sb.2 _ (Nat.ne_of_gt old)).trans hT, rfl, _, rfl⟩⟩
    refine ⟨.ref s.heap.objs.size, _, I.turnedNew (t' := s.toks) (ch := [it]) (fun c oc hc e => (sb.2 c (by simpa using hc)).trans (kp c oc (by simpa using hc) e)) hf (Nat.le_refl _) new, rfl, ⟨_, kvs[i], ek, rfl, I.hok.fresh (Nat.le_refl _), rfl⟩, ⟨_, _, in2⟩, fun c hc => ?_⟩
    cases List.mem_singleton.mp hc
    rw [upd_ne (Nat.ne_of_lt old)]
    exact (hf it (List.mem_singleton.mpr rfl)).1
  done := by
    intro X hP hw hK hc i pins s σ H E I hf ⟨a, b, st⟩ ⟨g1, g2⟩
    subst hP hw hK
    have len : kvs.length = es.size := by rw [Paired.length hv]; exact Array.length_toList
    obtain ⟨f0, f1, f2, f3, f4, f5⟩ := hf it (List.mem_singleton.mpr rfl)
    exact wpAny_pyNext_items_end_raw (I.ok.hd hc) st ⟨o, g1.get I, ho, hd⟩ (by omega) fun h1 eb => ⟨rfl, I.turned (t' := s.toks) (fun c oc nc e => eb c oc nc e) f0 f1 f3 f4 f5⟩
  self := fun A i s Q E ⟨_, _, e⟩ h => PySem.W.kcp_self e h
def iRaw (K : PySem.W.Frag) (td : TE) : TI := fun σ H R => td σ H fun x H1 => ∃ d o es ep kvs, x = V.ref d ∧ (d == sysModules) = false ∧ HasO K H1 d o ∧ o.ExactDict ∧ o.data = .dict es ep ∧ Paired EntV kvs es.toList ∧ R (ItR K d o kvs) H1
theorem pi_raw {X : Cx} {e : Expr} {td : TE} {elts : List Expr} {kk : Nat} {tpos apos cpos : Pos} (he : PE X e td) (hbase : attributeBase e "items" X.env (eval e X.env) = eval e X.env) (hline : (apos.endLine == cpos.line) = true) :
    PI X (.Tuple elts kk tpos) (.Call (.Attribute e "items" apos) [] [] cpos) (iRaw X.K td) := ⟨fun pins s σ H R I h => by
  refine wpAny_Call_method (T := "dict") (id := "dict.items") hbase rfl hline F.plainAttrs_dict F.slot_dict_items F.type_dict_items (thn (he.run pins s σ H _ I h) fun u s1 ⟨x, H1, I1, rx, d, o, es, ep, kvs, ex, hs, g, xd, hdt, hv, q⟩ => ?_)
  subst ex
  cases (show u = Value.ref d from rx)
  have raw : s1.heap.DictRaw d es ep := ⟨o, g.get I1, xd, hdt⟩
  refine ⟨raw.typeIs, fun a ea => by cases ea; exact ⟨o, g.get I1, xd.2.1⟩, method_meetsIn (s := s1) F.slot_dict_items F.entry_dict_items rfl (PySem.evalArgs_none ⟨rfl, raw.typeIs, F.args_dict_items_1 _, _, meets_dict_items_raw d hs, ⟨es, ep, raw⟩, ?_⟩)⟩
  refine wpAny_pyIter_items_raw ⟨_, Heap.get?_push_size _ rfl, rfl, rfl⟩ (raw.at fun ob e => Heap.get?_push_of_some _ e) (pi_one (tk := s1.toks) (I1.kept (t' := s1.toks) fun b ob e => Heap.get?_push_of_some _ e) _ (turn_raw _ xd hdt hv) ⟨.none, .none, Heap.get?_push_size _ rfl⟩ q)⟩
theorem walk_raw {K : PySem.W.Frag} {d : Addr} {o : Obj} {kvs : List (V × V)} : Walk (ItR K d o kvs) kvs.length (fun H => HasO K H d o) (YPair (fun i => kvs[i]?.map Prod.fst) (fun i => kvs[i]?.map Prod.snd)) where
  goes := fun i H hi q => ⟨q, hi⟩
  stops := fun H q => ⟨q, Nat.le_refl _⟩
  yields := fun i H x H' hi q ⟨T, p, e1, e2, e3, e4⟩ => ⟨T, p.1, p.2, e2, e3, e4, by simp [e1], by simp [e1]⟩
/-! ### name.items(), a dict of the module -/
theorem KEnt.ents {K : PySem.W.Frag} {G : Nat → Option (Addr × List Str)} {w : World} : ∀ {es : List DictEntry} {tb : List (Key × D)}, KEnt K G w es tb →
    ∃ kvs : List (V × V), Paired EntV kvs es ∧ kvs.length = tb.length ∧ ∀ (i : Nat) (p : V × V), kvs[i]? = some p → ∃ q : Key × D, tb[i]? = some q ∧ p.1 = kV q.1 ∧ ∀ P, Rep K G P q.2 p.2
  | _, _, .nil => ⟨[], .nil, rfl, fun i p e => by simp at e⟩
  | _, _, .cons (k := k) (d := d) h1 h2 ⟨v, h3, h4⟩ t => by
    obtain ⟨kvs, g1, g2, g3⟩ := KEnt.ents t
    refine ⟨(kV k, v) :: kvs, .cons ⟨relV_key h1, h3⟩ g1, congrArg (· + 1) g2, fun i p e => ?_⟩
    cases i with
    | zero =>
      have e2 : (kV k, v) = p := by simpa using e
      subst e2
      exact ⟨(k, d), rfl, rfl, h4⟩
    | succ i =>
      obtain ⟨q, q1, q2⟩ := g3 i p (by simpa using e)
      exact ⟨q, by simpa using q1, q2⟩
def iPairs (tb : List (Key × D)) : Ix := fun _ S => .ok (tb.map fun p => .tup [keyD p.1, p.2]) S
section
variable {X : Cx} {c : Cc} {P H P1 H1 : Hp} {env : SEnv} {σ : L2.St} {S S1 : Sto} {x y z : Ex} {pos : Pos} {e tgt : Expr} {nm : Str}
theorem ti_itemsK {A0 : Addr} {tb : List (Key × D)} {elts : List Expr} {kk : Nat} {p tpos apos cpos : Pos} (t : KTab X.K c.G X.w A0 tb) (hK : X.K = c.K) (hg : Gl X nm) (hm : X.mg nm = some (.ref A0)) (hd : (nm == ("__debug__" : Str)) = false)
    (hbase : attributeBase (.Name nm p) "items" X.env (eval (.Name nm p) X.env) = eval (.Name nm p) X.env) (hline : (apos.endLine == cpos.line) = true) :
    PI X (.Tuple elts kk tpos) (.Call (.Attribute (.Name nm p) "items" apos) [] [] cpos) (TIx c (iPairs tb)) :=
  pi_imp (pi_raw (pe_glob hg hm (show RelV (.ref A0) (.ref A0) from rfl) hd) hbase hline) fun σ H R ⟨P, env, S, s, h⟩ => by
    obtain ⟨es, n, hl, ke, lo, nd⟩ := t
    obtain ⟨kvs, g1, g2, g3⟩ := ke.ents
    refine ⟨A0, _, es, n, kvs, rfl, lo, .inr hl, ⟨rfl, rfl, rfl⟩, rfl, g1, h _ P H (Step.refl s.le) s.so ?_⟩
    have w := walk_raw (K := X.K) (d := A0) (o := ⟨.type "dict", none, .dict es n, #[]⟩) (kvs := kvs)
    rw [show kvs.length = (tb.map fun p => D.tup [keyD p.1, p.2]).length by rw [List.length_map, g2]] at w
    refine walkD_pair w (fun H _ => .inr hl) fun i x y hi ex ey => ?_
    obtain ⟨p, ep, rfl⟩ := Option.map_eq_some_iff.mp ex
    obtain ⟨p', ep', rfl⟩ := Option.map_eq_some_iff.mp ey
    rw [ep] at ep'; cases ep'
    obtain ⟨q, q1, q2, q3⟩ := g3 i p ep
    refine ⟨keyD q.1, q.2, by rw [List.getElem?_map, q1]; rfl, ?_, ?_⟩
    · rw [q2]; exact key_rep q.1
    · rw [← hK]; exact q3 _
/-! ### {k: v for ..}, keys ints or texts -/
def dcL (tg : Tx) (t k e : Ex) (env : SEnv) : List D → List (Key × D) → Sto → Out (List (Key × D))
  | [], acc, S => .ok acc S
  | d :: ds, acc, S => match tg env d with
    | none => .bad
    | some env1 => (nox (t env1 S)).bind fun r S => match r with
      | ⟨false, .bl true⟩ => (nox (k env1 S)).bind fun kv S => (nox (e env1 S)).bind fun v S => (match keyOf kv.d with
        | some kk => dcL tg t k e env ds (putD acc kk v.d) S
        | none => .bad)
      | ⟨false, .bl false⟩ => dcL tg t k e env ds acc S
      | _ => .bad
def dcX (vs : List Nat) (tg : Tx) (it : Ix) (t k e : Ex) : Ex := fun env S => (it env S).bind fun ds S => if ds.length ≤ line then (dcL tg t k e (clr env vs) ds [] S).bind fun out S => .ok ⟨true, .dK out⟩ S else .bad
theorem dc_it {J : It} {n : Nat} {G : Hp → Prop} {Y : Nat → Hp → V → Hp → Prop} (w : Walk J n G Y) {g : TG} {tt : TT} {tk tv : TE} {vs : List Nat} {σ : L2.St} {H1 : Hp} {D0 : Addr} {Qd : Hp → Prop} (Pv : Nat → Hp → Prop) (h0 : Pv 0 (upd H1 D0 (.dK []))) (hG : ∀ i H, Pv i H → G H)
    (hs : ∀ i x H H', i < n → Pv i H → Y i H x H' → g x (wipe σ vs) H' fun σ2 H2 => wipe σ2 vs = wipe σ vs ∧ tt σ2 H2 fun b H3 =>
      if b = true then tk σ2 H3 fun y H4 => tv σ2 H4 fun z H5 => ∃ kvs k, y = kV k ∧ H5 D0 = some (.dK kvs) ∧ kvs.length < sizeLine ∧ Pv (i + 1) (upd H5 D0 (.dK (putK kvs k z))) else Pv (i + 1) H3) (hd : ∀ H, Pv n H → Qd H) :
    ∃ W : Nat → Nat → Hp → Prop, (∃ m, W 0 m (upd H1 D0 (.dK []))) ∧ ∀ i m H, W i m H →
      (J.stop i H ∧ Qd H) ∨ (J.go i H ∧ ∃ Nx : Hp → Prop, (∀ H', Nx H' → ∃ m', m' < m ∧ W (i + 1) m' H') ∧ ∀ x H', J.yld i H x H' → g x (wipe σ vs) H' fun σ2 H2 => wipe σ2 vs = wipe σ vs ∧ tt σ2 H2 fun b H3 =>
        if b = true then tk σ2 H3 fun y H4 => tv σ2 H4 fun z H5 => ∃ kvs k, y = kV k ∧ H5 D0 = some (.dK kvs) ∧ kvs.length < sizeLine ∧ Nx (upd H5 D0 (.dK (putK kvs k z))) else Nx H3) :=
  ⟨fun i m H => m + i = n ∧ Pv i H, ⟨n, rfl, h0⟩, fun i m H ⟨e, p⟩ => by
    cases m with
    | zero =>
      have e2 : i = n := by omega
      subst e2
      exact .inl ⟨w.stops H (hG i H p), hd H p⟩
    | succ m => exact .inr ⟨w.goes i H (by omega) (hG i H p), Pv (i + 1), fun H' p' => ⟨m, Nat.lt_succ_self m, by omega, p'⟩, fun x H' y => hs i x H H' (by omega) p (w.yields i H x H' (by omega) (hG i H p) y)⟩⟩
theorem putD_len {κ : Type} [DecidableEq κ] (l : List (κ × D)) (k : κ) (d : D) : (putD l k d).length ≤ l.length + 1 := by
  unfold putD
  split
  · rw [List.length_map]; exact Nat.le_succ _
  · rw [List.length_append]; exact Nat.le_refl _
theorem dc_top {vs : List Nat} {tg : Tx} {it : Ix} {t k e : Ex} {is : List Nat} (his : ∀ i ∈ is, i ∈ vs) : ∀ σ H Q, TEx c (dcX vs tg it t k e) σ H Q → tDc (TIe c it) (TGx c.in0 is tg) (TTx c.in0 t) (TEx c.in0 k) (TEx c.in0 e) vs σ H Q := by
  rintro σ H Q ⟨P, env, S, s, h⟩
  refine ⟨P, env, S, s, post_mono (post_bind.mp h) (fun ds S1 q J P1 H1 st so wd D0 nD => ?_) fun _ _ _ q => q⟩
  have s1 := s.step st so
  have hl : ds.length ≤ line := by
    by_cases hl : ds.length ≤ line
    · exact hl
    · rw [if_neg hl] at q; exact q.elim
  rw [if_pos hl] at q
  have q := post_bind.mp q
  have nP : P1 D0 = none := st.le.none nD
  have n0 : c.H0 D0 = none := s1.st.dom D0 nD
  have nown : ∀ j, (sget (Pv.clr env vs) j).isOwn = true → (wipe σ vs)[j]? ≠ some (some (.ref D0)) := fun j hj e2 => by
    obtain ⟨_, _, u, hu⟩ := (s1.clr vs).ownAt hj e2
    rw [nD] at hu; cases hu
  have kD : ∀ {Pa Ha Pb Hb : Hp}, Step c.ρ Pa Ha Pb Hb → Pa D0 = none → (∀ {w}, Ha D0 = some (.dK w) → Pb D0 = none ∧ Hb D0 = some (.dK w)) := fun {Pa Ha Pb Hb} sx pa {w} hw =>
    ⟨sx.new D0 _ (s.r0 D0 n0) pa hw (fun xs z => nomatch z) rfl, sx.hh D0 _ hw (s.r0 D0 n0) rfl⟩
  have back : ∀ {Pk Hk : Hp} {Sk : Sto}, Step c.ρ P1 H1 Pk Hk → StoOk c.K c.G c.ρ Pk Hk Sk → Stt c Pk Hk (Pv.clr env vs) (wipe σ vs) Sk := fun {Pk Hk Sk} a b => (s1.clr vs).step a b
  refine dc_it wd.w (D0 := D0) (fun i H2 => ∃ P2 S2 acc av, Stt c P2 H2 (Pv.clr env vs) (wipe σ vs) S2 ∧ Step c.ρ P1 H1 P2 H2 ∧ P2 D0 = none ∧ H2 D0 = some (.dK av) ∧ RepK c.K c.G P2 acc av ∧ acc.length ≤ i ∧
      (dcL tg t k e (Pv.clr env vs) (ds.drop i) acc S2).post (fun out S' => QX c P H Q ⟨true, .dK out⟩ S') (XP c P H))
    ⟨P1, S1, [], [], back (Step.alloc st.le nD) (so.alloc st.le nD), Step.alloc st.le nD, nP, upd_same, .nil, Nat.le_refl _, by rw [List.drop_zero]; exact q⟩ (fun i H2 ⟨P2, _, _, _, _, st2, _⟩ => ⟨P2, st2⟩) ?_ ?_
  · rintro i x H2 H3 hi ⟨P2, S2, acc, av, s2, st2, p2, d2, r2, l2, q2⟩ ⟨d, hd, y⟩
    obtain ⟨P3, st3, so3, r3⟩ := y P2 S2 st2.pp s2.le s2.so
    have s3 := s2.step st3 so3
    have hdr : ds.drop i = d :: ds.drop (i + 1) := by
      rw [List.drop_eq_getElem_cons hi]
      rw [List.getElem?_eq_getElem hi] at hd
      rw [Option.some.inj hd]
    rw [hdr] at q2
    unfold dcL at q2
    obtain ⟨p3, d3⟩ := kD st3 p2 d2
    cases qt : tg (Pv.clr env vs) d with
    | none => rw [qt] at q2; exact q2.elim
    | some env3 =>
      rw [qt] at q2
      refine ⟨P3, Pv.clr env vs, S2, d, env3, s3.in0, r3, qt, fun σ' s4' hw => ⟨(hw vs his).trans (lc_top.wipe_wipe σ vs), ?_⟩⟩
      have s4 : Stt c P3 H3 env3 σ' S2 := ⟨s4'.st, s4'.r0, s4'.so, s4'.ln, fun j => by have := s4'.sl j; cases hq : sget env3 j <;> rw [hq] at this <;> exact this, s4'.dj⟩
      refine nox_tt s4 q2 (fun r Sx q => ite_inv q) fun b S5 P5 H5 st5 s5 q5 => ?_
      obtain ⟨p5, d5⟩ := kD st5 p3 d3
      have st15 := st2.trans (st3.trans st5)
      cases b with
      | false => exact iteF ⟨P5, S5, acc, av, back st15 s5.so, st15, p5, d5, r2.mono (st3.pp.trans st5.pp), Nat.le_succ_of_le l2, q5⟩
      | true =>
        refine iteT (nox_in s5 q5 fun rk S6 vk P6 H6 st6 s6 r6 q6 => nox_in s6 q6 fun rv S7 vv P7 H7 st7 s7 r7 q7 => ?_)
        obtain ⟨p6, d6⟩ := kD st6 p5 d5
        obtain ⟨p7, d7⟩ := kD st7 p6 d6
        have st17 := st15.trans (st6.trans st7)
        cases qk : keyOf rk.d with
        | none => rw [qk] at q7; exact q7.elim
        | some kk =>
          rw [qk] at q7
          have la := r2.length
          have rr := r2.mono (st3.pp.trans (st5.pp.trans (st6.pp.trans st7.pp)))
          refine ⟨av, kk, keyOf_rep qk r6, d7, by rw [← la, ← line_eq]; omega, P7, S7, putD acc kk rv.d, putK av kk vv, ?_, st17.wr nD p7 (by rw [d7]; trivial), p7, upd_same, rep_putK r7 rr, Nat.le_trans (putD_len _ _ _) (Nat.succ_le_succ l2), q7⟩
          exact (back st17 s7.so).wr n0 p7 (by rw [d7]; trivial) nown
  · rintro H2 ⟨P2, S2, acc, av, s2, st2, p2, d2, r2, l2, q2⟩
    rw [List.drop_length] at q2
    refine (show QX c P H Q ⟨true, .dK acc⟩ S2 from q2) (.ref D0) P2 H2 (st.trans st2) s2.so ?_
    unfold RepR
    rw [if_pos rfl]
    exact ⟨D0, rfl, st.dom D0 nD, p2, .dK d2 r2⟩
theorem pd_dc {kx vx iter : Expr} {ifs : List Expr} {scope : Scope} {own : List (Str × Nat)} {tg : Tx} {it : Ix} {t k e : Ex} {is vs : List Nat} (hc : X.calm = true) (hN : X.N.Nodup) (hi : PI X tgt iter (TIe c it)) (ok : BlkOk X.N X.env.scope scope own) (hvs : own.map (·.2) = vs) (his : ∀ i ∈ is, i ∈ vs)
    (hg : ∀ (s : Shared) (H : Hp) (C : Addr) (cl : List (Str × Addr)) (fp : List Addr), PG (X.blk s H scope (compEnvC scope cl C X.env) fp) tgt (TGx c.in0 is tg)) (ht : ∀ (s : Shared) (H : Hp) (C : Addr) (cl : List (Str × Addr)) (fp : List Addr), PTs (X.blk s H scope (compEnvC scope cl C X.env) fp) ifs (TTx c.in0 t))
    (hk : ∀ (s : Shared) (H : Hp) (C : Addr) (cl : List (Str × Addr)) (fp : List Addr), PE (X.blk s H scope (compEnvC scope cl C X.env) fp) kx (TEx c.in0 k))
    (he : ∀ (s : Shared) (H : Hp) (C : Addr) (cl : List (Str × Addr)) (fp : List Addr), PE (X.blk s H scope (compEnvC scope cl C X.env) fp) vx (TEx c.in0 e)) (hs : ∀ x, foldedSetIterable iter X.env x = pure x) :
    PE X (.DictComp kx vx [⟨tgt, iter, ifs, 0⟩] scope pos) (TEx c (dcX vs tg it t k e)) := by
  subst hvs
  exact pe_imp (pe_dc hc hN hi ok hg ht hk he hs) (dc_top his)
/-- name = {..}, stored while the comprehension's frame still stands -/
theorem ps_setDc {i : Nat} {y : Str} {py spos : Pos} {kx vx iter : Expr} {ifs : List Expr} {scope : Scope} {own : List (Str × Nat)} {wi : TI} {g : TG} {tt : TT} {tk tv : TE} (hc : X.calm = true) (hN : X.N.Nodup) (hy : X.N[i]? = some y) (hyl : X.env.scope.names.lookup y = some .local)
    (hsw : swapsWith (.DictComp kx vx [⟨tgt, iter, ifs, 0⟩] scope pos) (some (.Name y py)) spos.line X.env = pure true) (hi : PI X tgt iter wi) (ok : BlkOk X.N X.env.scope scope own)
    (hg : ∀ (s : Shared) (H : Hp) (C : Addr) (cl : List (Str × Addr)) (fp : List Addr), PG (X.blk s H scope (compEnvC scope cl C X.env) fp) tgt g) (ht : ∀ (s : Shared) (H : Hp) (C : Addr) (cl : List (Str × Addr)) (fp : List Addr), PTs (X.blk s H scope (compEnvC scope cl C X.env) fp) ifs tt)
    (hk : ∀ (s : Shared) (H : Hp) (C : Addr) (cl : List (Str × Addr)) (fp : List Addr), PE (X.blk s H scope (compEnvC scope cl C X.env) fp) kx tk) (he : ∀ (s : Shared) (H : Hp) (C : Addr) (cl : List (Str × Addr)) (fp : List Addr), PE (X.blk s H scope (compEnvC scope cl C X.env) fp) vx tv)
    (hs : ∀ x, foldedSetIterable iter X.env x = pure x) : PS X (.Assign [.Name y py] (.DictComp kx vx [⟨tgt, iter, ifs, 0⟩] scope pos) spos) (tAsg (tDc wi g tt tk tv (own.map (·.2))) (gName i)) := ⟨fun pins s σ H D I h => by
  rw [exec_Assign_Name_used _ _ _ _ hsw]
  have core : wpAny (model X.prog X.w) X.A (comprehension (.DictComp kx vx [⟨tgt, iter, ifs, 0⟩] scope pos) scope X.env (firstIterPos [⟨tgt, iter, ifs, 0⟩] pos) newDict false (eval iter X.env) (some (assign (.Name y py) X.env))) (fun _ t => SP X pins D .next t) X.xe s :=
    dc_core (Qf := fun _ t => SP X pins D .next t) hc hN I hi ok hg ht hk he hs (show tDc wi g tt tk tv (own.map (·.2)) σ H fun x H1 => gName i x σ H1 D.nx from h) fun B C t m H1 I1 q hn ⟨f0, f1, f2, f3, f4, f5⟩ => by
      show wpAny _ _ (assign (.Name y py) X.env (.ref B)) _ _ _
      refine wpAny_assign_Name (store_ok2 (v := V.ref B) I1 hN hy (.inl hyl) rfl (fun t2 I2 ⟨b, sb, hb⟩ => ⟨m, hn.sameBut sb ?_, fun h3 sb3 => ⟨_, H1, I2.turned (t' := t2.toks) (fun d o nd e => (sb3.2 d nd).trans e) f0 f1 f3 f4 f5, q⟩⟩) (.inr hyl))
      rcases hb with rfl | hb
      · exact f1
      · exact fun e => f4 y b hb e.symm
  exact wpAny_bind (wpAny_standAt (wpAny_bind (wpAny_bind (thn core fun _ t q => wpAny_pure (wpAny_pure q)))))⟩
theorem sx_setDc {i : Nat} {y : Str} {py spos : Pos} {kx vx iter : Expr} {ifs : List Expr} {scope : Scope} {own : List (Str × Nat)} {tg : Tx} {it : Ix} {t k e : Ex} {is vs : List Nat} (hc : X.calm = true) (hN : X.N.Nodup) (hy : X.N[i]? = some y) (hyl : X.env.scope.names.lookup y = some .local)
    (hsw : swapsWith (.DictComp kx vx [⟨tgt, iter, ifs, 0⟩] scope pos) (some (.Name y py)) spos.line X.env = pure true) (hi : PI X tgt iter (TIe c it)) (ok : BlkOk X.N X.env.scope scope own) (hvs : own.map (·.2) = vs) (his : ∀ i ∈ is, i ∈ vs)
    (hg : ∀ (s : Shared) (H : Hp) (C : Addr) (cl : List (Str × Addr)) (fp : List Addr), PG (X.blk s H scope (compEnvC scope cl C X.env) fp) tgt (TGx c.in0 is tg)) (ht : ∀ (s : Shared) (H : Hp) (C : Addr) (cl : List (Str × Addr)) (fp : List Addr), PTs (X.blk s H scope (compEnvC scope cl C X.env) fp) ifs (TTx c.in0 t))
    (hk : ∀ (s : Shared) (H : Hp) (C : Addr) (cl : List (Str × Addr)) (fp : List Addr), PE (X.blk s H scope (compEnvC scope cl C X.env) fp) kx (TEx c.in0 k)) (he : ∀ (s : Shared) (H : Hp) (C : Addr) (cl : List (Str × Addr)) (fp : List Addr), PE (X.blk s H scope (compEnvC scope cl C X.env) fp) vx (TEx c.in0 e))
    (hs : ∀ x, foldedSetIterable iter X.env x = pure x) : PS X (.Assign [.Name y py] (.DictComp kx vx [⟨tgt, iter, ifs, 0⟩] scope pos) spos) (TSx c (setS i (dcX vs tg it t k e))) := by
  subst hvs
  exact ps_imp (ps_setDc hc hN hy hyl hsw hi ok hg ht hk he hs) fun D σ H h => dc_top his σ H _ (set_top D σ H h)
theorem sx_setDcO {i : Nat} {y : Str} {py spos : Pos} {kx vx iter : Expr} {ifs : List Expr} {scope : Scope} {own : List (Str × Nat)} {tg : Tx} {it : Ix} {t k e : Ex} {is vs : List Nat} (hc : X.calm = true) (hN : X.N.Nodup) (hy : X.N[i]? = some y) (hyl : X.env.scope.names.lookup y = some .local)
    (hsw : swapsWith (.DictComp kx vx [⟨tgt, iter, ifs, 0⟩] scope pos) (some (.Name y py)) spos.line X.env = pure true) (hi : PI X tgt iter (TIe c it)) (ok : BlkOk X.N X.env.scope scope own) (hvs : own.map (·.2) = vs) (his : ∀ i ∈ is, i ∈ vs)
    (hg : ∀ (s : Shared) (H : Hp) (C : Addr) (cl : List (Str × Addr)) (fp : List Addr), PG (X.blk s H scope (compEnvC scope cl C X.env) fp) tgt (TGx c.in0 is tg)) (ht : ∀ (s : Shared) (H : Hp) (C : Addr) (cl : List (Str × Addr)) (fp : List Addr), PTs (X.blk s H scope (compEnvC scope cl C X.env) fp) ifs (TTx c.in0 t))
    (hk : ∀ (s : Shared) (H : Hp) (C : Addr) (cl : List (Str × Addr)) (fp : List Addr), PE (X.blk s H scope (compEnvC scope cl C X.env) fp) kx (TEx c.in0 k)) (he : ∀ (s : Shared) (H : Hp) (C : Addr) (cl : List (Str × Addr)) (fp : List Addr), PE (X.blk s H scope (compEnvC scope cl C X.env) fp) vx (TEx c.in0 e))
    (hs : ∀ x, foldedSetIterable iter X.env x = pure x) : PS X (.Assign [.Name y py] (.DictComp kx vx [⟨tgt, iter, ifs, 0⟩] scope pos) spos) (TSx c (setO i (dcX vs tg it t k e))) := by
  subst hvs
  exact ps_imp (ps_setDc hc hN hy hyl hsw hi ok hg ht hk he hs) fun D σ H h => dc_top his σ H _ (setO_top D σ H h)
end
end Pv

set_option Elab.async false
set_option linter.all false
set_option maxRecDepth 100000
namespace Pv
open PySem PySem.Spec PyProof.Rows L2

/-! ### enumerate of a list (false) or a tuple (true) -/
def enumO (it : Addr) : Obj := { cls := .type "enumerate", data := .fields #[.none, .bool false, .ref it, rawInt 0, .none, .none] }
theorem newE (k : Bool) (l : Addr) (xs : Array Value) : Meets (Builtin.«enumerate.__new__» ⟨[.type "enumerate", .ref l], []⟩)
    (fun _ R s => SqK k s.heap l xs ∧ R (.ok (.ret (.ref (s.heap.objs.size + 1)))) { s with heap := (h1K k s.heap l).push (enumO s.heap.objs.size) }) :=
  Meets.of_wp fun prog w A R s hyp => by
    obtain ⟨hp, g, d, tk, os⟩ := s
    obtain ⟨hl, q⟩ := hyp
    have isE := sub_enumerate
    have sq : SqK k (Shared.heap ⟨hp, g, d, tk, os⟩) l xs := hl
    have sz : (h1K k hp l).objs.size = hp.objs.size + 1 := Heap.size_push ..
    obtain ⟨o0, ho0⟩ : ∃ o, hp.get? l = some o := by
      cases k with
      | true => obtain ⟨o, e, _⟩ := (show hp.IsTuple l xs from hl); exact ⟨o, e⟩
      | false => obtain ⟨o, e, _⟩ := (show hp.IsList l xs from hl); exact ⟨o, e⟩
    wp_walk using wpAny_loadPart' ho0, pyIterK k sq
    refine wpAny_stack_any fun st => wpAny_pure ?_
    rw [← sz] at q
    split
    · rename_i c _ _ _ _ _
      cases (c == Value.type "enumerate") <;>
      · wp_walk using wpAny_loadPart' ho0, pyIterK k sq
        exact ⟨_, rfl, q⟩
    · wp_walk using wpAny_loadPart' ho0, pyIterK k sq
      exact ⟨_, rfl, q⟩
theorem call_enumK {prog : Program} {w : World} {A : Around} {E : Value → Shared → Prop} {s : Shared} (k : Bool) {l : Addr} {xs : Array Value} {Q : Value → Shared → Prop} (hl : SqK k s.heap l xs)
    (h : ∀ h', IsEnum h' (s.heap.objs.size + 1) s.heap.objs.size 0 .none → ItK k h' s.heap.objs.size l 0 → (∀ b o, s.heap.get? b = some o → h'.get? b = some o) → Q (.ref (s.heap.objs.size + 1)) { s with heap := h' }) :
    wpAny (model prog w) A (call (.type "enumerate") [.ref l]) Q E s := by
  have sz : (h1K k s.heap l).objs.size = s.heap.objs.size + 1 := Heap.size_push ..
  have e1 : ((h1K k s.heap l).push (enumO s.heap.objs.size)).get? (s.heap.objs.size + 1) = some (enumO s.heap.objs.size) := by rw [← sz]; exact Heap.get?_push_size _ rfl
  have e2 : ((h1K k s.heap l).push (enumO s.heap.objs.size)).get? s.heap.objs.size = some { cls := .type (nmK k), data := .fields #[.ref l, .int 0 0] } := Heap.get?_push_of_some _ (Heap.get?_push_size _ rfl)
  refine callType_new F.called_enumerate (by decide) (F.typeCall_enumerate_1 _) (F.newCall_enumerate_1 _) (fun ob => F.args_object_init_2 ob _) F.entry_enumerate_new (newE k l xs) ⟨hl, ⟨_, e1, rfl⟩, h _ e1 ?_ fun b o q => Heap.get?_push_of_some _ (Heap.get?_push_of_some _ q)⟩
  cases k <;> exact ⟨_, e2, rfl, rfl⟩
/-- each item with its number, a new pair -/
def IteK (K : PySem.W.Frag) (k : Bool) (a : Addr) : It where
  go := fun i H => ∃ (xs : List V) (x : V), SqA K H k a xs ∧ xs[i]? = some x
  yld := fun i H v H' => ∃ T x, v = .ref T ∧ H T = none ∧ H' = upd H T (.tup [.int (i : Nat), x]) ∧ ∀ xs, SqA K H k a xs → xs[i]? = some x
  stop := fun i H => ∃ xs : List V, SqA K H k a xs ∧ i = xs.length
theorem turn_enumK {P : Program} {w : World} {K : PySem.W.Frag} {elts : List Expr} {kk : Nat} {tpos : Pos} {k : Bool} {a e it : Addr} (hai : a ≠ it) (hei : e ≠ it) (hea : e ≠ a) :
    Turn P w K (.Tuple elts kk tpos) (IteK K k a) [e, it] e (fun i h => (∃ old, IsEnum h e it ((i : Nat) : Int) old) ∧ ItK k h it a i) where
  mem := List.mem_cons_self
  obj := fun i h ⟨⟨old, he⟩, hit⟩ c hc => by
    rcases List.mem_cons.mp hc with rfl | hc
    · exact ⟨_, he, fun v z => nomatch z⟩
    · cases List.mem_singleton.mp hc
      exact itK_obj hit
  keep := fun i h h' ⟨⟨old, he⟩, hit⟩ kp => ⟨⟨old, kp e (by simp) _ he⟩, itK_keep hit (kp it (by simp))⟩
  item := by
    intro X hP hw hK hc i pins s σ H E I hf ⟨⟨old, he⟩, hit⟩ ⟨xs, x, sx, gx⟩
    subst hP hw hK
    obtain ⟨us, rx, px⟩ := inv_sqA I sx
    have lx := rx.length
    obtain ⟨u, hu, ru⟩ := rx.get gx
    have el : e < s.heap.objs.size := Heap.lt_size he
    have il : it < s.heap.objs.size := by obtain ⟨_, q, _⟩ := itK_obj hit; exact Heap.lt_size q
    have lt : i < xs.length := (List.getElem?_eq_some_iff.mp gx).1
    have hh : X.A.in1.handled = none := I.ok.hd hc
    refine wpAny_pyNext_enum_itemD (drawK k hh it a hai us.toArray) he ⟨hit, px⟩ (by rw [List.size_toArray]; omega) hei (by simp [hei, hea]) fun y h1 tk ey out st2 hT hsz kp => ?_
    have ey2 : u = y := by
      have q : us[i]? = some y := by simpa using ey
      rw [hu] at q; exact Option.some.inj q
    subst ey2
    refine ⟨_, rfl, wpAny_letOwnedTupleGo_enum (s := { s with heap := h1, toks := tk + 1 }) out fun h2 he2 sb => ?_⟩
    have pair : ObjOk X.prog X.w (upd H s.heap.objs.size (.tup [.int (i : Nat), x])) h2 s.heap.objs.size (.tup [.int (i : Nat), x]) :=
      ⟨by show 2 ≤ sizeLine; decide, [.int i tk, u], .cons ⟨_, rfl⟩ (.cons ru .nil), ⟨_, (sb.2 _ (Nat.ne_of_gt el)).trans hT, rfl, _, rfl⟩⟩
    refine ⟨.ref s.heap.objs.size, _, I.turnedNew (t' := tk + 1) (ch := [e, it]) (fun b o hb q => (sb.2 b (fun z => hb (by simp [z]))).trans (kp b o (fun z => hb (by simp [z])) (fun z => hb (by simp [z])) q)) hf (Nat.le_refl _) pair, rfl,
      ⟨_, x, rfl, I.hok.fresh (Nat.le_refl _), rfl, fun ys hy => by rw [inv_sqA_inj I hy sx]; exact gx⟩, ⟨⟨u, ?_⟩, itK_keep st2.1 fun o q => (sb.2 it (Ne.symm hei)).trans q⟩, fun b hb => ?_⟩
    · rw [show ((i + 1 : Nat) : Int) = (i : Int) + 1 by omega]; exact he2
    · have lb : b < s.heap.objs.size := by
        rcases List.mem_cons.mp hb with rfl | hb
        · exact el
        · cases List.mem_singleton.mp hb; exact il
      rw [upd_ne (Nat.ne_of_lt lb)]
      exact (hf b hb).1
  done := by
    intro X hP hw hK hc i pins s σ H E I hf ⟨⟨old, he⟩, hit⟩ ⟨xs, sx, ei⟩
    subst hP hw hK ei
    obtain ⟨us, rx, px⟩ := inv_sqA I sx
    obtain ⟨f0, f1, f2, f3, f4, f5⟩ := hf it (by simp)
    have n : us.toArray.size = xs.length := by rw [List.size_toArray]; exact rx.length.symm
    have hh : X.A.in1.handled = none := I.ok.hd hc
    refine wpAny_pyNext_enum_endD (drawK k hh it a hai us.toArray) he ⟨by rw [n]; exact hit, px⟩ fun h1 eb => ⟨rfl, I.turned (t' := s.toks) (fun c o nc q => eb c o nc q) f0 f1 f3 f4 f5⟩
  self := fun A i s Q E ⟨⟨_, he⟩, _⟩ h => wpAny_pyIter_enum he h
def iEnumK (K : PySem.W.Frag) (td : TA) : TI := fun σ H R => td σ H fun vs H1 => ∃ k a xs, vs = [.ref a] ∧ SqA K H1 k a xs ∧ R (IteK K k a) H1
theorem pi_enumK {X : Cx} {e : Expr} {td : TA} {p pos tpos : Pos} {elts : List Expr} {kk : Nat} (hg : Gl X "enumerate") (hm : X.mg "enumerate" = none) (ha : PA X [e] td) (hs : starEach [e] X.env = (false, eval e X.env) :: starEach [] X.env) :
    PI X (.Tuple elts kk tpos) (.Call (.Name "enumerate" p) [e] [] pos) (iEnumK X.K td) := ⟨fun pins s σ H R I h => by
  refine Call_ (ld_blt I hg hm boot_enumerate (PyProof.Rows.callWith_type1 (thn (ha.run pos pins s σ H _ I h) fun us s1 ⟨vs, H1, I1, r1, k, a, xs, ex, sx, q⟩ => ?_) hs rfl))
  subst ex
  cases r1 with
  | cons r rr =>
    cases rr
    cases r
    obtain ⟨its, rv, px⟩ := inv_sqA I1 sx
    have la : a < s1.heap.objs.size := sqK_lt px
    refine call_enumK k px fun h1 he hit kp => wpAny_pyIter_enum he ?_
    refine ⟨s1.heap.objs.size + 1, [s1.heap.objs.size + 1, s1.heap.objs.size], _, _, H1, rfl, I1.kept (t' := s1.toks) kp, turn_enumK (Nat.ne_of_lt la) (Nat.succ_ne_self _) (Nat.ne_of_gt (Nat.lt_succ_of_lt la)), ⟨⟨.none, he⟩, hit⟩, fun b hb => ?_, q⟩
    have le : s1.heap.objs.size ≤ b := by
      rcases List.mem_cons.mp hb with rfl | hb
      · exact Nat.le_succ _
      · cases List.mem_singleton.mp hb; exact Nat.le_refl _
    exact I1.fpOk le (I1.hok.fresh le)⟩
theorem walk_enumK {K : PySem.W.Frag} {k : Bool} {a : Addr} {xs : List V} : Walk (IteK K k a) xs.length (fun H => SqA K H k a xs) (YPair (fun i => some (.int (i : Nat))) (fun i => xs[i]?)) where
  goes := fun i H hi q => ⟨xs, xs[i], q, List.getElem?_eq_getElem hi⟩
  stops := fun H q => ⟨xs, q, rfl⟩
  yields := fun i H v H' hi q ⟨T, x, e1, e2, e3, e4⟩ => ⟨T, .int (i : Nat), x, e1, e2, e3, rfl, e4 xs q⟩
def enumL : Nat → List D → List D
  | _, [] => []
  | i, d :: l => .tup [.int (i : Nat), d] :: enumL (i + 1) l
theorem enumL_len : ∀ (l : List D) (i : Nat), (enumL i l).length = l.length
  | [], _ => rfl
  | _ :: l, i => congrArg (· + 1) (enumL_len l (i + 1))
theorem enumL_get : ∀ (l : List D) (i j : Nat) (d : D), l[j]? = some d → (enumL i l)[j]? = some (.tup [.int ((i + j : Nat) : Int), d])
  | [], _, _, _, e => by simp at e
  | x :: l, i, 0, d, e => by
    have : x = d := by simpa using e
    subst this
    rfl
  | x :: l, i, j + 1, d, e => by
    have := enumL_get l (i + 1) j d (by simpa using e)
    show (enumL (i + 1) l)[j]? = _
    rw [this]
    congr 4
    omega
def iEnumD (x : Ex) : Ix := fun env S => (x env S).bind fun a S => match seqD a.d with
  | some l => .ok (enumL 0 l) S
  | none => .bad
section
variable {X : Cx} {c : Cc} {P H P1 H1 : Hp} {env : SEnv} {σ : L2.St} {S S1 : Sto} {x y z : Ex} {pos : Pos} {e tgt : Expr} {nm : Str}
theorem ti_enum {p tpos : Pos} {elts : List Expr} {kk : Nat} (hK : X.K = c.K) (hg : Gl X "enumerate") (hm : X.mg "enumerate" = none) (ha : PE X e (TEx c x)) (hs : starEach [e] X.env = (false, eval e X.env) :: starEach [] X.env) :
    PI X (.Tuple elts kk tpos) (.Call (.Name "enumerate" p) [e] [] pos) (TIx c (iEnumD x)) :=
  pi_imp (pi_enumK hg hm (pa_cons ha pa_nil hs) hs) fun σ H R ⟨P, env, S, s, h⟩ => tex_bindG s h fun r S1 v P1 H1 st1 s1 rp h1 => by
    cases q : seqD r.d with
    | none => simp only [q] at h1; exact h1.elim
    | some l =>
      simp only [q] at h1
      obtain ⟨k, a, xs, rfl, sq, rx⟩ := seqD_rep2 (c := c) q rp
      refine ⟨k, a, xs, rfl, by rw [hK]; exact sq H1 s1.le, h1 _ P1 H1 st1 s1.so ?_⟩
      have w := walk_enumK (K := X.K) (k := k) (a := a) (xs := xs)
      rw [show xs.length = (enumL 0 l).length by rw [enumL_len, rx.length]] at w
      refine walkD_pair w (fun H le => by rw [hK]; exact sq H le) fun i x y hi ex ey => ?_
      cases ex
      obtain ⟨d, e1, e2⟩ := rx.getV ey
      exact ⟨.int (i : Nat), d, by rw [enumL_get l 0 i d e1, Nat.zero_add], .int _, e2⟩
end
end Pv

set_option Elab.async false
set_option linter.all false
set_option maxRecDepth 100000
namespace Pv
open PySem PySem.Spec PyProof.Rows L2

/-! ### [e for .. in .. if .. for .. in .. if ..] -/
def compA (tg : Tx) (t e : Ex) (env : SEnv) : List D → List D → Sto → Out (List D)
  | [], acc, S => .ok acc S
  | d :: ds, acc, S => match tg env d with
    | none => .bad
    | some env1 => (nox (t env1 S)).bind fun r S => match r with
      | ⟨false, .bl true⟩ => (nox (e env1 S)).bind fun v S => if acc.length < line then compA tg t e env ds (acc ++ [v.d]) S else .bad
      | ⟨false, .bl false⟩ => compA tg t e env ds acc S
      | _ => .bad
def compA2 (tg : Tx) (t : Ex) (it1 : Ix) (vs1 : List Nat) (tg1 : Tx) (t1 e : Ex) (env : SEnv) : List D → List D → Sto → Out (List D)
  | [], acc, S => .ok acc S
  | d :: ds, acc, S => match tg env d with
    | none => .bad
    | some env1 => if calmE env1 = true then (nox (t env1 S)).bind fun r S => match r with
      | ⟨false, .bl true⟩ => (nox (it1 env1 S)).bind fun ds1 S => (compA tg1 t1 e (clr env1 vs1) ds1 acc S).bind fun acc1 S => compA2 tg t it1 vs1 tg1 t1 e env ds acc1 S
      | ⟨false, .bl false⟩ => compA2 tg t it1 vs1 tg1 t1 e env ds acc S
      | _ => .bad
      else .bad
def comp2X (vs : List Nat) (tg : Tx) (it : Ix) (t : Ex) (it1 : Ix) (vs1 : List Nat) (tg1 : Tx) (t1 e : Ex) : Ex := fun env S => (it env S).bind fun ds S => (compA2 tg t it1 vs1 tg1 t1 e (clr env vs) ds [] S).bind fun out S => .ok ⟨true, .lst out⟩ S
section
variable {X : Cx} {c : Cc} {P H P1 H1 : Hp} {env : SEnv} {σ : L2.St} {S S1 : Sto} {x y z : Ex} {pos : Pos} {e tgt : Expr} {nm : Str}
theorem clr_calm {env : SEnv} (h : calmE env = true) : ∀ (vs : List Nat) (j : Nat), (sget (clr env vs) j).isOwn = false
  | [], j => calm_at h j
  | v :: vs, j => by
    show (sget ((clr env vs).set v .un) j).isOwn = false
    by_cases hv : v = j
    · subst hv
      by_cases hl : v < (clr env vs).length
      · rw [sget_set_self hl]; rfl
      · rw [List.set_eq_of_length_le (by omega)]; exact clr_calm h vs v
    · rw [sget_set_ne hv]; exact clr_calm h vs j
/-- turns of a walk that keeps G -/
theorem it_turns {J : It} {n : Nat} {G : Hp → Prop} {Y : Nat → Hp → V → Hp → Prop} (w : Walk J n G Y) (Pv : Nat → Hp → Prop) {H0 : Hp} {Qd : Hp → Prop} {B : (Hp → Prop) → V → Hp → Prop} (h0 : Pv 0 H0) (hG : ∀ i H, Pv i H → G H)
    (hs : ∀ i x H H', i < n → Pv i H → Y i H x H' → B (Pv (i + 1)) x H') (hd : ∀ H, Pv n H → Qd H) :
    ∃ W : Nat → Nat → Hp → Prop, (∃ m, W 0 m H0) ∧ ∀ i m H, W i m H → (J.stop i H ∧ Qd H) ∨ (J.go i H ∧ ∃ Nx : Hp → Prop, (∀ H', Nx H' → ∃ m', m' < m ∧ W (i + 1) m' H') ∧ ∀ x H', J.yld i H x H' → B Nx x H') :=
  ⟨fun i m H => m + i = n ∧ Pv i H, ⟨n, rfl, h0⟩, fun i m H ⟨e, p⟩ => by
    cases m with
    | zero =>
      have e2 : i = n := by omega
      subst e2
      exact .inl ⟨w.stops H (hG i H p), hd H p⟩
    | succ m => exact .inr ⟨w.goes i H (by omega) (hG i H p), Pv (i + 1), fun H' p' => ⟨m, Nat.lt_succ_self m, by omega, p'⟩, fun x H' y => hs i x H H' (by omega) p (w.yields i H x H' (by omega) (hG i H p) y)⟩⟩
theorem drop_at {α : Type} {ds : List α} {d : α} {i : Nat} (hi : i < ds.length) (hd : ds[i]? = some d) : ds.drop i = d :: ds.drop (i + 1) := by
  rw [List.drop_eq_getElem_cons hi]
  rw [List.getElem?_eq_getElem hi] at hd
  rw [Option.some.inj hd]
theorem out0 {s : Stt c.in0 P H env σ S} : Stt c P H env σ S := ⟨s.st, s.r0, s.so, s.ln, fun j => by have := s.sl j; cases hq : sget env j <;> rw [hq] at this <;> exact this, s.dj⟩
theorem lc2_top {vs vs1 : List Nat} {tg tg1 : Tx} {it it1 : Ix} {t t1 e : Ex} {is is1 : List Nat} (his : ∀ i ∈ is, i ∈ vs) (his1 : ∀ i ∈ is1, i ∈ vs1) : ∀ σ H Q, TEx c (comp2X vs tg it t it1 vs1 tg1 t1 e) σ H Q →
    tLc2 (TIe c it) (TGx c.in0 is tg) (TTx c.in0 t) (TIx c.in0 it1) (TGx c.in0 is1 tg1) (TTx c.in0 t1) (TEx c.in0 e) vs vs1 σ H Q := by
  rintro σ H Q ⟨P, env, S, s, h⟩
  refine ⟨P, env, S, s, post_mono (post_bind.mp h) (fun ds S1 q J P1 H1 st so wd D0 nD => ?_) fun _ _ _ q => q⟩
  have s1 := s.step st so
  have q := post_bind.mp q
  have nP : P1 D0 = none := st.le.none nD
  have n0 : c.H0 D0 = none := s1.st.dom D0 nD
  have nown : ∀ j, (sget (Pv.clr env vs) j).isOwn = true → (wipe σ vs)[j]? ≠ some (some (.ref D0)) := fun j hj e2 => by
    obtain ⟨_, _, u, hu⟩ := (s1.clr vs).ownAt hj e2
    rw [nD] at hu; cases hu
  have kD : ∀ {Pa Ha Pb Hb : Hp}, Step c.ρ Pa Ha Pb Hb → Pa D0 = none → (∀ {w}, Ha D0 = some (.lst w) → Pb D0 = none ∧ Hb D0 = some (.lst w)) := fun {Pa Ha Pb Hb} sx pa {w} hw =>
    ⟨sx.new D0 _ (s.r0 D0 n0) pa hw (fun xs z => nomatch z) rfl, sx.hh D0 _ hw (s.r0 D0 n0) rfl⟩
  have back : ∀ {Pk Hk : Hp} {Sk : Sto}, Step c.ρ P1 H1 Pk Hk → StoOk c.K c.G c.ρ Pk Hk Sk → Stt c Pk Hk (Pv.clr env vs) (wipe σ vs) Sk := fun {Pk Hk Sk} a b => (s1.clr vs).step a b
  refine it_turns wd.w (B := fun Nx x H' => TGx c.in0 is tg x (wipe σ vs) H' _) (fun i H2 => ∃ P2 S2 acc av, StoOk c.K c.G c.ρ P2 H2 S2 ∧ Step c.ρ P1 H1 P2 H2 ∧ P2 D0 = none ∧ H2 D0 = some (.lst av) ∧ Reps c.K c.G P2 acc av ∧
      (compA2 tg t it1 vs1 tg1 t1 e (Pv.clr env vs) (ds.drop i) acc S2).post (fun out S' => QX c P H Q ⟨true, .lst out⟩ S') (XP c P H))
    ⟨P1, S1, [], [], so.alloc st.le nD, Step.alloc st.le nD, nP, upd_same, .nil, by rw [List.drop_zero]; exact q⟩ (fun i H2 ⟨P2, _, _, _, _, st2, _⟩ => ⟨P2, st2⟩) ?_ ?_
  · rintro i x H2 H3 hi ⟨P2, S2, acc, av, so2, st2, p2, d2, r2, q2⟩ ⟨d, hd, y⟩
    obtain ⟨P3, st3, so3, r3⟩ := y P2 S2 st2.pp st2.le so2
    have s3 := back (st2.trans st3) so3
    rw [drop_at hi hd] at q2
    unfold compA2 at q2
    obtain ⟨p3, d3⟩ := kD st3 p2 d2
    cases qt : tg (Pv.clr env vs) d with
    | none => rw [qt] at q2; exact q2.elim
    | some env3 =>
      rw [qt] at q2
      have cal : calmE env3 = true := by
        by_cases hcal : calmE env3 = true
        · exact hcal
        · simp only [hcal, if_false] at q2; exact q2.elim
      simp only [cal, if_true] at q2
      refine ⟨P3, Pv.clr env vs, S2, d, env3, s3.in0, r3, qt, fun σ' s4' hw => ⟨(hw vs his).trans (lc_top.wipe_wipe σ vs), ?_⟩⟩
      have s4 : Stt c P3 H3 env3 σ' S2 := out0 (s := s4')
      refine nox_tt s4 q2 (fun r Sx q => ite_inv q) fun b S5 P5 H5 st5 s5 q5 => ?_
      obtain ⟨p5, d5⟩ := kD st5 p3 d3
      have st15 := st2.trans (st3.trans st5)
      have r5 := r2.mono (st3.pp.trans st5.pp)
      cases b with
      | false => exact iteF ⟨P5, S5, acc, av, s5.so, st15, p5, d5, r5, q5⟩
      | true =>
        refine iteT ⟨P5, env3, S5, s5.in0, post_mono (nox_post (E' := EF) (post_bind.mp q5)) (fun ds1 S6 q6 J1 P6 H6 st6 so6 wd1 => ?_) fun _ _ _ q => q.elim⟩
        have s6 := s5.step st6 so6
        obtain ⟨p6, d6⟩ := kD st6 p5 d5
        have st16 := st15.trans st6
        have nown1 : ∀ j, (sget (Pv.clr env3 vs1) j).isOwn = true → (wipe σ' vs1)[j]? ≠ some (some (.ref D0)) := fun j hj e2 => by
          rw [clr_calm cal vs1 j] at hj; cases hj
        refine it_turns wd1.w (B := fun Nx1 x H' => TGx c.in0 is1 tg1 x (wipe σ' vs1) H' _) (fun j H7 => ∃ P7 S7 acc7 av7, Stt c P7 H7 (Pv.clr env3 vs1) (wipe σ' vs1) S7 ∧ Step c.ρ P1 H1 P7 H7 ∧ Same P6 P7 ∧ P7 D0 = none ∧ H7 D0 = some (.lst av7) ∧ Reps c.K c.G P7 acc7 av7 ∧
            (compA tg1 t1 e (Pv.clr env3 vs1) (ds1.drop j) acc7 S7).post (fun acc1 S' => (compA2 tg t it1 vs1 tg1 t1 e (Pv.clr env vs) (ds.drop (i + 1)) acc1 S').post (fun out S' => QX c P H Q ⟨true, .lst out⟩ S') (XP c P H)) (XP c P H))
          ⟨P6, S6, acc, av, s6.clr vs1, st16, Same.refl _, p6, d6, r5.mono st6.pp, by rw [List.drop_zero]; exact post_bind.mp q6⟩ (fun j H7 ⟨P7, _, _, _, s7, _, sm, _⟩ a u e => s7.le a u (sm a u e)) ?_ ?_
        · rintro j x1 H7 H8 hj ⟨P7, S7, acc7, av7, s7, st7, sm7, p7, d7, r7, q7⟩ ⟨dd, hdd, y1⟩
          obtain ⟨P8, st8, so8, r8⟩ := y1 P7 S7 sm7 s7.le s7.so
          have s8 := s7.step st8 so8
          rw [drop_at hj hdd] at q7
          unfold compA at q7
          obtain ⟨p8, d8⟩ := kD st8 p7 d7
          cases qt1 : tg1 (Pv.clr env3 vs1) dd with
          | none => rw [qt1] at q7; exact q7.elim
          | some env8 =>
            rw [qt1] at q7
            refine ⟨P8, Pv.clr env3 vs1, S7, dd, env8, s8.in0, r8, qt1, fun σ8 s9' hw1 => ⟨(hw1 vs1 his1).trans (lc_top.wipe_wipe σ' vs1), ?_⟩⟩
            have s9 : Stt c P8 H8 env8 σ8 S7 := out0 (s := s9')
            refine nox_tt s9 q7 (fun r Sx q => ite_inv q) fun b S10 P10 H10 st10 s10 q10 => ?_
            obtain ⟨p10, d10⟩ := kD st10 p8 d8
            have st710 := st8.trans st10
            cases b with
            | false => exact iteF ⟨P10, S10, acc7, av7, s7.step st710 s10.so, st7.trans st710, sm7.trans st710.pp, p10, d10, r7.mono st710.pp, q10⟩
            | true =>
              refine iteT (nox_in s10 q10 fun rv S11 vv P11 H11 st11 s11 r11 q11 => ?_)
              obtain ⟨p11, d11⟩ := kD st11 p10 d10
              have st711 := st710.trans st11
              have la := r7.length
              by_cases hl : acc7.length < line
              · rw [if_pos hl] at q11
                have s12 := s7.step st711 s11.so
                refine ⟨av7, d11, by rw [← la, ← line_eq]; exact hl, P11, S11, acc7 ++ [rv.d], av7 ++ [vv], s12.wr n0 p11 (by rw [d11]; trivial) nown1, (st7.trans st711).wr nD p11 (by rw [d11]; trivial), sm7.trans st711.pp, p11, upd_same, (r7.mono st711.pp).append (.cons r11 .nil), q11⟩
              · rw [if_neg hl] at q11; exact q11.elim
        · rintro H7 ⟨P7, S7, acc7, av7, s7, st7, sm7, p7, d7, r7, q7⟩
          rw [List.drop_length] at q7
          exact ⟨P7, S7, acc7, av7, s7.so, st7, p7, d7, r7, q7⟩
  · rintro H2 ⟨P2, S2, acc, av, so2, st2, p2, d2, r2, q2⟩
    rw [List.drop_length] at q2
    refine (show QX c P H Q ⟨true, .lst acc⟩ S2 from q2) (.ref D0) P2 H2 (st.trans st2) so2 ?_
    unfold RepR
    rw [if_pos rfl]
    exact ⟨D0, rfl, st.dom D0 nD, p2, .lst d2 r2⟩
theorem pd_lc2 {elt tgt1 iter iter1 : Expr} {ifs ifs1 : List Expr} {scope : Scope} {own : List (Str × Nat)} {tg tg1 : Tx} {it it1 : Ix} {t t1 e : Ex} {is is1 vs vs1 : List Nat} (hc : X.calm = true) (hN : X.N.Nodup) (hi : PI X tgt iter (TIe c it)) (ok : BlkOk X.N X.env.scope scope own) (hvs : own.map (·.2) = vs) (his : ∀ i ∈ is, i ∈ vs) (hv1 : ∀ i ∈ vs1, i ∈ vs) (his1 : ∀ i ∈ is1, i ∈ vs1)
    (hg : ∀ (s : Shared) (H : Hp) (C : Addr) (cl : List (Str × Addr)) (fp : List Addr), PG (X.blk s H scope (compEnvC scope cl C X.env) fp) tgt (TGx c.in0 is tg)) (ht : ∀ (s : Shared) (H : Hp) (C : Addr) (cl : List (Str × Addr)) (fp : List Addr), PTs (X.blk s H scope (compEnvC scope cl C X.env) fp) ifs (TTx c.in0 t))
    (hi1 : ∀ (s : Shared) (H : Hp) (C : Addr) (cl : List (Str × Addr)) (fp : List Addr), PI (X.blk s H scope (compEnvC scope cl C X.env) fp) tgt1 iter1 (TIx c.in0 it1))
    (hg1 : ∀ (s : Shared) (H : Hp) (C : Addr) (cl : List (Str × Addr)) (fp : List Addr), PG (X.blk s H scope (compEnvC scope cl C X.env) fp) tgt1 (TGx c.in0 is1 tg1)) (ht1 : ∀ (s : Shared) (H : Hp) (C : Addr) (cl : List (Str × Addr)) (fp : List Addr), PTs (X.blk s H scope (compEnvC scope cl C X.env) fp) ifs1 (TTx c.in0 t1))
    (he : ∀ (s : Shared) (H : Hp) (C : Addr) (cl : List (Str × Addr)) (fp : List Addr), PE (X.blk s H scope (compEnvC scope cl C X.env) fp) elt (TEx c.in0 e)) (hs : ∀ x, foldedSetIterable iter X.env x = pure x) (hs1 : ∀ env x, foldedSetIterable iter1 env x = pure x) :
    PE X (.ListComp elt [⟨tgt, iter, ifs, 0⟩, ⟨tgt1, iter1, ifs1, 0⟩] scope pos) (TEx c (comp2X vs tg it t it1 vs1 tg1 t1 e)) := by
  subst hvs
  exact pe_imp (pe_lc2 hc hN hi ok hv1 hg ht hi1 hg1 ht1 he hs hs1) (lc2_top his his1)
theorem sx_setLc2 {i : Nat} {y : Str} {py spos : Pos} {elt tgt1 iter iter1 : Expr} {ifs ifs1 : List Expr} {scope : Scope} {own : List (Str × Nat)} {tg tg1 : Tx} {it it1 : Ix} {t t1 e : Ex} {is is1 vs vs1 : List Nat} (hc : X.calm = true) (hN : X.N.Nodup) (hy : X.N[i]? = some y) (hyl : X.env.scope.names.lookup y = some .local)
    (hsw : swapsWith (.ListComp elt [⟨tgt, iter, ifs, 0⟩, ⟨tgt1, iter1, ifs1, 0⟩] scope pos) (some (.Name y py)) spos.line X.env = pure true) (hi : PI X tgt iter (TIe c it)) (ok : BlkOk X.N X.env.scope scope own) (hvs : own.map (·.2) = vs) (his : ∀ i ∈ is, i ∈ vs) (hv1 : ∀ i ∈ vs1, i ∈ vs) (his1 : ∀ i ∈ is1, i ∈ vs1)
    (hg : ∀ (s : Shared) (H : Hp) (C : Addr) (cl : List (Str × Addr)) (fp : List Addr), PG (X.blk s H scope (compEnvC scope cl C X.env) fp) tgt (TGx c.in0 is tg)) (ht : ∀ (s : Shared) (H : Hp) (C : Addr) (cl : List (Str × Addr)) (fp : List Addr), PTs (X.blk s H scope (compEnvC scope cl C X.env) fp) ifs (TTx c.in0 t))
    (hi1 : ∀ (s : Shared) (H : Hp) (C : Addr) (cl : List (Str × Addr)) (fp : List Addr), PI (X.blk s H scope (compEnvC scope cl C X.env) fp) tgt1 iter1 (TIx c.in0 it1))
    (hg1 : ∀ (s : Shared) (H : Hp) (C : Addr) (cl : List (Str × Addr)) (fp : List Addr), PG (X.blk s H scope (compEnvC scope cl C X.env) fp) tgt1 (TGx c.in0 is1 tg1)) (ht1 : ∀ (s : Shared) (H : Hp) (C : Addr) (cl : List (Str × Addr)) (fp : List Addr), PTs (X.blk s H scope (compEnvC scope cl C X.env) fp) ifs1 (TTx c.in0 t1))
    (he : ∀ (s : Shared) (H : Hp) (C : Addr) (cl : List (Str × Addr)) (fp : List Addr), PE (X.blk s H scope (compEnvC scope cl C X.env) fp) elt (TEx c.in0 e)) (hs : ∀ x, foldedSetIterable iter X.env x = pure x) (hs1 : ∀ env x, foldedSetIterable iter1 env x = pure x) :
    PS X (.Assign [.Name y py] (.ListComp elt [⟨tgt, iter, ifs, 0⟩, ⟨tgt1, iter1, ifs1, 0⟩] scope pos) spos) (TSx c (setS i (comp2X vs tg it t it1 vs1 tg1 t1 e))) := by
  subst hvs
  exact ps_imp (ps_setLc2 hc hN hy hyl hsw hi ok hv1 hg ht hi1 hg1 ht1 he hs hs1) fun D σ H h => lc2_top his his1 σ H _ (set_top D σ H h)
end
end Pv

set_option Elab.async false
set_option linter.all false
set_option maxRecDepth 100000
namespace Pv
open PySem PySem.Spec PyProof.Rows L2

section
variable {X : Cx} {c : Cc} {P H P1 H1 : Hp} {env : SEnv} {σ : L2.St} {S S1 : Sto} {x y z : Ex} {pos : Pos} {e tgt : Expr} {nm : Str}
/-! ### {"k": v, ..} -/
def evAll : List (Key × Ex) → SEnv → Sto → Out (List (Key × D))
  | [], _, S => .ok [] S
  | (k, x) :: l, env, S => (x env S).bind fun r S => (evAll l env S).bind fun rs S => .ok ((k, r.d) :: rs) S
def putAllD (acc : List (Key × D)) (l : List (Key × D)) : List (Key × D) := l.foldl (fun acc p => putD acc p.1 p.2) acc
def dispX (l : List (Key × Ex)) : Ex := fun env S => (evAll l env S).bind fun ps S => .ok ⟨true, .dK (putAllD [] ps)⟩ S
def disTr (c : Cc) (l : List (Key × Ex)) : List (TE × TE) := l.map fun p => (tC (kV p.1), TEx c p.2)
theorem mergeK_rep : ∀ (l : List (Key × D)) (kvs : List (Key × V)) (acc : List (Key × D)) (av : List (Key × V)), RepK c.K c.G P l kvs → RepK c.K c.G P acc av → RepK c.K c.G P (putAllD acc l) (mergeK av kvs)
  | [], kvs, acc, av, r, a => by cases r; exact a
  | p :: l, kvs, acc, av, r, a => by
    cases r with
    | @cons k d v l xs h r => exact mergeK_rep l xs (putD acc k d) (putK av k v) r (rep_putK h a)
theorem evAll_top {D0 : Addr} (n0 : c.H0 D0 = none) : ∀ (l : List (Key × Ex)) {P H : Hp} {S : Sto} {QQ : List (Key × D) → Sto → Prop} {Q : List (V × V) → Hp → Prop}, Stt c P H env σ S → P D0 = none → H D0 = some (.dK []) → (evAll l env S).post QQ (XP c P H) →
    (∀ ps S2 kvs P2 H2, QQ ps S2 → Step c.ρ P H P2 H2 → StoOk c.K c.G c.ρ P2 H2 S2 → P2 D0 = none → H2 D0 = some (.dK []) → RepK c.K c.G P2 ps kvs → kvs.length = l.length → Q (kvs.map fun kv => (kV kv.1, kv.2)) H2) → tPairs (disTr c l) σ H Q
  | [], P, H, S, QQ, Q, s, p0, d0, h, k => k [] S [] P H h (Step.refl s.le) s.so p0 d0 .nil rfl
  | (kk, x) :: l, P, H, S, QQ, Q, s, p0, d0, h, k => by
    show TEx c x σ H _
    refine tex_bindG s h fun r S1 v P1 H1 st1 s1 rp1 h1 => ?_
    have k1 := own_kept s.r0 st1 n0 p0 d0 (fun xs z => nomatch z) rfl
    refine evAll_top n0 l s1 k1.1 k1.2 (post_mono (post_bind.mp h1) (fun a b q => q) fun _ _ _ q => q.step st1) fun ps S2 kvs P2 H2 q st2 so2 p2 d2 rk hl => ?_
    exact k ((kk, r.d) :: ps) S2 ((kk, v) :: kvs) P2 H2 q (st1.trans st2) so2 p2 d2 (.cons (rp1.mono st2.pp) rk) (congrArg (· + 1) hl)
theorem disp_top {l : List (Key × Ex)} (h15 : l.length ≤ 15) : ∀ σ H Q, TEx c (dispX l) σ H Q → tDisp (disTr c l) σ H Q := fun σ H Q ⟨P, env, S, s, h⟩ p n => by
  have st : Step c.ρ P H P (upd H p (.dK [])) := Step.alloc s.le n
  have s0 := s.step st (s.so.alloc s.le n)
  have n0 : c.H0 p = none := s.st.dom p n
  refine evAll_top n0 l s0 (s.le.none n) upd_same (xp_step st (post_bind.mp (show ((evAll l env S).bind fun ps S => Out.ok (⟨true, .dK (putAllD [] ps)⟩ : R) S).post (QX c P H Q) (XP c P H) from h)) fun _ _ q => q) fun ps S2 kvs P2 H2 q st2 so2 p2 d2 rk hl => ?_
  refine ⟨d2, kvs, rfl, by rw [hl]; exact h15, ?_⟩
  refine (show QX c P H Q ⟨true, .dK (putAllD [] ps)⟩ S2 from q) (.ref p) P2 _ ((st.trans st2).wr n p2 (by rw [d2]; trivial)) (so2.wr (s.new0 p n)) ?_
  unfold RepR
  rw [if_pos rfl]
  exact ⟨p, rfl, n, p2, .dK upd_same (mergeK_rep _ _ _ _ rk .nil)⟩
theorem pp_nil {q : Pos} : PPs X q [] [] (disTr c []) := pps_nil
theorem pp_cons {q : Pos} {z : Str} {v : Expr} {ks : List (Option Expr)} {vs : List Expr} {l : List (Key × Ex)} {ke : Expr} (hk : PE X ke (tC (.str z))) (hv : PE X v (TEx c x)) (hr : PPs X q ks vs (disTr c l)) : PPs X q (some ke :: ks) (v :: vs) (disTr c ((.inr z, x) :: l)) := pps_cons hk hv hr
theorem pd_disp {l : List (Key × Ex)} {keys : List (Option Expr)} {values : List Expr} (h : PPs X pos keys values (disTr c l)) (hall : keys.all (·.isSome) = true) (hl : keys.length = values.length) (h0 : keys ≠ []) (h15 : keys.length ≤ 15) (hl15 : l.length ≤ 15) :
    PE X (.Dict keys values pos) (TEx c (dispX l)) := pe_imp (pe_disp h hall hl h0 h15) (disp_top hl15)
/-! ### list(d) -/
theorem keys_laid : ∀ {kvs : List (List Key × V)} {bs : List Addr} {l : List (List Key × D)} {P : Hp}, IsKeys H kvs bs → Le P H → StoOk c.K c.G c.ρ P H S → l.map (·.1) = kvs.map (·.1) → ∃ P2, Step c.ρ P H P2 H ∧ StoOk c.K c.G c.ρ P2 H S ∧ Reps c.K c.G P2 (l.map fun p => D.tup (p.1.map keyD)) (bs.map V.ref)
  | [], bs, l, P, k, le, so, hm => by
    cases k
    cases l with
    | nil => exact ⟨P, Step.refl le, so, .nil⟩
    | cons _ _ => simp at hm
  | p :: kvs, bs, l, P, k, le, so, hm => by
    cases k with
    | cons k1 k2 =>
      cases l with
      | nil => simp at hm
      | cons q l =>
        simp only [List.map_cons, List.cons.injEq] at hm
        obtain ⟨P1, st1, so1, r1⟩ := tup_here le so k1
        obtain ⟨P2, st2, so2, r2⟩ := keys_laid (l := l) k2 st1.le so1 hm.2
        refine ⟨P2, st1.trans st2, so2, .cons ?_ r2⟩
        show Rep c.K c.G P2 (D.tup (q.1.map keyD)) _
        rw [hm.1]
        exact r1.mono st2.pp
theorem RepT.keys {K : PySem.W.Frag} {G : Nat → Option (Addr × List Str)} : ∀ {l : List (List Key × D)} {kvs : List (List Key × V)}, RepT K G P l kvs → l.map (·.1) = kvs.map (·.1)
  | _, _, .nil => rfl
  | _, _, .cons _ r => congrArg (_ :: ·) (RepT.keys r)
def listKD (d : D) : Option R := match d with
  | .dT l => some ⟨true, .lst (l.map fun p => .tup (p.1.map keyD))⟩
  | d => listD d
theorem cd_listK (hK : X.K = c.K) (hc : X.calm = true) : CallR X (.type "list") (rB1 c listKD) := cb_imp ((cd_list (c := c) hK).or (call_list_dT hc)) fun vs H Q ⟨P, S, a, r, v, ev, le, so, rd, e, q⟩ => by
  by_cases hd : ∃ l, a = .dT l
  · obtain ⟨l, rfl⟩ := hd
    cases e
    right
    have key : ∃ (d : Addr) (kvs : List (List Key × V)), v = .ref d ∧ Rd H d (.dT kvs) ∧ RepT c.K c.G P l kvs := by
      cases rd with
      | rep rp => cases rp with
        | dT h r => exact ⟨_, _, rfl, le.rd h, r⟩
      | dT h r => exact ⟨_, _, rfl, h, r⟩
    obtain ⟨d, kvs, rfl, hr, rt⟩ := key
    refine ⟨d, kvs, ev, hr, fun p bs np ik => ?_⟩
    obtain ⟨P2, st, so2, rr⟩ := keys_laid ik le so rt.keys
    exact q (.ref p) P2 _ (st.trans (Step.alloc st.le np)) (so2.alloc st.le np) (by unfold RepR; rw [if_pos rfl]; exact ⟨p, rfl, np, st.le.none np, .lst upd_same rr⟩)
  · left
    refine ⟨P, S, a, r, v, ev, le, so, rd, ?_, q⟩
    cases a <;> first | exact e | exact absurd ⟨_, rfl⟩ hd
end
end Pv

set_option Elab.async false
set_option linter.all false
set_option maxRecDepth 100000
namespace Pv
open PySem PySem.Spec PyProof.Rows L2
/-! ### a list or dict of one's own, from here on for good -/
section
variable {X : Cx} {c : Cc} {P H : Hp} {env : SEnv} {σ : L2.St} {S : Sto} {st : Stmt} {b : Sx}
theorem Stt.frz {i : Nat} {d : D} (s : Stt c P H env σ S) (q : sget env i = .own d) : ∃ P1, Same P P1 ∧ Stt c P1 H (env.set i (.sh d)) σ S := by
  have sl := s.sl i
  rw [q] at sl
  obtain ⟨a, e, hp, h0, r⟩ := sl
  obtain ⟨u, hu, mu, rp⟩ := r.rep hp
  have hi : i < env.length := by
    rcases Nat.lt_or_ge i env.length with h | h
    · exact h
    · unfold sget at q; rw [List.getD_eq_getElem?_getD, List.getElem?_eq_none h] at q; cases q
  have ho : (sget env i).isOwn = true := by rw [q]; rfl
  have sm : Same P (upd P a u) := fun b o e => by rw [upd_ne (ne_of_none e hp)]; exact e
  have io : ∀ {j : Nat}, (sget (env.set i (.sh d)) j).isOwn = true → (sget env j).isOwn = true := fun {j} h => by
    by_cases hj : i = j
    · subst hj; exact ho
    · rw [sget_set_ne hj] at h; exact h
  refine ⟨upd P a u, sm, s.st.freeze h0 (s.r0 a h0) hp hu (ntb_mut mu), s.r0, s.so.freeze (s.r0 a h0) hp, by rw [List.length_set]; exact s.ln, fun j => ?_, fun j k b e1 e2 e3 e4 => s.dj j k b (io e1) (io e2) e3 e4⟩
  by_cases hj : i = j
  · subst hj
    rw [sget_set_self hi]
    exact ⟨_, e, rp⟩
  · rw [sget_set_ne hj]
    have sj := s.sl j
    have ne : ∀ b, (sget env j).isOwn = true → σ[j]? = some (some (.ref b)) → b ≠ a := fun b ob eb z => hj (s.dj i j a ho ob e (by rw [← z]; exact eb))
    cases qj : sget env j with
    | un => trivial
    | sh d => rw [qj] at sj; obtain ⟨v, e1, r1⟩ := sj; exact ⟨v, e1, r1.mono sm⟩
    | ref m => rw [qj] at sj; exact sj
    | own d2 =>
      rw [qj] at sj ne
      obtain ⟨b, eb, hpb, h0b, rb⟩ := sj
      exact ⟨b, eb, by rw [upd_ne (ne b rfl eb)]; exact hpb, h0b, rb.mono sm fun w hw => hw⟩
    | lk d2 =>
      rw [qj] at sj ne
      obtain ⟨b, od2, w, eb, hpb, h0b, hf, rb⟩ := sj
      exact ⟨b, od2, w, eb, by rw [upd_ne (ne b rfl eb)]; exact hpb, h0b, hf, rb.mono sm fun w' hw => hw⟩
def frzS (i : Nat) (b : Sx) : Sx := fun env S => match sget env i with
  | .own d => b (env.set i (.sh d)) S
  | .sh _ => b env S
  | _ => .bad
theorem sx_frz (i : Nat) (h : PS X st (TSx c b)) : PS X st (TSx c (frzS i b)) :=
  ps_imp h fun D σ H ⟨P, env, S, s, w⟩ => by
    unfold frzS at w
    cases q : sget env i with
    | own d =>
      rw [q] at w
      obtain ⟨P1, sm, s1⟩ := s.frz q
      exact ⟨P1, _, S, s1, PF.step sm w⟩
    | sh d =>
      rw [q] at w
      exact ⟨P, env, S, s, w⟩
    | _ => rw [q] at w; exact w.elim
end
end Pv

set_option Elab.async false
set_option linter.all false
set_option maxRecDepth 100000
namespace Pv
open PySem PySem.Spec PyProof.Rows L2
/-! ### objects: fields, methods, making one -/
theorem lookup_at {f : Str} {v : V} : ∀ {fs : List (Str × V)} {k : Nat}, fs[k]? = some (f, v) → f ∉ (fs.take k).map (·.1) → fs.lookup f = some v
  | [], k, h, _ => by simp at h
  | (g, w) :: fs, 0, h, _ => by
    simp at h
    obtain ⟨rfl, rfl⟩ := h
    simp [List.lookup]
  | (g, w) :: fs, k + 1, h, hn => by
    simp only [List.take_succ_cons, List.map_cons, List.mem_cons, not_or] at hn
    have ne : (f == g) = false := by rw [beq_eq_false_iff_ne]; exact hn.1
    rw [List.lookup, ne]
    exact lookup_at (k := k) (by simpa using h) hn.2
theorem names_get {ns : List Str} {fs : List (Str × V)} {n k : Nat} {f : Str} {w : V} (h : fs.map (·.1) = ns.take n) (hv : (fs.map (·.2))[k]? = some w) (hf : ns[k]? = some f) : fs[k]? = some (f, w) := by
  rw [List.getElem?_map] at hv
  cases q : fs[k]? with
  | none => rw [q] at hv; cases hv
  | some p =>
    rw [q] at hv
    obtain ⟨g, u⟩ := p
    cases hv
    have e : (fs.map (·.1))[k]? = some g := by rw [List.getElem?_map, q]; rfl
    rw [h, List.getElem?_take] at e
    split at e
    · rw [hf] at e; cases e; rfl
    · cases e
theorem names_no {ns : List Str} {fs : List (Str × V)} {n k : Nat} {f : Str} (h : fs.map (·.1) = ns.take n) (hn : f ∉ ns.take k) : f ∉ (fs.take k).map (·.1) := by
  rw [List.map_take, h, List.take_take]
  exact fun m => hn (List.take_subset_take_left _ (Nat.min_le_left _ _) m)
theorem lookup_none {f : Str} : ∀ {fs : List (Str × V)}, f ∉ fs.map (·.1) → fs.lookup f = none
  | [], _ => rfl
  | (g, w) :: fs, h => by
    simp only [List.map_cons, List.mem_cons, not_or] at h
    have ne : (f == g) = false := by rw [beq_eq_false_iff_ne]; exact h.1
    rw [List.lookup, ne]
    exact lookup_none h.2
theorem putF_app {f : Str} {v : V} : ∀ {fs : List (Str × V)}, f ∉ fs.map (·.1) → putF f v fs = fs ++ [(f, v)]
  | [], _ => rfl
  | (g, w) :: fs, h => by
    simp only [List.map_cons, List.mem_cons, not_or] at h
    rw [putF, if_neg fun e => h.1 e.symm, putF_app h.2]
    rfl
theorem putF_set {f : Str} {v w : V} : ∀ {fs : List (Str × V)} {k : Nat}, fs[k]? = some (f, w) → f ∉ (fs.take k).map (·.1) → putF f v fs = fs.set k (f, v)
  | [], k, h, _ => by simp at h
  | (g, u) :: fs, 0, h, _ => by
    simp at h
    obtain ⟨rfl, rfl⟩ := h
    rw [putF, if_pos rfl]
    rfl
  | (g, u) :: fs, k + 1, h, hn => by
    simp only [List.take_succ_cons, List.map_cons, List.mem_cons, not_or] at hn
    rw [putF, if_neg fun e => hn.1 e.symm, putF_set (k := k) (by simpa using h) hn.2]
    rfl
def fldD (c0 k : Nat) : D → Option R
  | .obj c1 l => if c1 = c0 then (l[k]?).map fun d => ⟨false, d⟩ else none
  | _ => none
def fldX (c0 k : Nat) (x : Ex) : Ex := op1 (fldD c0 k) x
def fldV (c0 k i : Nat) : Ex := fun env S => match sget env i with
  | .ref n => (match S[n]? with
    | some d => (match fldD c0 k d with
      | some r => .ok r S
      | none => .bad)
    | none => .bad)
  | _ => .bad
section
variable {X : Cx} {c : Cc} {P H P1 H1 : Hp} {env : SEnv} {σ : L2.St} {S S1 : Sto} {x y : Ex} {e : Expr} {es : List Expr} {f nm : Str} {pos p pos2 : Pos} {ns : List Str} {C : Addr} {c0 k : Nat}
theorem get_fld {K : PySem.W.Frag} {G : Nat → Option (Addr × List Str)} {l : List D} {fs : List (Str × V)} {d : D} (hf : ns[k]? = some f) (hn : f ∉ ns.take k) (n : fs.map (·.1) = ns.take l.length) (rl : Reps K G P l (fs.map (·.2))) (e : l[k]? = some d) : ∃ w, fs.lookup f = some w ∧ Rep K G P d w := by
  obtain ⟨w, e2, rw'⟩ := rl.get e
  exact ⟨w, lookup_at (names_get n e2 hf) (names_no n hn), rw'⟩
theorem pd_fld (c0 k : Nat) (hK : X.K = c.K) (hG : c.G c0 = some (C, ns)) (hf : ns[k]? = some f) (hn : f ∉ ns.take k) (hC : Cls X.K C) (hN : NoAttr X.K C f) (hb : attributeBase e f X.env (eval e X.env) = eval e X.env) (h : PE X e (TEx c x)) : PE X (.Attribute e f pos) (TEx c (fldX c0 k x)) :=
  pe_imp (pe_fld h hb) fun σ H Q ⟨P, env, S, s, h⟩ => tex_bind s h fun r S1 v P1 H1 st1 s1 rp1 h1 => by
    cases q : fldD c0 k r.d with
    | none => rw [q] at h1; exact h1.elim
    | some r2 =>
      rw [q] at h1
      generalize r.d = d at rp1 q
      cases rp1 with
      | @obj a C1 dx fs ns1 c1 l ha hG1 hns rl =>
        unfold fldD at q
        dsimp only at q
        split at q
        · rename_i hc
          subst hc
          rw [hG] at hG1
          cases hG1
          obtain ⟨d, e1, e2⟩ := Option.map_eq_some_iff.mp q
          subst e2
          obtain ⟨w, e3, rw'⟩ := get_fld hf hn hns rl e1
          have hH : H1 a = some (.ins C dx fs) := by
            rcases s1.le _ _ ha with ⟨q, _⟩ | ⟨m, _⟩ | ⟨_, m, _⟩
            · exact q
            · exact m.elim
            · cases m
          exact ⟨a, C, dx, fs, w, rfl, hH, hC, hN, e3, PX.ret s1 h1 rw'⟩
        · cases q
      | _ => cases q
theorem pd_fldV (c0 k i : Nat) (hK : X.K = c.K) (hG : c.G c0 = some (C, ns)) (hf : ns[k]? = some f) (hn : f ∉ ns.take k) (hC : Cls X.K C) (hNa : NoAttr X.K C f) (hN : X.N[i]? = some nm) (hv : Vis X.env.scope nm) (hd : (nm == ("__debug__" : Str)) = false) (hcd : (nm == ("__classdict__" : Str)) = false)
    (hb : attributeBase (.Name nm p) f X.env (eval (.Name nm p) X.env) = eval (.Name nm p) X.env) : PE X (.Attribute (.Name nm p) f pos) (TEx c (fldV c0 k i)) :=
  pe_imp (pe_fld (pe_var hN hv hd hcd) hb) fun σ H Q ⟨P, env, S, s, h⟩ => by
    unfold fldV at h
    have sl := s.sl i
    cases q : sget env i with
    | ref n =>
      rw [q] at h sl
      obtain ⟨a, e, hr⟩ := sl
      dsimp only at h
      cases q1 : S[n]? with
      | none => rw [q1] at h; exact h.elim
      | some d =>
        rw [q1] at h
        dsimp only at h
        cases q2 : fldD c0 k d with
        | none => rw [q2] at h; exact h.elim
        | some r2 =>
          rw [q2] at h
          obtain ⟨b, hb, pb, r⟩ := s.so.at_ n d q1
          rw [hr] at hb
          cases hb
          cases r with
          | @obj _ C1 dx fs ns1 c1 l ha hG1 hns rl =>
            unfold fldD at q2
            dsimp only at q2
            split at q2
            · rename_i hc
              subst hc
              rw [hG] at hG1
              cases hG1
              obtain ⟨d, e1, e2⟩ := Option.map_eq_some_iff.mp q2
              subst e2
              obtain ⟨w, e3, rw'⟩ := get_fld hf hn hns rl e1
              exact ⟨.ref a, e, a, C, dx, fs, w, rfl, ha, hC, hNa, e3, PX.ret s h rw'⟩
            · cases q2
          | _ => cases q2
    | _ => rw [q] at h; exact h.elim
/-- self.f = e, self a cell -/
def fstS (c0 k i : Nat) (x : Ex) : Sx := fun env S => (x env S).bind fun r S1 => match sget env i with
  | .ref n => (match S1[n]? with
    | some (.obj c1 l) => if c1 = c0 ∧ k ≤ l.length ∧ l.length < 100 then .ok (.nx env) (S1.set n (.obj c1 (if k = l.length then l ++ [r.d] else l.set k r.d))) else .bad
    | _ => .bad)
  | _ => .bad
theorem put_fld {K : PySem.W.Frag} {G : Nat → Option (Addr × List Str)} {l : List D} {fs : List (Str × V)} {d : D} {w : V} (hf : ns[k]? = some f) (hn : f ∉ ns.take k) (n : fs.map (·.1) = ns.take l.length) (rl : Reps K G P l (fs.map (·.2))) (hk : k ≤ l.length) (rd : Rep K G P d w) :
    (putF f w fs).map (·.1) = ns.take (if k = l.length then l ++ [d] else l.set k d).length ∧ Reps K G P (if k = l.length then l ++ [d] else l.set k d) ((putF f w fs).map (·.2)) := by
  by_cases e : k = l.length
  · subst e
    rw [if_pos rfl]
    have hn2 : f ∉ fs.map (·.1) := by rw [n]; exact hn
    rw [putF_app hn2, List.map_append, List.map_append, n, List.length_append]
    refine ⟨?_, rl.append (.cons rd .nil)⟩
    show ns.take l.length ++ [f] = ns.take (l.length + 1)
    rw [List.take_add_one, hf]
    rfl
  · rw [if_neg e]
    have hl : k < l.length := by omega
    obtain ⟨u, eu, _⟩ := rl.get (List.getElem?_eq_getElem hl)
    rw [putF_set (names_get n eu hf) (names_no n hn), List.map_set, List.map_set, List.length_set]
    refine ⟨?_, rl.set rd k⟩
    have hk2 : k < fs.length := by
      have := congrArg List.length n
      have h2 := rl.length
      rw [List.length_map] at h2
      omega
    have : (fs.map (·.1))[k]? = some f := by rw [List.getElem?_map, names_get n eu hf]; rfl
    rw [← n]
    obtain ⟨h1, h2⟩ := List.getElem?_eq_some_iff.mp this
    conv => lhs; rw [← h2]
    exact List.set_getElem_self h1
theorem sx_fst (c0 k i : Nat) (hK : X.K = c.K) (hG : c.G c0 = some (C, ns)) (hf : ns[k]? = some f) (hn : f ∉ ns.take k) (hC : Cls X.K C) (hNa : NoAttr X.K C f) (hN : X.N[i]? = some nm) (hv : Vis X.env.scope nm) (hd : (nm == ("__debug__" : Str)) = false) (hcd : (nm == ("__classdict__" : Str)) = false) (he : PE X e (TEx c x))
    (hs : swapsWith e (some (.Attribute (.Name nm p) f pos2)) pos.line X.env = pure false) : PS X (.Assign [.Attribute (.Name nm p) f pos2] e pos) (TSx c (fstS c0 k i x)) :=
  ps_imp (ps_fld (pe_var hN hv hd hcd) he hs) fun D0 σ H ⟨P, env, S, s, h⟩ => te_in s h fun r S1 v P1 H1 st1 s1 rp h1 => by
    have sl := s1.sl i
    cases q : sget env i with
    | ref n =>
      rw [q] at h1 sl
      obtain ⟨a, e, hr⟩ := sl
      dsimp only at h1
      cases q1 : S1[n]? with
      | none => rw [q1] at h1; exact h1.elim
      | some d =>
        rw [q1] at h1
        obtain ⟨b, hb, pb, ro⟩ := s1.so.at_ n d q1
        rw [hr] at hb
        cases hb
        cases ro with
        | @obj _ C1 dx fs ns1 c1 l ha hG1 hns rl =>
          dsimp only at h1
          split at h1
          · rename_i hc
            obtain ⟨hc1, hc2, hc3⟩ := hc
            subst hc1
            rw [hG] at hG1
            cases hG1
            obtain ⟨z1, z2⟩ := put_fld hf hn hns rl hc2 rp
            have fl : fs.length < 1000 := by
              have h2 := rl.length
              rw [List.length_map] at h2
              omega
            refine ⟨.ref a, e, a, C, dx, fs, rfl, ha, hC, hNa, fl, ?_⟩
            exact h1 P1 _ σ st1.pp (s1.wrRef hr (List.getElem?_eq_some_iff.mp q1).1 (.obj upd_same hG z1 z2))
          · exact h1.elim
        | _ => exact h1.elim
    | _ => rw [q] at h1; exact h1.elim
/-! ### methods -/
structure MethC (P : Program) (w : World) (K : PySem.W.Frag) (mg : Str → Option Value) (base : Heap) (G : Nat → Option (Addr × List Str)) (xc : Nat → Value) (k : Nat) (c0 : Nat) (m : Str) (n : Nat) (cf : List Arg → Sto → Out R) : Prop where
  ex : ∃ (C f : Addr) (ns : List Str) (fd : FuncData) (ps : List Str), G c0 = some (C, ns) ∧ Cls K C ∧ m ∉ ns ∧ Meth K C m f ∧ FnOk P w K mg base (L2.CX P w) k f fd ps (spF K G xc (n + 1) cf) ∧ Binds K fd ps []
def methX (cf : Nat → List Arg → Sto → Out R) (c0 i : Nat) (x : Ex) (l : Ax) : Ex := fun env S => (x env S).bind fun r S1 => match r.d with
  | .obj c1 _ => if c1 = c0 then (l env S1).bind fun as S2 => cf i (.sh r.d :: as) S2 else .bad
  | _ => .bad
theorem pd_meth {cf : Nat → List Arg → Sto → Out R} {n : Nat} {l : Ax} {o : Expr} {m : Str} {apos : Pos} (c0 i : Nat) (hK : X.K = c.K) {j : Nat} (M : MethC X.prog X.w X.K X.mg X.base c.G c.xc j c0 m n (cf i)) (hr : Room j X.A) (px : Passes (L2.CX X.prog X.w) X c.E) (ho : PE X o (TEx c x)) (ha : PA X (e :: es) (TAx c l)) (hl : LenA l n)
    (hst : starEach (e :: es) X.env = (false, eval e X.env) :: starEach es X.env) (hpl : (backTo pos (starEach es X.env)).any (·.1) = false) {pl : Sem Bool}
    (ht : eval (.Call (.Attribute o m apos) (e :: es) [] pos) X.env = (do
      let ov ← eval o X.env
      standAt apos.atName
      let (f, first) ← holding [ov] (getMethod ov m pl)
      callWith pos f first (backTo pos (starEach (e :: es) X.env)) (backToKw pos (keywordEach [] X.env)))) : PE X (.Call (.Attribute o m apos) (e :: es) [] pos) (TEx c (methX cf c0 i x l)) := by
  obtain ⟨C, f, ns, fd, ps, hG, hC, hm, hM, F, hb⟩ := M.ex
  refine pe_imp (pe_meth ho hC hM F hr hb .nil px ha hst hpl ht) fun σ H Q ⟨P, env, S, s, h⟩ => tex_bind s h fun r S1 v P1 H1 st1 s1 rp1 h1 => ?_
  cases q : r.d with
  | obj c1 l1 =>
    rw [q] at h1 rp1
    dsimp only at h1
    split at h1
    · rename_i hc
      subst hc
      cases rp1 with
      | @obj a C1 dx fs ns1 _ l2 hp hG1 hns rl =>
        rw [hG] at hG1
        cases hG1
        have hH : H1 a = some (.ins C dx fs) := by
          rcases s1.le _ _ hp with ⟨q, _⟩ | ⟨m, _⟩ | ⟨_, m, _⟩
          · exact q
          · exact m.elim
          · cases m
        refine ⟨a, dx, fs, rfl, hH, lookup_none (by rw [hns]; exact fun h => hm (List.mem_of_mem_take h)), ?_⟩
        have hlen : (l env S1).post (fun as _ => as.length = n) fun _ _ _ => True := by
          cases q : l env S1 with
          | ok as S2 => exact hl _ _ _ _ q
          | exc _ _ _ => trivial
          | bad => rw [q] at h1; exact h1.elim
        refine ⟨P1, env, S1, s1, ?_⟩
        have h2 := post_bind.mp h1
        cases q : l env S1 with
        | ok as S2 =>
          rw [q] at h2 hlen
          intro vs P2 H2 st so rr
          rw [hK]
          refine ⟨c.ρ, P2, S2, .sh (.obj c1 l1) :: as, st.le, so, .cons (show ArgOk _ _ _ _ (.sh (.obj c1 l1)) (.ref a) from (Rep.obj hp hG hns rl).mono st.pp) (by rw [List.append_nil]; exact rr), ?_, ?_⟩
          · show (vs ++ []).length + 1 = n + 1
            rw [List.append_nil, ← Paired.length rr, hlen]
          · exact PX.step (c := c) st (show PX c P1 H1 Q (cf i (.sh (.obj c1 l1) :: as) S2) from h2)
        | exc cl fs S2 => rw [q] at h2; exact h2
        | bad => rw [q] at h2; exact h2.elim
    · exact h1.elim
  | _ => rw [q] at h1; exact h1.elim
/-! ### a new instance -/
def mkF (c0 : Nat) (init : List Arg → Sto → Out R) : List Arg → Sto → Out R := fun as S => match init (.ref S.length :: as) (S ++ [.obj c0 []]) with
  | .ok ⟨false, .non⟩ S2 => (match S2[S.length]? with
    | some d => .ok ⟨true, d⟩ (S2.take S.length)
    | none => .bad)
  | .ok _ _ => .bad
  | .exc cl fs S2 => .exc cl fs (S2.take S.length)
  | .bad => .bad
structure MkC (P : Program) (w : World) (K : PySem.W.Frag) (mg : Str → Option Value) (base : Heap) (G : Nat → Option (Addr × List Str)) (xc : Nat → Value) (k : Nat) (nm : Str) (n : Nat) (cf : List Arg → Sto → Out R) : Prop where
  ex : ∃ (C f : Addr) (ns : List Str) (fd : FuncData) (ps : List Str) (c0 j : Nat) (init : List Arg → Sto → Out R), G c0 = some (C, ns) ∧ Mk K C f ∧ FnOk P w K mg base (L2.CX P w) j f fd ps (spF K G xc (n + 1) init) ∧ j + 1 ≤ k ∧ mg nm = some (.ref C) ∧ Binds K fd ps [] ∧ cf = mkF c0 init
theorem StoOk.grow {K : PySem.W.Frag} {G : Nat → Option (Addr × List Str)} {ρ : List Addr} {a : Addr} {d : D} (so : StoOk K G ρ P H S) (na : a ∉ ρ) (n1 : P a = none) (ro : Root K G P H d a) : StoOk K G (ρ ++ [a]) P H (S ++ [d]) := by
  have hl := so.len
  refine ⟨by rw [List.length_append, List.length_append, hl]; rfl, List.nodup_append.mpr ⟨so.nd, by simp, fun x hx y hy => by rw [List.mem_singleton.mp hy]; exact fun z => na (by rw [← z]; exact hx)⟩, fun m d e => ?_⟩
  by_cases hm : m < S.length
  · rw [List.getElem?_append_left hm] at e
    obtain ⟨b, hb, pb, rb⟩ := so.at_ m d e
    exact ⟨b, by rw [List.getElem?_append_left (by rw [hl]; exact hm)]; exact hb, pb, rb⟩
  · rw [List.getElem?_append_right (by omega)] at e
    have hm2 : m = S.length := by
      cases h3 : m - S.length with
      | zero => omega
      | succ k => rw [h3] at e; simp at e
    subst hm2
    simp at e
    subst e
    exact ⟨a, by rw [List.getElem?_append_right (by omega), hl]; simp, n1, ro⟩
theorem ArgsGrow {K : PySem.W.Frag} {G : Nat → Option (Addr × List Str)} {ρ : List Addr} {P : Hp} {a : Addr} : ∀ {as : List Arg} {vs : List V}, ArgsOk K G ρ P as vs → ArgsOk K G (ρ ++ [a]) P as vs
  | _, _, .nil => .nil
  | _, _, .cons (a := x) h1 h2 => .cons (match x, h1 with
    | .sh d, h => h
    | .ref m, ⟨b, e1, e2⟩ => ⟨b, e1, by rw [List.getElem?_append_left (List.getElem?_eq_some_iff.mp e2).1]; exact e2⟩) (ArgsGrow h2)
theorem made_ok {n : Nat} {c1 : Nat} {init : List Arg → Sto → Out R} {as : List Arg} {vs : List V} {Q : VK} {a dx : Addr} (le : Le P H) (so : StoOk c.K c.G c.ρ P H S) (rr : ArgsOk c.K c.G c.ρ P as vs) (hG : c.G c1 = some (C, ns)) (na : H a = none) (nd : H dx = none) (ne : dx ≠ a)
    (hn : vs.length = n) (h : PX c P H Q (mkF c1 init as S)) : spF c.K c.G c.xc (n + 1) init (.ref a :: vs) (upd (upd H dx (.own a)) a (.ins C dx [])) (fun v H2 => v = .non ∧ Q (.ref a) H2) c.E := by
  have na2 : a ∉ c.ρ := so.new na
  have sH : Same H (upd (upd H dx (.own a)) a (.ins C dx [])) := fun b o e => by
    rw [upd_ne (ne_of_none e na), upd_ne (ne_of_none e nd)]
    exact e
  have le2 : Le P (upd (upd H dx (.own a)) a (.ins C dx [])) := le.ext sH
  have Pa : P a = none := le.none na
  have so1 : StoOk c.K c.G c.ρ P (upd (upd H dx (.own a)) a (.ins C dx [])) S := ⟨so.len, so.nd, fun m d e => by
    obtain ⟨b, hb, pb, r⟩ := so.at_ m d e
    exact ⟨b, hb, pb, r.mono (Same.refl P) fun u hu => sH _ _ hu⟩⟩
  have so2 := so1.grow na2 Pa (d := .obj c1 []) (Root.obj (C := C) (dx := dx) (fs := []) (ns := ns) upd_same hG rfl .nil)
  have hl := so.len
  have ra : ArgsOk c.K c.G (c.ρ ++ [a]) P (.ref S.length :: as) (.ref a :: vs) := by
    refine .cons ⟨a, rfl, by rw [List.getElem?_append_right (by omega), hl]; simp⟩ ?_
    exact ArgsGrow rr
  have back : ∀ {P2 H2 : Hp}, Step (c.ρ ++ [a]) P (upd (upd H dx (.own a)) a (.ins C dx [])) P2 H2 → Step c.ρ P H P2 H2 := fun {P2 H2} st =>
    ⟨st.le, st.pp, fun b u e nb xb => st.hh b u (sH _ _ e) (fun m => by
      rcases List.mem_append.mp m with m | m
      · exact nb m
      · rw [List.mem_singleton.mp m, na] at e; cases e) xb, (fun b e => by
      have e2 := st.dom b e
      by_cases z : b = a
      · subst z; exact na
      · rw [upd_ne z] at e2
        by_cases z2 : b = dx
        · subst z2; exact nd
        · rw [upd_ne z2] at e2; exact e2), (fun b u nb p e t xb => st.new b u (fun m => by
      rcases List.mem_append.mp m with m | m
      · exact nb m
      · rw [List.mem_singleton.mp m, na] at e; cases e) p (sH _ _ e) t xb), (fun b m p => st.cel b (List.mem_append_left _ m) p), st.mrk⟩
  refine ⟨c.ρ ++ [a], P, S ++ [.obj c1 []], .ref S.length :: as, le2, so2, ra, by show vs.length + 1 = n + 1; rw [hn], ?_⟩
  unfold mkF at h
  unfold PX
  cases q : init (.ref S.length :: as) (S ++ [.obj c1 []]) with
  | bad => rw [q] at h; exact h.elim
  | exc cl fs S2 =>
    rw [q] at h
    exact fun C' d' P' H' st so' ex => h C' d' P' H' (back st) (so'.shrink hl.symm) ex
  | ok r S2 =>
    rw [q] at h
    intro v P' H' st so' rp
    cases r with
    | mk fr d =>
      cases fr with
      | true => exact h.elim
      | false =>
        cases d with
        | non =>
          cases rp
          refine ⟨rfl, ?_⟩
          dsimp only at h
          cases q2 : S2[S.length]? with
          | none => rw [q2] at h; exact h.elim
          | some d2 =>
            rw [q2] at h
            obtain ⟨b, hb, pb, ro⟩ := so'.at_ _ _ q2
            rw [List.getElem?_append_right (by omega), hl] at hb
            simp at hb
            subst hb
            exact h _ P' H' (back st) (so'.shrink hl.symm) (show RepR c.K c.G H P' H' ⟨true, d2⟩ (.ref a) from ⟨a, rfl, na, pb, ro⟩)
        | _ => exact h.elim
theorem pd_make {cf : Nat → List Arg → Sto → Out R} {n j : Nat} {l : Ax} (i : Nat) (hK : X.K = c.K) (M : MkC X.prog X.w X.K X.mg X.base c.G c.xc j nm n (cf i)) (hr : Room j X.A) (px : Passes (L2.CX X.prog X.w) X c.E) (hg : Gl X nm) (hdb : (nm == ("__debug__" : Str)) = false) (ha : PA X (e :: es) (TAx c l)) (hl : LenA l n)
    (he : starEach (e :: es) X.env = (false, eval e X.env) :: starEach es X.env) (hpl : (backTo pos (starEach es X.env)).any (·.1) = false) : PE X (.Call (.Name nm p) (e :: es) [] pos) (TEx c (callX cf i l)) := by
  obtain ⟨C, f, ns, fd, ps, c1, j1, init, hG, hM, F, hj, hm, hb, hcf⟩ := M.ex
  refine pe_imp (pe_make hM F (hr.mono hj) hg hm hb .nil px ha hdb he hpl) fun σ H Q ⟨P, env, S, s, h⟩ => ?_
  have hlen : (l env S).post (fun as _ => as.length = n) fun _ _ _ => True := by
    cases q : l env S with
    | ok as S1 => exact hl _ _ _ _ q
    | exc _ _ _ => trivial
    | bad => unfold PX callX at h; rw [q] at h; exact h.elim
  refine ⟨P, env, S, s, ?_⟩
  have h2 := post_bind.mp (show ((l env S).bind fun as S => cf i as S).post (QX c P H Q) (XP c P H) from h)
  cases q : l env S with
  | ok as S1 =>
    rw [q] at h2 hlen
    intro vs P1 H1 st so rr a dx na nd ne
    rw [hcf] at h2
    have h3 := PX.step (c := c) st (show PX c P H Q (mkF c1 init as S1) from h2)
    rw [List.append_nil, hK]
    exact made_ok st.le so rr hG na nd ne (by rw [← Paired.length rr]; exact hlen) h3
  | exc cl fs S1 => rw [q] at h2; exact h2
  | bad => rw [q] at h2; exact h2.elim
end
end Pv

set_option Elab.async false
set_option linter.all false
set_option maxRecDepth 100000
namespace Pv
open PySem PySem.Spec PyProof.Rows L2
section
variable {X : Cx} {c : Cc} {P H P1 H1 : Hp} {env : SEnv} {σ : L2.St} {S S1 : Sto} {x y z : Ex} {pos p apos cpos : Pos} {a b e : Expr} {es : List Expr} {nm : Str} {tgt : Expr}
/-! ### range(n) as a value, and walked -/
def rngD : D → Option R
  | .int n => if 0 ≤ n ∧ n ≤ line then some ⟨false, .rng 0 n⟩ else none
  | _ => none
theorem cd_range (hK : X.K = c.K) : CallR X (.type "range") (rB1 c rngD) := fun pins s σ H vs us Q I rs ⟨P, S, a, r, v, ev, le, so, rd, e, q⟩ => by
  cases a with
  | int n =>
    unfold rngD at e
    dsimp only at e
    split at e
    · cases e
      cases rd with
      | rep rd =>
        cases rd
        subst ev
        obtain ⟨u, eu, ru⟩ := vals1 rs
        subst eu
        obtain ⟨t, et⟩ := ru
        subst et
        have nn : H s.heap.objs.size = none := I.hok.fresh (Nat.le_refl _)
        have lay : Inv X pins σ (upd H s.heap.objs.size (.rng 0 n)) { s with heap := s.heap.push { cls := .type "range", data := .fields #[.int 0 s.toks, .int n t, .int 1 (s.toks + 1)] }, toks := s.toks + 1 + 1 } :=
          I.laid (t' := s.toks + 1 + 1) (fun _ _ g => Heap.get?_push_of_some _ g) (Nat.le_refl _) ⟨s.toks, t, s.toks + 1, Heap.get?_push_size _ rfl⟩
        refine call_range_1 ⟨V.ref s.heap.objs.size, _, lay, rfl, q _ (upd P s.heap.objs.size (.rng 0 n)) _ (Step.lay le nn (so.new nn)) (so.lay le nn) (RepR.sh (.rng upd_same))⟩
    · cases e
  | _ => cases e
def iRngV (x : Ex) : Ix := fun env S => (x env S).bind fun r S => match r.d with
  | .rng i j => if (-line ≤ i ∧ i ≤ line) ∧ -line ≤ j ∧ j ≤ line then .ok ((List.range (j - i).toNat).map fun (k : Nat) => D.int (i + k)) S else .bad
  | _ => .bad
theorem pi_rng {te : TE} (he : PE X e te) : PI X tgt e (fun σ H Rk => te σ H fun v H1 => ∃ r i j, v = .ref r ∧ H1 r = some (.rng i j) ∧ (-(2 ^ 62) ≤ i ∧ i < 2 ^ 62 ∧ -(2 ^ 62) ≤ j ∧ j < 2 ^ 62) ∧ Rk (Itr i (j - i).toNat) H1) :=
  ⟨fun pins s σ H Rk I h => thn (he.run pins s σ H _ I h) fun v s1 ⟨w, H1, I1, rw', r, i, j, ew, hr, ⟨b1, b2, b3, b4⟩, q⟩ => by
    subst ew
    cases (show v = Value.ref r from rw')
    obtain ⟨t1, t2, t3, g⟩ := I1.hok r _ hr
    refine wpAny_pyIter_range (a := i) (b := j) (c := 1) (t := t1) (u := t2) (v := t3) g (small_one b1 b2 b3 b4) ?_
    have e1 : Builtin.Range.rangeSize i j 1 = (((j - i).toNat : Nat) : Int) := by rw [rangeSize_one]; split <;> omega
    rw [e1]
    refine pi_one (tk := s1.toks) I1 _ (turn_range _ i (j - i).toNat) ?_ q
    have e2 : i + ((0 : Nat) : Int) * 1 = i := by omega
    have e3 : (((j - i).toNat : Nat) : Int) - ((0 : Nat) : Int) = ((j - i).toNat : Int) := by omega
    show IsRangeIter _ _ (i + ((0 : Nat) : Int) * 1) ((((j - i).toNat : Nat) : Int) - ((0 : Nat) : Int)) 1
    rw [e2, e3]
    exact Heap.get?_push_size _ rfl⟩
theorem ti_rngV (hK : X.K = c.K) (he : PE X e (TEx c x)) : PI X tgt e (TIx c (iRngV x)) :=
  pi_imp (pi_rng he) fun σ H Rk ⟨P, env, S, s, h⟩ => tex_bindG s h fun r S1 v P1 H1 st1 s1 rp h1 => by
    have hl := line_62
    cases q : r.d with
    | rng i j =>
      rw [q] at h1 rp
      dsimp only at h1
      by_cases hb : (-line ≤ i ∧ i ≤ line) ∧ -line ≤ j ∧ j ≤ line
      · rw [if_pos hb] at h1
        cases rp with
        | @rng a _ _ hp =>
          have hH : H1 a = some (.rng i j) := by
            rcases s1.le _ _ hp with ⟨g, _⟩ | ⟨m, _⟩ | ⟨_, m, _⟩
            · exact g
            · exact m.elim
            · cases m
          exact ⟨a, i, j, rfl, hH, ⟨by omega, by omega, by omega, by omega⟩, h1 _ P1 H1 st1 s1.so (walkD_rg i (j - i).toNat)⟩
      · rw [if_neg hb] at h1; exact h1.elim
    | _ => rw [q] at h1; exact h1.elim
/-! ### the pairs of a dict that is locked for good -/
def iItm (x : Ex) : Ix := fun env S => (x env S).bind fun r S => match r.d with
  | .dF l => .ok (l.map fun q => .tup [keyD q.1, q.2]) S
  | _ => .bad
theorem ti_itm {elts : List Expr} {kk : Nat} {tpos : Pos} (he : PE X e (TEx c x)) (hbase : attributeBase e "items" X.env (eval e X.env) = eval e X.env) (hline : (apos.endLine == cpos.line) = true) : PI X (.Tuple elts kk tpos) (.Call (.Attribute e "items" apos) [] [] cpos) (TIx c (iItm x)) :=
  pi_imp (pi_items he hbase hline) fun σ H Rk ⟨P, env, S, s, h⟩ => tex_bindG s h fun r S1 v P1 H1 st1 s1 rp h1 => by
    cases q : r.d with
    | dF l =>
      rw [q] at h1 rp
      cases rp with
      | @dF a o kvs l hp rk =>
        refine ⟨a, o, kvs, rfl, s1.le.frz hp, h1 _ P1 H1 st1 s1.so ?_⟩
        have w := walk_items (d := a) (o := o) (kvs := kvs)
        rw [show kvs.length = (l.map fun q => D.tup [keyD q.1, q.2]).length by rw [List.length_map, rk.length]] at w
        refine walkD_pair w (fun H le => le.frz hp) fun i x y hi ex ey => ?_
        obtain ⟨q1, e1, e2⟩ := Option.map_eq_some_iff.mp ex
        obtain ⟨q2, e3, e4⟩ := Option.map_eq_some_iff.mp ey
        rw [e1] at e3
        cases e3
        obtain ⟨k, u⟩ := q1
        obtain ⟨d, g1, g2⟩ := rk.getk e1
        exact ⟨keyD k, d, by rw [List.getElem?_map, g1]; rfl, by rw [← e2]; exact key_rep k, by rw [← e4]; exact g2⟩
    | _ => rw [q] at h1; exact h1.elim
/-! ### own list or dict, for good; a dict is locked -/
theorem Stt.frzG {i : Nat} {d' : D} {a : Addr} {w : HO} (s : Stt c P H env σ S) (ho : (sget env i).isOwn = true) (e : σ[i]? = some (some (.ref a))) (hp : P a = none) (h0 : c.H0 a = none) (hw : H a = some w) (nt : NTb w) (rp : Rep c.K c.G (upd P a w) d' (.ref a)) : Stt c (upd P a w) H (env.set i (.sh d')) σ S := by
  have hi : i < env.length := by
    rcases Nat.lt_or_ge i env.length with h | h
    · exact h
    · unfold sget at ho; rw [List.getD_eq_getElem?_getD, List.getElem?_eq_none h] at ho; cases ho
  have sm : Same P (upd P a w) := fun b o e => by rw [upd_ne (ne_of_none e hp)]; exact e
  have io : ∀ {j : Nat}, (sget (env.set i (.sh d')) j).isOwn = true → (sget env j).isOwn = true := fun {j} h => by
    by_cases hj : i = j
    · subst hj; exact ho
    · rw [sget_set_ne hj] at h; exact h
  refine ⟨s.st.freeze h0 (s.r0 a h0) hp hw nt, s.r0, s.so.freeze (s.r0 a h0) hp, by rw [List.length_set]; exact s.ln, fun j => ?_, fun j k b e1 e2 e3 e4 => s.dj j k b (io e1) (io e2) e3 e4⟩
  by_cases hj : i = j
  · subst hj
    rw [sget_set_self hi]
    exact ⟨_, e, rp⟩
  · rw [sget_set_ne hj]
    have sj := s.sl j
    have ne : ∀ b, (sget env j).isOwn = true → σ[j]? = some (some (.ref b)) → b ≠ a := fun b ob eb z => hj (s.dj i j a ho ob e (by rw [← z]; exact eb))
    cases qj : sget env j with
    | un => trivial
    | sh d => rw [qj] at sj; obtain ⟨v, e1, r1⟩ := sj; exact ⟨v, e1, r1.mono sm⟩
    | ref m => rw [qj] at sj; exact sj
    | own d2 =>
      rw [qj] at sj ne
      obtain ⟨b, eb, hpb, h0b, rb⟩ := sj
      exact ⟨b, eb, by rw [upd_ne (ne b rfl eb)]; exact hpb, h0b, rb.mono sm fun w hw => hw⟩
    | lk d2 =>
      rw [qj] at sj ne
      obtain ⟨b, od2, w, eb, hpb, h0b, hf, rb⟩ := sj
      exact ⟨b, od2, w, eb, by rw [upd_ne (ne b rfl eb)]; exact hpb, h0b, hf, rb.mono sm fun w' hw => hw⟩
theorem ps_keepLock {st : Stmt} {t : TS} (h : PS X st t) : PS X st (fun D σ H => t D σ H ∨ ∃ d u, H d = some u ∧ Mut (some u) ∧ ∀ od, t D σ (upd H d (.frz od u))) :=
  ⟨fun pins s σ H D I w => by
    rcases w with w | ⟨d, u, hd, mu, w⟩
    · exact h.run pins s σ H D I w
    · obtain ⟨od, I1⟩ := I.lock hd mu
      exact h.run pins s σ _ D I1 (w od)⟩
def frzL (i : Nat) (b : Sx) : Sx := fun env S => match sget env i with
  | .own (.dK l) => b (env.set i (.sh (.dF l))) S
  | .own d => b (env.set i (.sh d)) S
  | .sh _ => b env S
  | _ => .bad
theorem sx_frzL {st : Stmt} {b : Sx} (i : Nat) (h : PS X st (TSx c b)) : PS X st (TSx c (frzL i b)) :=
  ps_imp (ps_keepLock h) fun D σ H ⟨P, env, S, s, w⟩ => by
    unfold frzL at w
    cases q : sget env i with
    | own d =>
      rw [q] at w
      have sl := s.sl i
      rw [q] at sl
      obtain ⟨a, e, hp, h0, r⟩ := sl
      have other : PF c P D (b (env.set i (.sh d)) S) → TSx c b D σ H := fun w2 => by
        obtain ⟨u, hu, mu, rp⟩ := r.rep hp
        have s1 := s.frzG (by rw [q]; rfl) e hp h0 hu (ntb_mut mu) rp
        exact ⟨_, _, S, s1, PF.step (fun b o e => by rw [upd_ne (ne_of_none e hp)]; exact e) w2⟩
      cases d with
      | dK l =>
        refine .inr ?_
        have rr := r
        cases rr with
        | @dK _ kvs l hk rk =>
          refine ⟨a, .dK kvs, hk, trivial, fun od => ?_⟩
          have s1 := s.lock (od := od) q e hk hp h0 r
          have sm : Same P (upd P a (.frz od (.dK kvs))) := fun b o e => by rw [upd_ne (ne_of_none e hp)]; exact e
          have hi : i < env.length := by
            rcases Nat.lt_or_ge i env.length with h | h
            · exact h
            · unfold sget at q; rw [List.getD_eq_getElem?_getD, List.getElem?_eq_none h] at q; cases q
          have s2 := s1.frzG (i := i) (d' := .dF l) (by rw [sget_set_self hi]; rfl) e hp h0 upd_same rfl (.dF upd_same (rk.mono sm))
          rw [List.set_set] at s2
          exact ⟨_, _, S, s2, PF.step sm w⟩
      | _ => exact .inl (other w)
    | sh d =>
      rw [q] at w
      exact .inl ⟨P, env, S, s, w⟩
    | _ => rw [q] at w; exact w.elim
/-! ### name[k] += e, name an own list -/
theorem pget_list : PGet X (fun o i H Q => ∃ p xs j v, o = .ref p ∧ i = .int j ∧ H p = some (.lst xs) ∧ 0 ≤ j ∧ xs[j.toNat]? = some v ∧ Q v H) := fun pins s σ H o i ov iv Q I ro ri ⟨p, xs, j, v, eo, ei, hp, h0, hx, q⟩ => by
  subst eo ei
  cases (show ov = Value.ref p from ro)
  obtain ⟨t, et⟩ := ri
  subst et
  obtain ⟨its, rv, pl, hz⟩ := I.list (xs := xs) (a := p) (.inl (.inl hp))
  obtain ⟨w, ew, rw'⟩ := rv.get hx
  have hj := (List.getElem?_eq_some_iff.mp hx).1
  have h63 := line63
  exact wpAny_getItem_list pl.isList h0 (by omega) (by simpa using ew) ⟨v, H, I, rw', q⟩
def augS (f : Int → Int → Int) (i : Nat) (k e : Ex) : Sx := fun env S => match sget env i with
  | .own (.lst l) => (k env S).bind fun b S1 => (match b.d with
    | .int j => if 0 ≤ j then (match l[j.toNat]? with
      | some (.int u) => (e env S1).bind fun v S2 => (match v.d with
        | .int w => putSlot i (.int j) (.int (f u w)) env S2
        | _ => .bad)
      | _ => .bad) else .bad
    | _ => .bad)
  | _ => .bad
theorem aug_top {f : Int → Int → Int} {i : Nat} : ∀ D σ H, TSx c (augS f i y x) D σ H → tAugS (tVar i) (TEx c y) (TEx c x) (fun o i H Q => ∃ p xs j v, o = .ref p ∧ i = .int j ∧ H p = some (.lst xs) ∧ 0 ≤ j ∧ xs[j.toNat]? = some v ∧ Q v H) (ipI f) rSt D σ H := fun D σ H ⟨P, env, S, s, h⟩ => by
  unfold augS at h
  cases q : sget env i with
  | own d0 =>
    rw [q] at h
    cases d0 with
    | lst l =>
      have sl := s.sl i
      rw [q] at sl
      obtain ⟨a, e, _, _, _⟩ := sl
      refine ⟨.ref a, e, te_in s h fun r S1 v P1 H1 st1 s1 rp h1 => ?_⟩
      cases qk : r.d with
      | int j =>
        rw [qk] at h1 rp
        cases rp
        dsimp only at h1
        by_cases h0 : 0 ≤ j
        · rw [if_pos h0] at h1
          have sl1 := s1.sl i
          rw [q] at sl1
          obtain ⟨a1, e1, hp, hn, ro⟩ := sl1
          rw [e] at e1
          cases e1
          cases ro with
          | @lst _ xs l ha rl =>
            cases ql : l[j.toNat]? with
            | none => rw [ql] at h1; exact h1.elim
            | some du =>
              rw [ql] at h1
              obtain ⟨w0, e3, r3⟩ := rl.get ql
              cases du with
              | int u =>
                cases r3
                refine ⟨a, xs, j, _, rfl, rfl, ha, h0, e3, te_in s1 h1 fun r2 S2 v2 P2 H2 st2 s2 rp2 h2 => ?_⟩
                cases qv : r2.d with
                | int w =>
                  rw [qv] at h2 rp2
                  cases rp2
                  refine ⟨u, w, rfl, rfl, put_ok s2 e (.int j) (.int _) (post_mono h2 (fun fl S3 q3 => q3.step (st1.pp.trans st2.pp)) fun _ _ _ q => q)⟩
                | _ => rw [qv] at h2; exact h2.elim
              | _ => exact h1.elim
        · rw [if_neg h0] at h1; exact h1.elim
      | _ => rw [qk] at h1; exact h1.elim
    | _ => exact h.elim
  | _ => rw [q] at h; exact h.elim
theorem sx_aug {op : Operator} {f : Int → Int → Int} {k : Expr} {p2 : Pos} (i : Nat) (hu : X.A.units + 65 < cLine) (hp : PIp X op (ipI f)) (hN : X.N[i]? = some nm) (hv : Vis X.env.scope nm) (hd : (nm == ("__debug__" : Str)) = false) (hcd : (nm == ("__classdict__" : Str)) = false) (hk : PE X k (TEx c y)) (he : PE X e (TEx c x))
    (ha : ∀ ov iv new, augStore k ov iv new = (do holding [new, ov, iv] (setItem ov iv new); release [new, ov, iv] []; pure .next)) : PS X (.AugAssign (.Subscript (.Name nm p) k p2) op e pos) (TSx c (augS f i y x)) :=
  ps_imp (ps_augS (pe_var hN hv hd hcd) hk pget_list he hp (set_any hu) ha) aug_top
end
end Pv

set_option Elab.async false
set_option linter.all false
set_option maxRecDepth 100000
namespace Pv
open PySem PySem.Spec PyProof.Rows L2
/-! ### {k: v for ..}, keys tuples -/
abbrev BlkX (X : Cx) (s : Shared) (H : Hp) (sc : Scope) (C : Addr) (cl : List (Str × Addr)) (fp : List Addr) : Cx := X.blk s H sc (compEnvC sc cl C X.env) fp
abbrev AnyBlk (X : Cx) (sc : Scope) (φ : Cx → Prop) : Prop := ∀ (s : Shared) (H : Hp) (C : Addr) (cl : List (Str × Addr)) (fp : List Addr), φ (BlkX X s H sc C cl fp)
/-- one turn: the pair is stored in the dict at D -/
def TurnT (D : Addr) (g : TG) (tt : TT) (tk tv : TE) (vs : List Nat) (σ : L2.St) (x : V) (H : Hp) (Nx : Hp → Prop) : Prop :=
  g x (wipe σ vs) H fun σ2 H2 => wipe σ2 vs = wipe σ vs ∧ tt σ2 H2 fun b H3 => if b = true then tk σ2 H3 fun y H4 => tv σ2 H4 fun z H5 => ∃ kvs ks q, y = .ref q ∧ H5 q = some (.tup (ks.map kV)) ∧ H5 D = some (.dT kvs) ∧ kvs.length < sizeLine ∧ Nx (upd H5 D (.dT (putK kvs ks z))) else Nx H3
def tDcT (wi : TI) (g : TG) (tt : TT) (tk tv : TE) (vs : List Nat) : TE := fun σ H Q => wi σ H fun J H1 => ∀ D, H1 D = none → ∃ W : Nat → Nat → Hp → Prop, (∃ m, W 0 m (upd H1 D (.dT []))) ∧ ∀ i m H, W i m H →
  (J.stop i H ∧ Q (.ref D) H) ∨ (J.go i H ∧ ∃ Nx : Hp → Prop, (∀ H', Nx H' → ∃ m', m' < m ∧ W (i + 1) m' H') ∧ ∀ x H', J.yld i H x H' → TurnT D g tt tk tv vs σ x H' Nx)
section
variable {X : Cx} {pins : List (Addr × Obj)} {σ : L2.St} {H : Hp} {s : Shared}
theorem dictSet_T {E : Value → Shared → Prop} {D q : Addr} {kvs : List (List Key × V)} {ks : List Key} {v : V} {r : Value} {Q : Unit → Shared → Prop} (hu : X.A.units + 1 < cLine) (I : Inv X pins σ H s) (hD : H D = some (.dT kvs)) (hq : H q = some (.tup (ks.map kV))) (hz : kvs.length < sizeLine) (rv : RelV v r)
    (h : ∀ s', Inv X pins σ (upd H D (.dT (putK kvs ks v))) s' → Q () s') : wpAny (model X.prog X.w) X.A (dictSet D (.ref q) r) Q E s := by
  obtain ⟨z1, z2, xs, rel, dd⟩ := dt_of I.hok hD
  have lx : xs.length ≤ sizeLine := Nat.le_trans (Nat.le_of_eq (Paired.length rel).symm) z1
  have ln : (putK kvs ks v).length ≤ sizeLine := Nat.le_trans (length_putK kvs ks v) hz
  refine wpAny_dictSet_heap (hsz := lx) (Nat.lt_of_succ_lt hu) (key_of I.hok hq) dd fun h2 d2 same => ?_
  obtain ⟨ob, es, ep, g1, g2, g3, g4, _, g6⟩ := d2
  have keep := (rel.put ks hq rv).keeps (H' := upd H D (.dT (putK kvs ks v))) fun a l ea => (upd_ne (ne_of ea hD fun w => nomatch w)).trans ea
  exact h _ (d_write I (hD ▸ True.intro) same ⟨ob, g1⟩ ⟨ln, z2, _, keep, ob, es, ep, g1, g2, g3, g4, g6⟩)
theorem pe_dcT {kx vx tgt iter : Expr} {ifs : List Expr} {sc : Scope} {own : List (Str × Nat)} {pos : Pos} {wi : TI} {g : TG} {tt : TT} {tk tv : TE} (hu : X.A.units + 65 < cLine) (hc : X.calm = true) (hN : X.N.Nodup) (hi : PI X tgt iter wi) (ok : BlkOk X.N X.env.scope sc own)
    (hg : AnyBlk X sc fun Y => PG Y tgt g) (ht : AnyBlk X sc fun Y => PTs Y ifs tt) (hk : AnyBlk X sc fun Y => PE Y kx tk) (hv : AnyBlk X sc fun Y => PE Y vx tv) (hs : ∀ x, foldedSetIterable iter X.env x = pure x) :
    PE X (.DictComp kx vx [⟨tgt, iter, ifs, 0⟩] sc pos) (tDcT wi g tt tk tv (own.map (·.2))) := ⟨fun pins s σ H Q I h => by
  rw [arm_eval_DictComp]
  have cells : ∀ y ∈ sc.names, y.2 = .free → ∃ c, X.env.cells.lookup y.1 = some c := fun y hy e => I.ok.has _ (ok.free y hy e)
  refine wpAny_comprehension_free (use := none) rfl hs (closure_ok cells) ok.kind (fun y hy e => (ok.uniq y hy).trans (congrArg some e)) (thn (hi.run pins s σ H _ I h) fun _ _ hx => thn hx fun _ s2 got => ?_)
  obtain ⟨it, fp, tn, J, H2, rfl, I2, T, t0, f2, rd⟩ := got
  refine wpAny_newObj_type (newEnv_comp ?_)
  -- the new dict, at the heap's end
  have fr : H2 s2.heap.objs.size = none := I2.hok.fresh (Nat.le_refl _)
  obtain ⟨W, ⟨m0, w0⟩, turn⟩ := rd _ fr
  let sD : Shared := { s2 with heap := s2.heap.push { cls := .type "dict", data := .dict #[] } }
  have grow : ∀ b o, s2.heap.get? b = some o → sD.heap.get? b = some o := fun b o e => Heap.get?_push_of_some _ e
  have ID : Inv X pins σ (upd H2 s2.heap.objs.size (.dT [])) sD := I2.laid (t' := s2.toks) grow (Nat.le_refl _) (dt_empty s2.heap I2.big)
  have small : ∀ b ∈ fp, b < s2.heap.objs.size := fun b hb => by
    obtain ⟨o, e, -⟩ := T.obj 0 _ t0 b hb
    exact Heap.lt_size e
  have fD : ∀ b ∈ fp, FpOk X pins (upd H2 s2.heap.objs.size (.dT [])) b ∧ b < sD.heap.objs.size := fun b hb =>
    ⟨⟨(upd_ne (Nat.ne_of_lt (small b hb))).trans (f2 b hb).1, (f2 b hb).2⟩, Nat.lt_of_lt_of_eq (Nat.lt_succ_of_lt (small b hb)) (Heap.size_push ..).symm⟩
  have tD : tn 0 sD.heap := T.keep 0 _ _ t0 fun b _ o e => grow b o e
  -- within the block
  let C := sD.heap.objs.size
  let cl := cellsFrom (C + 1) sc.names (cloFrom X.env.cells sc.names [])
  let HD := upd H2 s2.heap.objs.size (.dT [])
  let Y := BlkX X sD HD sc C cl fp
  let sB : Shared := { sD with heap := pushCells (sD.heap.push { cls := .type "dict", data := .dict #[] }) sc.names }
  have IB : Inv Y [] (wipe σ (own.map (·.2))) HD sB := block_start ID ok hN fD
  have tB : tn 0 sB.heap := T.keep 0 _ _ tD fun b _ o e => pushCells_keeps _ _ _ _ (Heap.get?_push_of_some _ e)
  have huY : Y.A.units + 1 < cLine := by have : X.A.units + 65 < cLine := hu; show X.A.units + 1 < cLine; omega
  have held : ∀ {τ : L2.St} {G : Hp} {t : Shared}, Inv Y [] τ G t → (∀ b ∈ fp, G b = none) → ∀ b ∈ fp, FpOk Y [] G b := fun {τ G t} I' n b hb =>
    ⟨n b hb, (I'.ok.exf b hb).1, I'.ok.exfs b hb, .inl hb, fun x c e => (I'.ok.exf b hb).2 x c e, fun p hp => by cases hp⟩
  have run : codeAny (model X.prog X.w) X.A (.compLoop (.DictComp kx vx [⟨tgt, iter, ifs, 0⟩] sc pos) 0 (.ref it) (.ref s2.heap.objs.size) (compEnvC sc cl C X.env)) (compPost (model X.prog X.w) X.A X.xe none (EP X pins σ Q) (.ref s2.heap.objs.size) C) sB := by
    refine compLoop_anyD (fun n t => ∃ i G, Inv Y [] (wipe σ (own.map (·.2))) G t ∧ tn i t.heap ∧ (∀ b ∈ fp, G b = none) ∧ W i n G) ?_ m0 ⟨0, HD, IB, tB, fun b hb => (fD b hb).1.1, w0⟩
    intro n t ⟨i, G, It, ti, nf, wt⟩
    rcases turn i n G wt with ⟨stop, qq⟩ | ⟨go, Nx, less, step⟩
    · refine thnF (T.done Y rfl rfl rfl hc i [] t _ G (fun _ _ => False) It (held It nf) ti stop) fun r t2 ⟨er, I2'⟩ => ?_
      subst er
      have IX : Inv X pins σ G t2 := ID.call' (ch := fp) I2'.os I2'.base I2'.hok I2'.bare fun b hb => by
        obtain ⟨⟨_, k2, _, k4, k5, k6⟩, _⟩ := fD b hb
        exact ⟨k4, k2, k5, k6⟩
      have nC : G C = none := I2'.free
      obtain ⟨m, hn, -⟩ := I2'.loc
      obtain ⟨f0, f1, f2', f3, f4, f5⟩ := ID.fpOk (b := C) (Nat.le_refl _) nC
      exact ⟨m, hn, fun h3 sb => ⟨V.ref s2.heap.objs.size, G, IX.turned (t' := t2.toks) (fun b o nb e => (sb.2 b nb).trans e) f0 f1 f3 f4 f5, rfl, qq⟩⟩
    · refine thnF (T.item Y rfl rfl rfl hc i [] t _ G (fun _ _ => False) It (held It nf) ti go) fun r t2 ⟨u, er, more⟩ => ?_
      subst er
      refine thnF more fun _ t3 ⟨x, G3, I3, r3, y3, ti3, nf3⟩ => ?_
      have P3 := I3.pinned (held I3 nf3) (T.obj _ _ ti3)
      -- what is left of a turn
      have fin : ∀ {τ : L2.St} {t' : Shared} {G' : Hp}, wipe τ (own.map (·.2)) = wipe σ (own.map (·.2)) → Inv Y ([] ++ pinsAt fp t3.heap) τ G' t' → Nx G' → ∃ m, m < n ∧ ∃ i G, Inv Y [] (wipe σ (own.map (·.2))) G t' ∧ tn i t'.heap ∧ (∀ b ∈ fp, G b = none) ∧ W i m G := fun {τ t' G'} ew I' nx => by
        obtain ⟨m', lt, w'⟩ := less G' nx
        have pin : ∀ b ∈ fp, ∀ o, t3.heap.get? b = some o → t'.heap.get? b = some o ∧ G' b = none := fun b hb o e => by
          obtain ⟨p1, p2, -⟩ := I'.pin (b, o) (List.mem_append_right _ (List.mem_append_right _ (mem_pinsAt hb e)))
          exact ⟨p1, p2⟩
        have len : (wipe σ (own.map (·.2))).length = τ.length := (congrArg List.length ew).symm.trans (wipe_length ..)
        have weak := (I'.unpinned (pins := [])).weak len fun j v e => (wipe_some (ew.symm ▸ e)).1
        refine ⟨m', lt, i + 1, G', weak, T.keep _ _ _ ti3 fun b hb o e => (pin b hb o e).1, fun b hb => ?_, w'⟩
        obtain ⟨o, e, -⟩ := T.obj _ _ ti3 b hb
        exact (pin b hb o e).2
      refine thnF ((hg sD HD C cl fp).run _ t3 _ G3 x u _ P3 r3 (step x G3 y3)) fun _ t4 ⟨τ, G4, I4, ew, q4⟩ => ?_
      refine thnF ((ht sD HD C cl fp).run _ t4 τ G4 _ I4 q4) fun b t5 ⟨G5, I5, q5⟩ => ?_
      cases b with
      | false => exact fin ew I5 q5
      | true =>
        refine thnF ((hk sD HD C cl fp).run _ t5 τ G5 _ I5 q5) fun ku t6 ⟨ky, G6, I6, r6, q6⟩ => ?_
        refine thnF ((hv sD HD C cl fp).run _ t6 τ G6 _ I6 q6) fun vu t7 ⟨vy, G7, I7, r7, kvs, ks, q, eq, hq, hD, hz, nx⟩ => ?_
        subst eq
        cases (show ku = Value.ref q from r6)
        exact dictSet_T (X := Y) huY I7 hD hq hz r7 fun t8 I8 => fin ew I8 nx
  exact codeAny_compStart_dict run (T.self X.A 0 _ _ _ tB run)⟩
end
section
variable {X : Cx} {c : Cc} {P H P1 H1 : Hp} {env : SEnv} {σ : L2.St} {S S1 : Sto} {x y z : Ex} {pos : Pos} {tgt : Expr}
def dcTL (tg : Tx) (t k e : Ex) (env : SEnv) : List D → List (List Key × D) → Sto → Out (List (List Key × D))
  | [], acc, S => .ok acc S
  | d :: ds, acc, S => match tg env d with
    | none => .bad
    | some env1 => (nox (t env1 S)).bind fun r S => match r with
      | ⟨false, .bl true⟩ => (nox (k env1 S)).bind fun kv S => (nox (e env1 S)).bind fun v S => (match tkey kv.d with
        | some kk => dcTL tg t k e env ds (putD acc kk v.d) S
        | none => .bad)
      | ⟨false, .bl false⟩ => dcTL tg t k e env ds acc S
      | _ => .bad
def dcTX (vs : List Nat) (tg : Tx) (it : Ix) (t k e : Ex) : Ex := fun env S => (it env S).bind fun ds S => if ds.length ≤ line then (dcTL tg t k e (clr env vs) ds [] S).bind fun out S => .ok ⟨true, .dT out⟩ S else .bad
theorem dcT_it {J : It} {n : Nat} {G : Hp → Prop} {Y : Nat → Hp → V → Hp → Prop} (w : Walk J n G Y) {g : TG} {tt : TT} {tk tv : TE} {vs : List Nat} {σ : L2.St} {H1 : Hp} {D0 : Addr} {Qd : Hp → Prop} (Pv : Nat → Hp → Prop) (h0 : Pv 0 (upd H1 D0 (.dT []))) (hG : ∀ i H, Pv i H → G H)
    (hs : ∀ i x H H', i < n → Pv i H → Y i H x H' → TurnT D0 g tt tk tv vs σ x H' (Pv (i + 1))) (hd : ∀ H, Pv n H → Qd H) :
    ∃ W : Nat → Nat → Hp → Prop, (∃ m, W 0 m (upd H1 D0 (.dT []))) ∧ ∀ i m H, W i m H →
      (J.stop i H ∧ Qd H) ∨ (J.go i H ∧ ∃ Nx : Hp → Prop, (∀ H', Nx H' → ∃ m', m' < m ∧ W (i + 1) m' H') ∧ ∀ x H', J.yld i H x H' → TurnT D0 g tt tk tv vs σ x H' Nx) :=
  ⟨fun i m H => m + i = n ∧ Pv i H, ⟨n, rfl, h0⟩, fun i m H ⟨e, p⟩ => by
    cases m with
    | zero =>
      have e2 : i = n := by omega
      subst e2
      exact .inl ⟨w.stops H (hG i H p), hd H p⟩
    | succ m => exact .inr ⟨w.goes i H (by omega) (hG i H p), Pv (i + 1), fun H' p' => ⟨m, Nat.lt_succ_self m, by omega, p'⟩, fun x H' y => hs i x H H' (by omega) p (w.yields i H x H' (by omega) (hG i H p) y)⟩⟩
theorem dcT_top {vs : List Nat} {tg : Tx} {it : Ix} {t k e : Ex} {is : List Nat} (his : ∀ i ∈ is, i ∈ vs) : ∀ σ H Q, TEx c (dcTX vs tg it t k e) σ H Q → tDcT (TIe c it) (TGx c.in0 is tg) (TTx c.in0 t) (TEx c.in0 k) (TEx c.in0 e) vs σ H Q := by
  rintro σ H Q ⟨P, env, S, s, h⟩
  refine ⟨P, env, S, s, post_mono (post_bind.mp h) (fun ds S1 q J P1 H1 st so wd D0 nD => ?_) fun _ _ _ q => q⟩
  have s1 := s.step st so
  have hl : ds.length ≤ line := by
    by_cases hl : ds.length ≤ line
    · exact hl
    · rw [if_neg hl] at q; exact q.elim
  rw [if_pos hl] at q
  have q := post_bind.mp q
  have nP : P1 D0 = none := st.le.none nD
  have n0 : c.H0 D0 = none := s1.st.dom D0 nD
  have nown : ∀ j, (sget (Pv.clr env vs) j).isOwn = true → (wipe σ vs)[j]? ≠ some (some (.ref D0)) := fun j hj e2 => by
    obtain ⟨_, _, u, hu⟩ := (s1.clr vs).ownAt hj e2
    rw [nD] at hu; cases hu
  have kD : ∀ {Pa Ha Pb Hb : Hp}, Step c.ρ Pa Ha Pb Hb → Pa D0 = none → (∀ {w}, Ha D0 = some (.dT w) → Pb D0 = none ∧ Hb D0 = some (.dT w)) := fun {Pa Ha Pb Hb} sx pa {w} hw =>
    ⟨sx.new D0 _ (s.r0 D0 n0) pa hw (fun xs z => nomatch z) rfl, sx.hh D0 _ hw (s.r0 D0 n0) rfl⟩
  have back : ∀ {Pk Hk : Hp} {Sk : Sto}, Step c.ρ P1 H1 Pk Hk → StoOk c.K c.G c.ρ Pk Hk Sk → Stt c Pk Hk (Pv.clr env vs) (wipe σ vs) Sk := fun {Pk Hk Sk} a b => (s1.clr vs).step a b
  refine dcT_it wd.w (D0 := D0) (fun i H2 => ∃ P2 S2 acc av, Stt c P2 H2 (Pv.clr env vs) (wipe σ vs) S2 ∧ Step c.ρ P1 H1 P2 H2 ∧ P2 D0 = none ∧ H2 D0 = some (.dT av) ∧ RepT c.K c.G P2 acc av ∧ acc.length ≤ i ∧
      (dcTL tg t k e (Pv.clr env vs) (ds.drop i) acc S2).post (fun out S' => QX c P H Q ⟨true, .dT out⟩ S') (XP c P H))
    ⟨P1, S1, [], [], back (Step.alloc st.le nD) (so.alloc st.le nD), Step.alloc st.le nD, nP, upd_same, .nil, Nat.le_refl _, by rw [List.drop_zero]; exact q⟩ (fun i H2 ⟨P2, _, _, _, _, st2, _⟩ => ⟨P2, st2⟩) ?_ ?_
  · rintro i x H2 H3 hi ⟨P2, S2, acc, av, s2, st2, p2, d2, r2, l2, q2⟩ ⟨d, hd, y⟩
    obtain ⟨P3, st3, so3, r3⟩ := y P2 S2 st2.pp s2.le s2.so
    have s3 := s2.step st3 so3
    have hdr : ds.drop i = d :: ds.drop (i + 1) := by
      rw [List.drop_eq_getElem_cons hi]
      rw [List.getElem?_eq_getElem hi] at hd
      rw [Option.some.inj hd]
    rw [hdr] at q2
    unfold dcTL at q2
    obtain ⟨p3, d3⟩ := kD st3 p2 d2
    cases qt : tg (Pv.clr env vs) d with
    | none => rw [qt] at q2; exact q2.elim
    | some env3 =>
      rw [qt] at q2
      refine ⟨P3, Pv.clr env vs, S2, d, env3, s3.in0, r3, qt, fun σ' s4' hw => ⟨(hw vs his).trans (lc_top.wipe_wipe σ vs), ?_⟩⟩
      have s4 : Stt c P3 H3 env3 σ' S2 := ⟨s4'.st, s4'.r0, s4'.so, s4'.ln, fun j => by have := s4'.sl j; cases hq : sget env3 j <;> rw [hq] at this <;> exact this, s4'.dj⟩
      refine nox_tt s4 q2 (fun r Sx q => ite_inv q) fun b S5 P5 H5 st5 s5 q5 => ?_
      obtain ⟨p5, d5⟩ := kD st5 p3 d3
      have st15 := st2.trans (st3.trans st5)
      cases b with
      | false => exact iteF ⟨P5, S5, acc, av, back st15 s5.so, st15, p5, d5, r2.mono (st3.pp.trans st5.pp), Nat.le_succ_of_le l2, q5⟩
      | true =>
        refine iteT (nox_in s5 q5 fun rk S6 vk P6 H6 st6 s6 r6 q6 => nox_in s6 q6 fun rv S7 vv P7 H7 st7 s7 r7 q7 => ?_)
        obtain ⟨p6, d6⟩ := kD st6 p5 d5
        obtain ⟨p7, d7⟩ := kD st7 p6 d6
        have st17 := st15.trans (st6.trans st7)
        cases qk : tkey rk.d with
        | none => rw [qk] at q7; exact q7.elim
        | some kk =>
          rw [qk] at q7
          have la := r2.length
          have rr := r2.mono (st3.pp.trans (st5.pp.trans (st6.pp.trans st7.pp)))
          obtain ⟨b, eb, hb⟩ := tkey_rep qk (r6.mono st7.pp) s7.le
          refine ⟨av, kk, b, eb, s7.le.tup hb, d7, by rw [← la, ← line_eq]; omega, P7, S7, putD acc kk rv.d, putK av kk vv, ?_, st17.wr nD p7 (by rw [d7]; trivial), p7, upd_same, rep_putT r7 rr, Nat.le_trans (putD_len _ _ _) (Nat.succ_le_succ l2), q7⟩
          exact (back st17 s7.so).wr n0 p7 (by rw [d7]; trivial) nown
  · rintro H2 ⟨P2, S2, acc, av, s2, st2, p2, d2, r2, l2, q2⟩
    rw [List.drop_length] at q2
    refine (show QX c P H Q ⟨true, .dT acc⟩ S2 from q2) (.ref D0) P2 H2 (st.trans st2) s2.so ?_
    unfold RepR
    rw [if_pos rfl]
    exact ⟨D0, rfl, st.dom D0 nD, p2, .dT d2 r2⟩
theorem pd_dcT {kx vx iter : Expr} {ifs : List Expr} {sc : Scope} {own : List (Str × Nat)} {tg : Tx} {it : Ix} {t k e : Ex} {is vs : List Nat} (hu : X.A.units + 65 < cLine) (hc : X.calm = true) (hN : X.N.Nodup) (hi : PI X tgt iter (TIe c it)) (ok : BlkOk X.N X.env.scope sc own) (hvs : own.map (·.2) = vs) (his : ∀ i ∈ is, i ∈ vs)
    (hg : AnyBlk X sc fun Y => PG Y tgt (TGx c.in0 is tg)) (ht : AnyBlk X sc fun Y => PTs Y ifs (TTx c.in0 t)) (hk : AnyBlk X sc fun Y => PE Y kx (TEx c.in0 k)) (he : AnyBlk X sc fun Y => PE Y vx (TEx c.in0 e)) (hs : ∀ x, foldedSetIterable iter X.env x = pure x) :
    PE X (.DictComp kx vx [⟨tgt, iter, ifs, 0⟩] sc pos) (TEx c (dcTX vs tg it t k e)) := by
  subst hvs
  exact pe_imp (pe_dcT hu hc hN hi ok hg ht hk he hs) (dcT_top his)
/-! ### (a, ..) * n -/
def mulTD (d e : D) : Option R := match d, e with
  | .tup a, .int k => if a ≠ [] ∧ 2 ≤ k ∧ k ≤ 1000 ∧ a.length ≤ 1000 then some ⟨false, .tup (repL k.toNat a)⟩ else none
  | _, _ => none
theorem od_mulT (hK : X.K = c.K) : OpR X (binaryOp .Mult) (rOp2 c mulTD) := op_imp op_repT fun x y H Q ⟨P, S, a, b, r, le, n0, so, ra, rb, e, q⟩ => by
  cases ra with
  | @tup p xs l hp rl =>
    cases rb with
    | int k =>
      simp only [mulTD] at e
      split at e
      · rename_i hb
        cases e
        obtain ⟨b1, b2, b3, b4⟩ := hb
        have ne : xs ≠ [] := fun z => by
          subst z
          cases rl
          exact b1 rfl
        exact ⟨p, k, xs, rfl, rfl, .inl (.inl (le.tup hp)), ne, b2, b3, by rw [← rl.length]; exact b4, qx_tup q le so (repL_ok rl _)⟩
      · cases e
    | _ => cases e
  | _ => cases e
structure InitC (P : Program) (w : World) (K : PySem.W.Frag) (mg : Str → Option Value) (base : Heap) (G : Nat → Option (Addr × List Str)) (xc : Nat → Value) (k : Nat) (C : Addr) (n : Nat) (cf : List Arg → Sto → Out R) : Prop where
  ex : ∃ (f : Addr) (fd : FuncData) (ps : List Str), Mk K C f ∧ FnOk P w K mg base (L2.CX P w) k f fd ps (spF K G xc (n + 1) cf) ∧ Binds K fd ps []
/-! ### text.split(text) -/
def splitD (d e : D) : Option R := match d, e with
  | .str a, .str b => if (b.length == 0) = false ∧ a.length + 2 ≤ line then some ⟨true, .lst ((Txt.split a b).map D.str)⟩ else none
  | _, _ => none
theorem reps_strs {K : PySem.W.Frag} {G : Nat → Option (Addr × List Str)} {P : Hp} : ∀ l : List Str, Reps K G P (l.map D.str) (l.map V.str)
  | [] => .nil
  | a :: l => .cons (.str a) (reps_strs l)
def splitX (x y : Ex) : Ex := fun env S => (x env S).bind fun a S => match a.d with
  | .str u => (y env S).bind fun b S => (match splitD (.str u) b.d with
    | some r => .ok r S
    | none => .bad)
  | _ => .bad
theorem pd_split {a b : Expr} {apos : Pos} (ha : PE X a (TEx c x)) (hb : PE X b (TEx c y)) (hs : starEach [b] X.env = [(false, eval b X.env)]) (hbase : attributeBase a "split" X.env (eval a X.env) = eval a X.env) (hline : (apos.endLine == pos.line) = true) :
    PE X (.Call (.Attribute a "split" apos) [b] [] pos) (TEx c (splitX x y)) :=
  pe_imp (pe_split ha hb hs hbase hline) fun σ H Q ⟨P, env, S, s, h⟩ => tex_bind s h fun r S1 v P1 H1 st1 s1 rp1 h1 => by
    cases qa : r.d with
    | str u =>
      rw [qa] at rp1 h1
      cases rp1
      refine ⟨⟨u, rfl⟩, tex_bind s1 h1 fun r2 S2 w P2 H2 st2 s2 rp2 h2 => ?_⟩
      cases qb : r2.d with
      | str z =>
        rw [qb] at rp2 h2
        cases rp2
        by_cases hc : (z.length == 0) = false ∧ u.length + 2 ≤ line
        · simp only [splitD, if_pos hc] at h2
          exact ⟨u, z, rfl, rfl, hc.1, by rw [← line_eq]; exact hc.2, qx_lst h2 s2.le s2.so (reps_strs _)⟩
        · simp only [splitD, if_neg hc] at h2
          exact h2.elim
      | _ => rw [qb] at h2; exact h2.elim
    | _ => rw [qa] at h1; exact h1.elim
end
end Pv

set_option Elab.async false
set_option linter.all false
set_option maxRecDepth 100000
namespace Pv
open PySem PySem.Spec PyProof.Rows L2
/-! ### for x in name, name a list that is a cell: it is read anew at each turn -/
def forRL (tg : Tx) (b : Sx) (n : Nat) : Nat → Nat → Sx
  | 0, _ => fun _ _ => .bad
  | m + 1, k => fun env S => match S[n]? with
    | some (.lst l) => (match l[k]? with
      | some d => (match tg env d with
        | none => .bad
        | some env1 => (b env1 S).bind fun fl S => match fl with
          | .nx env2 => forRL tg b n m (k + 1) env2 S
          | .ret r => .ok (.ret r) S)
      | none => .ok (.nx env) S)
    | _ => .bad
def forR (i : Nat) (fuel : Nat) (tg : Tx) (b : Sx) : Sx := fun env S => match sget env i with
  | .ref n => forRL tg b n fuel 0 env S
  | _ => .bad
section
variable {X : Cx} {c : Cc} {P H P1 H1 : Hp} {env : SEnv} {σ : L2.St} {S S1 : Sto} {pos p : Pos} {nm : Str} {tgt : Expr}
theorem sx_forR {body : List Stmt} {tg : Tx} {b : Sx} (i fuel : Nat) (hK : X.K = c.K) (hp : PassesOwn (model X.prog X.w) X.A X.env X.xe) (hc : X.calm = true) (hN : X.N[i]? = some nm) (hv : Vis X.env.scope nm) (hd : (nm == ("__debug__" : Str)) = false) (hcd : (nm == ("__classdict__" : Str)) = false) {is : List Nat} (hg : PG X tgt (TGx c is tg)) (hb : PSs X body (TSx c b))
    (hs : ∀ x, foldedSetIterable (.Name nm p) X.env x = pure x) : PS X (.For tgt (.Name nm p) body [] pos) (TSx c (forR i fuel tg b)) :=
  ps_imp (ps_for hp hc (pi_list (pe_var hN hv hd hcd)) hg hb hs) fun D0 σ H ⟨P, env, S, s, h⟩ => by
    unfold forR at h
    have sl := s.sl i
    cases q : sget env i with
    | ref n =>
      rw [q] at h sl
      obtain ⟨a, e, hr⟩ := sl
      dsimp only at h
      have there : ∀ {P2 H2 : Hp} {env2 : SEnv} {σ2 : L2.St} {S2 : Sto} {l : List D}, Stt c P2 H2 env2 σ2 S2 → S2[n]? = some (.lst l) → ∃ xs, H2 a = some (.lst xs) ∧ Reps c.K c.G P2 l xs := fun {P2 H2 env2 σ2 S2 l} s2 e2 => by
        obtain ⟨a2, h2, _, ro⟩ := s2.so.at_ n _ e2
        rw [hr] at h2
        cases h2
        cases ro with
        | lst k1 k2 => exact ⟨_, k1, k2⟩
      have first : ∃ xs, SqL X.K H a xs := by
        cases fuel with
        | zero => exact h.elim
        | succ m =>
          unfold forRL at h
          cases q1 : S[n]? with
          | none => rw [q1] at h; exact h.elim
          | some d =>
            rw [q1] at h
            cases d with
            | lst l => obtain ⟨xs, k1, _⟩ := there s q1; exact ⟨xs, .inl (.inl k1)⟩
            | _ => exact h.elim
      refine ⟨.ref a, e, a, rfl, first, fun k m σ H => ∃ P2 env2 S2, Stt c P2 H env2 σ S2 ∧ Same P P2 ∧ PF c P D0 (forRL tg b n m k env2 S2), ⟨fuel, P, env, S, s, Same.refl _, h⟩, ?_⟩
      rintro k m σ2 H2 ⟨P2, env2, S2, s2, e2, q2⟩
      cases m with
      | zero => exact q2.elim
      | succ m =>
        unfold forRL at q2
        cases q1 : S2[n]? with
        | none => rw [q1] at q2; exact q2.elim
        | some d =>
          rw [q1] at q2
          cases d with
          | lst l =>
            obtain ⟨xs, k1, k2⟩ := there s2 q1
            have sq : SqL X.K H2 a xs := .inl (.inl k1)
            have hl := k2.length
            cases q3 : l[k]? with
            | none =>
              dsimp only at q2
              rw [q3] at q2
              have ge : xs.length ≤ k := by rw [← hl]; exact List.getElem?_eq_none_iff.mp q3
              exact .inl ⟨⟨xs, sq, ge⟩, q2 P2 H2 σ2 e2 s2⟩
            | some d =>
              dsimp only at q2
              rw [q3] at q2
              obtain ⟨v, ev, rv⟩ := k2.get q3
              refine .inr ⟨⟨xs, v, sq, ev⟩, fun σ' H' => ∃ P5 env5 S5, Stt c P5 H' env5 σ' S5 ∧ Same P P5 ∧ PF c P D0 (forRL tg b n m (k + 1) env5 S5), fun σ' H' w => ⟨m, Nat.lt_succ_self m, w⟩, fun x H' y => ?_⟩
              obtain ⟨eH, y⟩ := y
              subst eH
              have ex := y xs sq
              rw [ev] at ex
              cases ex
              dsimp only at q2
              cases qt : tg env2 d with
              | none => rw [qt] at q2; exact q2.elim
              | some env3 =>
                rw [qt] at q2
                refine ⟨P2, env2, S2, d, env3, s2, rv, qt, fun σ' s4 _ => ⟨P2, env3, S2, s4, post_mono (post_bind.mp q2) (fun fl S4 q4 => ?_) fun _ _ _ q => q⟩⟩
                cases fl with
                | nx env5 => exact fun P5 H5 σ5 e5 s5 => ⟨P5, env5, S4, s5, e2.trans e5, q4⟩
                | ret r => exact QF.step e2 q4
          | _ => exact q2.elim
    | _ => rw [q] at h; exact h.elim
end
end Pv

set_option Elab.async false
set_option linter.all false
set_option maxRecDepth 100000
namespace Pv
open PySem PySem.Spec PyProof.Rows L2
section
variable {X : Cx} {c : Cc} {P H P1 H1 : Hp} {env : SEnv} {σ : L2.St} {S S1 : Sto} {x y : Ex} {a b : Expr} {pos apos : Pos}
/-! ### is, of bools -/
def isBD (d e : D) : Option R := match d, e with
  | .bl a, .bl b => some (bR (decide (a = b)))
  | _, _ => none
theorem od_isB : OpR X (compareOp .Is) (rOp2 c isBD) := op_imp op_isBl fun x y H Q ⟨P, S, a, b, r, le, n0, so, ra, rb, e, q⟩ => by
  cases ra with
  | bl p =>
    cases rb with
    | bl z => cases e; exact ⟨p, z, rfl, rfl, qx_ret q le so (.bl _)⟩
    | _ => cases e
  | _ => cases e
/-! ### text.join(texts) -/
def strsOf : List D → Option (List Str)
  | [] => some []
  | .str a :: l => (strsOf l).map fun r => a :: r
  | _ => none
theorem strs_rep {K : PySem.W.Frag} {G : Nat → Option (Addr × List Str)} {P : Hp} : ∀ {l : List D} {xs : List V} {ys : List Str}, strsOf l = some ys → Reps K G P l xs → xs = ys.map V.str
  | [], _, _, e, .nil => by cases e; rfl
  | .str a :: l, _, _, e, .cons h r => by
    obtain ⟨zs, e1, rfl⟩ := Option.map_eq_some_iff.mp (show (strsOf l).map (fun r => a :: r) = some _ from e)
    cases h
    rw [strs_rep e1 r]
    rfl
def joinX (x y : Ex) : Ex := fun env S => (x env S).bind fun p S => match p.d with
  | .str a => (y env S).bind fun q S => (match seqD q.d with
    | some l => (match strsOf l with
      | some ys => if (ys.map (·.length)).sum + ys.length * a.length ≤ 16777216 then .ok ⟨false, .str (Txt.join a ys)⟩ S else .bad
      | none => .bad)
    | none => .bad)
  | _ => .bad
theorem pd_join (hK : X.K = c.K) (ha : PE X a (TEx c x)) (hb : PE X b (TEx c y)) (hs : starEach [b] X.env = [(false, eval b X.env)]) (hbase : attributeBase a "join" X.env (eval a X.env) = eval a X.env) (hline : (apos.endLine == pos.line) = true) : PE X (.Call (.Attribute a "join" apos) [b] [] pos) (TEx c (joinX x y)) :=
  pe_imp (pe_join ha hb hs hbase hline) fun σ H Q ⟨P, env, S, s, h⟩ => tex_bind s h fun r S1 v P1 H1 st1 s1 rp1 h1 => by
    cases qa : r.d with
    | str u =>
      rw [qa] at rp1 h1
      cases rp1
      refine ⟨⟨u, rfl⟩, tex_bind s1 h1 fun r2 S2 w P2 H2 st2 s2 rp2 h2 => ?_⟩
      cases q1 : seqD r2.d with
      | none => rw [q1] at h2; exact h2.elim
      | some l =>
        rw [q1] at h2
        dsimp only at h2
        cases q2 : strsOf l with
        | none => rw [q2] at h2; exact h2.elim
        | some ys =>
          rw [q2] at h2
          dsimp only at h2
          by_cases hc : (ys.map (·.length)).sum + ys.length * u.length ≤ 16777216
          · rw [if_pos hc] at h2
            obtain ⟨k, p, xs, rfl, sq, rx⟩ := seqD_rep2 (c := c) q1 rp2
            have ex := strs_rep q2 rx
            subst ex
            have sq2 : SqL X.K H2 p (ys.map V.str) ∨ SqT X.K H2 p (ys.map V.str) := by
              rw [hK]
              have z := sq H2 s2.le
              cases k with
              | _ => first | exact .inl z | exact .inr z
            exact ⟨u, p, ys, rfl, rfl, sq2, hc, PX.ret s2 h2 (.str _)⟩
          · rw [if_neg hc] at h2; exact h2.elim
    | _ => rw [qa] at h1; exact h1.elim
end
end Pv

set_option Elab.async false
set_option linter.all false
set_option maxRecDepth 100000
namespace Pv
open PySem PySem.Spec PyProof.Rows L2
section
variable {X : Cx} {c : Cc} {P H P1 H1 : Hp} {env : SEnv} {σ : L2.St} {S S1 : Sto} {x y : Ex} {a b e tgt : Expr} {pos apos : Pos}
/-! ### numbers and texts -/
def intOfD (d : D) : Option R := match d with
  | .str a => (match PySem.intText? a with
    | some n => if a.length ≤ 640 then some ⟨false, .int n⟩ else none
    | none => none)
  | d => intD d
theorem cd_intOf : CallR X (.type "int") (rB1 c intOfD) := fun pins s σ H xs us Q I rx ⟨P, S, a, r, v, ev, le, so, rd, e, q⟩ => by
  cases a with
  | str a =>
    refine call_int_str pins s σ H xs us Q I rx ?_
    cases rd with
    | rep rd =>
      cases rd
      cases hn : PySem.intText? a with
      | none => simp only [intOfD, hn] at e; cases e
      | some n =>
        simp only [intOfD, hn] at e
        by_cases hl : a.length ≤ 640
        · rw [if_pos hl] at e
          cases e
          exact ⟨a, n, ev, hn, hl, qx_ret q le so (.int _)⟩
        · rw [if_neg hl] at e; cases e
  | _ => exact cd_int pins s σ H xs us Q I rx ⟨P, S, _, r, v, ev, le, so, rd, e, q⟩
def strOfD (d : D) : Option R := match d with
  | .int i => if i.natAbs.log2 < 1920 then some ⟨false, .str (Str.ofString (toString i))⟩ else none
  | _ => none
theorem cd_strOf : CallR X (.type "str") (rB1 c strOfD) := cb_imp call_str_int fun vs H Q ⟨P, S, a, r, v, ev, le, so, rd, e, q⟩ => by
  cases a with
  | int i =>
    cases rd with
    | rep rd =>
      cases rd
      by_cases hl : i.natAbs.log2 < 1920
      · simp only [strOfD, if_pos hl] at e
        cases e
        exact ⟨i, ev, hl, qx_ret q le so (.str _)⟩
      · simp only [strOfD, if_neg hl] at e
        cases e
  | _ => cases e
/-! ### a text, sign by sign -/
def signs (s : Str) : List D := s.cps.toList.map fun k => D.str ⟨#[k]⟩
theorem walkD_str (s : Str) : WalkD c (Its s) P1 (signs s) := by
  have hl : (signs s).length = s.cps.size := by unfold signs; rw [List.length_map, Array.length_toList]
  refine ⟨⟨fun i H hi _ => by show i < s.cps.size; omega, fun H _ => by show s.cps.size ≤ _; omega, fun i H v H' hi _ yl => ?_⟩⟩
  obtain ⟨rfl, k, hk, rfl⟩ := yl
  refine ⟨.str ⟨#[k]⟩, ?_, fun P S e le so => ⟨P, Step.refl le, so, .str _⟩⟩
  unfold signs
  rw [List.getElem?_map, Array.getElem?_toList, hk]
  rfl
def iStrX (x : Ex) : Ix := fun env S => (x env S).bind fun a S => match a.d with
  | .str s => .ok (signs s) S
  | _ => .bad
theorem ti_str (he : PE X e (TEx c x)) : PI X tgt e (TIx c (iStrX x)) :=
  pi_imp (pi_str he) fun σ H R ⟨P, env, S, s, h⟩ => tex_bindG s h fun r S1 v P1 H1 st1 s1 rp h1 => by
    cases q : r.d with
    | str z =>
      rw [q] at rp h1
      cases rp
      exact ⟨z, rfl, h1 _ P1 H1 st1 s1.so (walkD_str z)⟩
    | _ => rw [q] at h1; exact h1.elim
/-- a sequence or a text -/
def iAny (x : Ex) : Ix := fun env S => match x env S with
  | .ok ⟨_, .str _⟩ _ => iStrX x env S
  | _ => iVal x env S
theorem ti_any (hK : X.K = c.K) (he : PE X e (TEx c x)) : PI X tgt e (TIx c (iAny x)) := ⟨fun pins s σ H R I ⟨P, env, S, st, h⟩ => by
  unfold iAny at h
  split at h
  · exact (ti_str he).run pins s σ H R I ⟨P, env, S, st, h⟩
  · exact (ti_val hK he).run pins s σ H R I ⟨P, env, S, st, h⟩⟩
end
end Pv

set_option Elab.async false
set_option linter.all false
set_option maxRecDepth 100000
namespace Pv
open PySem PySem.Spec PyProof.Rows L2
/-! ### raise X(), X a class of the program over ValueError (over other classes of it, maybe) -/
abbrev veTail : List Value := [.type "ValueError", .type "Exception", .type "BaseException", .type "object"]
structure ExcK (K : PySem.W.Frag) (mg : Str → Option Value) (x : Str) (C : Addr) : Prop where
  at_ : mg x = some (.ref C)
  cls : PySem.W.excIn K C veTail "ValueError.__new__" = true
  keep : PySem.W.keepIn K (.ref C) = true
  base : PySem.W.subIn K (.ref C) (.type "BaseException") = some true
  meta_ : PySem.W.typeIn K (.ref C) = some (.type "type")
section
variable {X : Cx} {c : Cc} {x : Str} {C : Addr} {p pos pos' : Pos}
theorem mk_zero (k : ExcK X.K X.mg x C) (hg : Gl X x) (hdb : (x == ("__debug__" : Str)) = false := by decide) : PMk X (.Call (.Name x p) [] [] pos) fun _ H Q => Q (.ref C) none H := fun pins s σ H Q I w => by
  refine wpAny_Call_Name_kw (ld_glob I hg k.at_ (PySem.W.callWith_K0 I.kIn k.keep ?_) hdb)
  obtain ⟨b1, b2, b3, b4, b5, b6, b7, b8, b9, c1, c2, c3, c4, c5, c6, c7, m1, o1, o2, o3, o4⟩ := exc_obj I.kIn k.cls
  have r : Raises X (.ref C) := raises_own k.base k.meta_
  exact wpAny_call_exc_subT PySem.F.excBase_ValueError o4 o1 o2 o3 (fun h2 e2 made => mk_of I made r w (I.hok.gone made.new)) (Nat.zero_le _)
def raiseS (n : Nat) : Sx := fun _ S => .exc n [] S
theorem sx_raise0 {n : Nat} (hc : X.calm = true) (tk : Takes X fun cls d _ H => c.E cls d H) (k : ExcK X.K X.mg x C) (hx : c.xc n = .ref C) (hg : Gl X x) (hdb : (x == ("__debug__" : Str)) = false := by decide) :
    PS X (.Raise (some (.Call (.Name x p) [] [] pos)) none pos') (TSx c (raiseS n)) :=
  ps_imp (ps_raise hc tk (mk_zero k hg hdb)) fun D σ H ⟨P, env, S, s, h⟩ => h (.ref C) none P H s.st s.so ⟨hx.symm, rfl⟩
end
end Pv

set_option Elab.async false
set_option linter.all false
set_option maxRecDepth 100000
namespace Pv
open PySem PySem.Spec PyProof.Rows L2
/-! ### try: b except C as e: suite (the suite returns) -/
/-- behind an error of the number n: caught (m n), the suite starts with no slot -/
def tryS (b : Sx) (m : Nat → List D → Option Bool) (h : Nat → Sx) : Sx := fun env S => match b env S with
  | .exc n fs S1 => (match m n fs with
    | some true => (match h n (List.replicate env.length .un) S1 with
      | .ok (.ret r) S2 => .ok (.ret r) S2
      | _ => .bad)
    | some false => .exc n fs S1
    | none => .bad)
  | .ok fl S1 => .ok fl S1
  | .bad => .bad
theorem takes_len {X : Cx} {W : WX} (tk : Takes X W) : Takes X fun cls d σ H => σ.length = X.N.length → W cls d σ H :=
  fun u s' ⟨a, B, sI, pins, σ, H, cls, d, e, I, nb, up, sky, na, os, ag, w⟩ => tk u s' ⟨a, B, sI, pins, σ, H, cls, d, e, I, nb, up, sky, na, os, ag, w I.len⟩
/-- the wish at any slots -/
abbrev wishL (n : Nat) (W : WX) : XK := fun cls d H => ∀ σ : L2.St, σ.length = n → W cls d σ H
theorem takes_wish {X : Cx} {W : WX} (tk : Takes X W) : Takes X fun cls d _ H => wishL X.N.length W cls d H := (takes_len tk).imp fun cls d σ H h l => h σ l
section
variable {X : Cx} {c : Cc} {x n : Str} {cV : Value} {i : Nat} {body suite : List Stmt} {b₀ : Stmt} {np pos pos' : Pos} {b : Sx} {m : Nat → List D → Option Bool} {h : Nat → Sx}
theorem stt_E {E' : XK} {P H : Hp} {env : SEnv} {σ : L2.St} {S : Sto} (s : Stt c P H env σ S) : Stt { c with E := E' } P H env σ S := ⟨s.st, s.r0, s.so, s.ln, fun i => by
  have k := s.sl i
  cases q : sget env i with
  | un => trivial
  | sh d => rw [q] at k; exact k
  | own d => rw [q] at k; exact k
  | lk d => rw [q] at k; exact k
  | ref n => rw [q] at k; exact k, s.dj⟩
theorem stt_un {P H : Hp} {σ : L2.St} {S : Sto} {k : Nat} (st : Step c.ρ c.P0 c.H0 P H) (r0 : ∀ a, c.H0 a = none → a ∉ c.ρ) (so : StoOk c.K c.G c.ρ P H S) (hl : k = σ.length) : Stt c P H (List.replicate k .un) σ S := by
  have e : ∀ i, sget (List.replicate k Sl.un) i = Sl.un := fun i => by
    unfold sget
    rw [List.getD_eq_getElem?_getD, List.getElem?_replicate]
    split <;> rfl
  refine ⟨st, r0, so, by rw [List.length_replicate]; exact hl, fun i => by rw [e]; trivial, fun i j a h1 => by rw [e] at h1; cases h1⟩
/-- what the suite is told -/
def TSu (c : Cc) (i : Nat) (n : Nat) (h : Sx) (a : Addr) : TS := fun D σ H => σ[i]? = some (some (.ref a)) ∧ H a = none ∧ TSx c h D σ H
theorem sx_try (hs : X.stack = X.env :: X.outer) (hf : X.env.frame = some X.env.locals) (hN : X.N.Nodup) (hi : X.N[i]? = some n) (hln : X.env.kindOf n = some .local) (hc : Names X x cV) (tk : Takes X fun cls d _ H => c.E cls d H)
    (hm : ∀ k fs q, m k fs = some q → PySem.W.exmOne X.K (c.xc k) cV = some q)
    (hb : ∀ (E' : XK) (pn : List (Addr × Obj)) (xe : Value → Shared → Prop), Takes (X.tr pn xe) (fun cls d _ H => E' cls d H) → PassesOwn (model X.prog X.w) X.A X.env xe → PSs (X.tr pn xe) body (TSx { c with E := E' } b))
    (hsu : ∀ (a : Addr) (oe : Obj) (d : Option Addr) (pn : List (Addr × Obj)) (k : Nat) (fs : List D), m k fs = some true → (fs = [] → d = none) → Zc (c.xc k) d oe → (∃ vs, oe.data = .fields vs) → PSs (X.suite a ((a, oe) :: pn)) (b₀ :: suite) (TSu c i k (h k) a)) :
    PS X (.Try body [.ExceptHandler (some (.Name x np)) (some n) (b₀ :: suite) pos'] [] [] pos) (TSx c (tryS b m h)) := by
  have main := ps_try_as (X := X) (body := body) (suite := suite) (b₀ := b₀) (np := np) (pos := pos) (pos' := pos') (tb := fun W => TSx { c with E := wishL X.N.length W } b) (ts := fun a cls d D σ H => ∃ k fs, cls = c.xc k ∧ m k fs = some true ∧ (fs = [] → d = none) ∧ TSu c i k (h k) a D σ H) (Wout := fun cls d _ H => c.E cls d H) hs hf hN hi hln hc tk
    (fun W pn xe tk2 po => hb _ pn xe (takes_wish tk2) po)
    (fun a oe cls d pn hz hd => ⟨fun pins s σ H D I ⟨k, fs, ek, mk, mf, w⟩ => by
      subst ek
      exact (hsu a oe d pn k fs mk mf hz hd).run pins s σ H D I w⟩)
  refine ⟨fun pins s σ H D I w => main.run pins s σ H D I ?_⟩
  obtain ⟨P, env, S, st, w⟩ := w
  have hlen : σ.length = X.N.length := I.len
  refine ⟨P, env, S, stt_E st, ?_⟩
  unfold PF tryS at w
  cases q : b env S with
  | ok fl S1 =>
    rw [q] at w
    show QF _ P D fl S1
    cases fl with
    | nx env' => exact fun P' H' σ' e s' => w P' H' σ' e ⟨s'.st, s'.r0, s'.so, s'.ln, fun j => by
        have k := s'.sl j
        cases q : sget env' j with
        | un => trivial
        | sh d => rw [q] at k; exact k
        | own d => rw [q] at k; exact k
        | lk d => rw [q] at k; exact k
        | ref n => rw [q] at k; exact k, s'.dj⟩
    | ret r => exact w
  | bad => rw [q] at w; exact w.elim
  | exc k fs S1 =>
    rw [q] at w
    dsimp only at w
    intro C d P' H' sp so ex σ' hl
    obtain ⟨eC, hd⟩ := ex
    subst eC
    cases qm : m k fs with
    | none => rw [qm] at w; exact w.elim
    | some v =>
      rw [qm] at w
      refine ⟨v, hm k fs v qm, fun hv a ha => ?_, fun hv => ?_⟩
      · subst hv
        dsimp only at w
        refine ⟨k, fs, rfl, qm, (fun z => by subst z; exact hd), ?_, ha, P', List.replicate env.length .un, S1, stt_un sp st.r0 so (by rw [List.length_set, hl, ← hlen]; exact st.ln), ?_⟩
        · rw [List.getElem?_set_self (by
            rw [hl]
            exact (List.getElem?_eq_some_iff.mp hi).1)]
        · cases qh : h k (List.replicate env.length .un) S1 with
          | bad => rw [qh] at w; exact w.elim
          | exc _ _ _ => rw [qh] at w; exact w.elim
          | ok fl S2 =>
            rw [qh] at w
            cases fl with
            | nx _ => exact w.elim
            | ret r => exact w
      · subst hv
        exact w (c.xc k) d P' H' sp so ⟨rfl, hd⟩
/-! ### isinstance(e, Y) in the suite -/
theorem pe_isE {a D Y : Addr} {oe : Obj} {pn : List (Addr × Obj)} {y : Str} {v : Bool} {p0 p1 p2 : Pos} (C : ExcC X.K D) (hz : Zc (.ref D) none oe) (hd : ∃ vs, oe.data = .fields vs) (hgi : Gl X "isinstance") (hmi : X.mg "isinstance" = none)
    (hi : X.N[i]? = some n) (hv : Vis X.env.scope n) (h1 : (n == ("__debug__" : Str)) = false) (h2 : (n == ("__classdict__" : Str)) = false) (hgy : Gl X y) (hmy : X.mg y = some (.ref Y)) (h3 : (y == ("__debug__" : Str)) = false) (hk : PySem.W.kitOne X.K (.ref D) (.ref Y) = some v) :
    PE (X.suite a ((a, oe) :: pn)) (.Call (.Name "isinstance" p0) [.Name n p1, .Name y p2] [] pos) fun σ H Q => σ[i]? = some (some (.ref a)) ∧ Q (.bl v) H := by
  have cl := call_isE (X := X) (a := a) (oe := oe) (pn := pn) C hz hd
  have pv : PE (X.suite a ((a, oe) :: pn)) (.Name n p1) _ := pe_var (X := X.suite a ((a, oe) :: pn)) (i := i) hi hv h1 h2
  have py : PE (X.suite a ((a, oe) :: pn)) (.Name y p2) _ := pe_glob (X := X.suite a ((a, oe) :: pn)) (v := V.ref Y) hgy hmy rfl h3
  exact pe_imp (pe_callB cl hgi hmi PyProof.Rows.boot_isinstance (pa_cons pv (pa_cons py pa_nil))) fun σ H Q ⟨e, w⟩ => ⟨_, e, .ref Y, .ref Y, v, rfl, fun u r => r, hk, w⟩
end
end Pv

set_option Elab.async false
set_option linter.all false
set_option maxRecDepth 100000
namespace Pv
open PySem PySem.Spec PyProof.Rows L2 LamX
/-! ### def x(a): try: a() / except C as n: return ex(n); return d -/
/-- what x makes of the lambda's reading: an error of the number k gives ans k, no error d -/
def TTas (xc : Nat → Value) (okk : Nat → Prop) (ans : Nat → V) (d : V) : (XK → Hp → VK → Prop) → Hp → VK → Prop := fun tl H Q => tl (fun cls dx H' => ∃ k, okk k ∧ cls = xc k ∧ dx = none ∧ Q (ans k) H') H fun _ H' => Q d H'
section
variable {X : Cx}
abbrev Zx (X : Cx) (Ng : List Str) (x : Str) (sg : Scope) (g : Addr) (cdg : Value) (s : Shared) (H : Hp) : Cx := (cxOf C8.CX0 X.prog X.w X.K X.mg X.base Ng x sg g cdg X.A X.stack s H C8.E0).nox
theorem told_as {Ng : List Str} {x a e n q : Str} {sg : Scope} {g CS : Addr} {cdg : Value} {xc : Nat → Value} {okk : Nat → Prop} {ans : Nat → V} {dv : V} {ex dx : Expr} {p1 p2 p3 p4 p6 p7 p8 p10 : Pos} (hge : sg.names.lookup e = some .globalImplicit) (hme : X.mg e = some (.ref CS)) (hde : (e == ("__debug__" : Str)) = false)
    (hN : Ng.Nodup) (hi : Ng[1]? = some n) (hl : Ng.length = 2) (hln : ∀ (s : Shared), (envOfC x sg s.heap.objs.size g cdg).kindOf n = some .local) (hm : ∀ k, okk k → PySem.W.exmOne X.K (xc k) (.ref CS) = some true)
    (hex : ∀ (s : Shared) (H : Hp) (b : Addr) (oe : Obj) (pn : List (Addr × Obj)) (k : Nat), okk k → Zc (xc k) none oe → (∃ vs, oe.data = .fields vs) → PE ((Zx X Ng x sg g cdg s H).suite b ((b, oe) :: pn)) ex fun σ H Q => σ[1]? = some (some (.ref b)) ∧ Q (ans k) H)
    (hdx : ∀ (s : Shared) (H : Hp), PE (Zx X Ng x sg g cdg s H) dx fun _ H Q => Q dv H)
    (h0 : ∀ f : Addr, (L2.start Ng [V.ref f])[0]? = some (some (V.ref f))) (hsw : ∀ s : Shared, swapsWith (.Call (.Name a p1) [] [] p2) none p3.line (envOfC x sg s.heap.objs.size g cdg) = pure false) :
    GivesTo X Ng x sg g cdg [.Try [.Expr (.Call (.Name a p1) [] [] p2) p3] [.ExceptHandler (some (.Name e p4)) (some n) [.Return (some ex) p6] p7] [] [] p8, .Return (some dx) p10] a q (TTas xc okk ans dv) := by
  intro f c' s H Q tl act hc h
  have hgl : Gl (Zx X Ng x sg g cdg s H) e := hge
  have tr := ps_try_as (X := Zx X Ng x sg g cdg s H) (body := [.Expr (.Call (.Name a p1) [] [] p2) p3]) (suite := []) (b₀ := .Return (some ex) p6) (np := p4) (pos := p8) (pos' := p7) (i := 1) (c := .ref CS) (Wout := fun _ _ _ _ => False)
    (tb := fun W D σ H => ∃ Ech : XK, (∀ cls d σ' H', σ'.length = 2 → Ech cls d H' → W cls d σ' H') ∧ σ[0]? = some (some (.ref f)) ∧ H c' = some (CodeO c' q) ∧ tl Ech H fun _ H' => D.nx σ H')
    (ts := fun b cls d D σ H => ∃ k, okk k ∧ cls = xc k ∧ d = none ∧ σ[1]? = some (some (.ref b)) ∧ D.rt (ans k) H)
    rfl rfl hN hi (hln s) ⟨hgl, hde, .inl hme⟩ LamX.takes0
    (fun W pn xe tk _ => ⟨fun pins s' σ H' D I ⟨Ech, hW, h1, h2, h3⟩ => by
      have hp := act (fun cls d σ H => σ.length = 2 → W cls d σ H) pn xe Ech p1 p2 (by
        have := takes_len tk
        rw [show (Cx.tr (Zx X Ng x sg g cdg s H) pn xe).N.length = 2 from hl] at this
        exact this) (fun cls d σ' H' e l => hW cls d σ' H' l e)
      exact (pss_one (ps_expr (pos := p3) hp (hsw s))).run pins s' σ H' D I ⟨h1, h2, h3⟩⟩)
    (fun b oe cls d pn hz hd => ⟨fun pins s' σ H' D I ⟨k, o, ec, ed, e1, w⟩ => by
      subst ec ed
      exact (pss_one (ps_ret (pos := p6) (hex s H b oe pn k o hz hd))).run pins s' σ H' D I ⟨e1, w⟩⟩)
  refine ⟨_, pss_cons tr (pss_one (ps_ret (pos := p10) (hdx s H))), ?_⟩
  refine ⟨fun cls d H' => ∃ k, okk k ∧ cls = xc k ∧ d = none ∧ Q (ans k) H', fun cls d σ' H' hlen ⟨k, o, ec, ed, w⟩ => ?_, h0 f, hc, h⟩
  refine ⟨true, by rw [ec]; exact hm k o, fun _ b hb => ⟨k, o, ec, ed, ?_, w⟩, fun z => nomatch z⟩
  rw [List.getElem?_set_self (by omega)]
end
end Pv

set_option Elab.async false
set_option linter.all false
set_option maxRecDepth 100000
namespace Pv
open PySem PySem.Spec PyProof.Rows L2

/-! ### data are equal to themselves -/
mutual
theorem eqv_refl : ∀ d : PyData, PyData.canLay0 d = true → PyData.eqv d d = true
  | .none, _ => rfl
  | .bool a, _ => by cases a <;> rfl
  | .int i, _ => by show (i == i) = true; simp
  | .str x, _ => by show (x == x) = true; simp
  | .list xs, h => eqvAll_refl xs h
  | .tuple xs, h => eqvAll_refl xs h
  | .dict _, h => by cases h
theorem eqvAll_refl : ∀ ds : List PyData, PyData.canLayAll0 ds = true → PyData.eqvAll ds ds = true
  | [], _ => rfl
  | x :: xs, h => by
    obtain ⟨h1, h2⟩ := Bool.and_eq_true_iff.mp (show (PyData.canLay0 x && PyData.canLayAll0 xs) = true from h)
    show (PyData.eqv x x && PyData.eqvAll xs xs) = true
    rw [eqv_refl x h1, eqvAll_refl xs h2]; rfl
end
structure Good (k : Nat) (d : D) : Prop where
  flat : D.flat d = true
  lay : PyData.canLay0 (D.py d) = true
  deep : PyData.depth (D.py d) ≤ k
theorem good_int (i : Int) (k : Nat) : Good k (.int i) := ⟨rfl, rfl, by first | exact Nat.zero_le _ | (show 0 ≤ k; exact Nat.zero_le _)⟩
theorem good_bl (b : Bool) (k : Nat) : Good k (.bl b) := ⟨rfl, rfl, by show 0 ≤ k; exact Nat.zero_le _⟩
theorem good_list {k : Nat} : ∀ {l : List D}, (∀ d ∈ l, Good k d) → flatL l = true ∧ PyData.canLayAll0 (pyL l) = true ∧ PyData.depthAll (pyL l) ≤ k
  | [], _ => ⟨rfl, rfl, Nat.zero_le _⟩
  | d :: l, h => by
    obtain ⟨h1, h2, h3⟩ := h d List.mem_cons_self
    obtain ⟨g1, g2, g3⟩ := good_list (l := l) fun x hx => h x (List.mem_cons_of_mem _ hx)
    refine ⟨?_, ?_, ?_⟩
    · show (D.flat d && flatL l) = true; rw [h1, g1]; rfl
    · show (PyData.canLay0 (D.py d) && PyData.canLayAll0 (pyL l)) = true; rw [h2, g2]; rfl
    · show max (PyData.depth (D.py d)) (PyData.depthAll (pyL l)) ≤ k; omega
theorem good_tup {k : Nat} {l : List D} (h : ∀ d ∈ l, Good k d) : Good (k + 1) (.tup l) := by
  obtain ⟨g1, g2, g3⟩ := good_list h
  exact ⟨g1, g2, by show PyData.depth (.tuple (pyL l)) ≤ k + 1; rw [PyData.depth]; omega⟩
theorem good_lst {k : Nat} {l : List D} (h : ∀ d ∈ l, Good k d) : Good (k + 1) (.lst l) := by
  obtain ⟨g1, g2, g3⟩ := good_list h
  exact ⟨g1, g2, by show PyData.depth (.list (pyL l)) ≤ k + 1; rw [PyData.depth]; omega⟩
theorem Good.ok {k : Nat} {d : D} (h : Good k d) (hk : k ≤ 64) : okD d = true := by
  show (D.flat d && (PyData.canLay0 (D.py d) && decide (PyData.depth (D.py d) ≤ 64))) = true
  rw [h.flat, h.lay, decide_eq_true (show PyData.depth (D.py d) ≤ 64 from Nat.le_trans h.deep hk)]; rfl
theorem eq_same {k : Nat} {d : D} (h : Good k d) (hk : k ≤ 64) : eqD d d = some tt' := by
  unfold eqD
  rw [h.ok hk]
  show some (bR (PyData.eqv (D.py d) (D.py d))) = _
  rw [eqv_refl _ h.lay]; rfl
theorem ne_sameD {k : Nat} {d : D} (h : Good k d) (hk : k ≤ 64) : neD d d = some ff' := by
  unfold neD
  rw [h.ok hk]
  show some (bR (!PyData.eqv (D.py d) (D.py d))) = _
  rw [eqv_refl _ h.lay]; rfl
/-! ### bounded numbers -/
def fu : Nat := 2 ^ 2000
def Bd (k : Nat) (x : Int) : Prop := x.natAbs < 2 ^ k
theorem bd_log {k : Nat} {x : Int} (h : Bd k x) (hk : 0 < k) : x.natAbs.log2 < k := by
  by_cases z : x.natAbs = 0
  · rw [z, Nat.log2_zero]; exact hk
  · exact (Nat.log2_lt z).mpr h
theorem bd_mul {a b : Nat} {x y : Int} (hx : Bd a x) (hy : Bd b y) (ha : 0 < a) (hb : 0 < b) (h : a + b ≤ 1000000) : mulD (.int x) (.int y) = some ⟨false, .int (x * y)⟩ := by
  show (if _ then _ else _) = _
  have h1 := bd_log hx ha
  have h2 := bd_log hy hb
  rw [if_pos (.inr (by omega))]
theorem Bd.times {a b : Nat} {x y : Int} (hx : Bd a x) (hy : Bd b y) : Bd (a + b) (x * y) := by
  unfold Bd at *
  rw [Int.natAbs_mul, Nat.pow_add]
  exact Nat.mul_lt_mul'' hx hy
theorem Bd.plus {a : Nat} {x y : Int} (hx : Bd a x) (hy : Bd a y) : Bd (a + 1) (x + y) := by
  unfold Bd at *
  have := Int.natAbs_add_le x y
  rw [Nat.pow_succ]; omega
theorem Bd.le {a b : Nat} {x : Int} (hx : Bd a x) (h : a ≤ b) : Bd b x := Nat.lt_of_lt_of_le hx (Nat.pow_le_pow_right (by decide) h)
theorem Bd.of_le {a : Nat} {x y : Int} (hx : Bd a x) (h : y.natAbs ≤ x.natAbs) : Bd a y := Nat.lt_of_le_of_lt h hx
theorem bd_div {k : Nat} {x y : Int} (hy : 0 < y) (h : Bd k y) (hk : 0 < k) (hk2 : k ≤ 9000) : fdivD (.int x) (.int y) = some ⟨false, .int (x / y)⟩ := by
  show (if _ then _ else _) = _
  have h1 := bd_log h hk
  rw [if_pos (.inr ⟨hy, by omega⟩), Int.fdiv_eq_ediv_of_nonneg x (Int.le_of_lt hy)]
/-! ### the greatest common divisor -/
section
variable {S : Sto} {cf : Nat → List Pv.Arg → Sto → Out R}
theorem var_of {i : Nat} {env : SEnv} {d : D} (h : sget env i = .sh d) : var i env S = .ok ⟨false, d⟩ S := by unfold var; rw [h]
theorem gcd_loop {i j : Nat} (hij : i ≠ j) : ∀ (n : Nat) (env : SEnv) (a b : Int), sget env i = .sh (.int a) → sget env j = .sh (.int b) → i < env.length → j < env.length → 0 ≤ b → b < n →
    ∃ env' g, whileL (op2 neD (var j) (con (.int 0))) (par2 i false j false (var j) (op2 modD (var i) (var j))) n env S = .ok (.nx env') S ∧ sget env' i = .sh (.int g) ∧ g.natAbs = Int.gcd a b ∧ (0 ≤ a → 0 ≤ g) ∧ ∀ k, k ≠ i → k ≠ j → sget env' k = sget env k
  | 0, env, a, b, _, _, _, _, h0, h1 => by omega
  | n + 1, env, a, b, ha, hb, hi, hj, h0, h1 => by
    have ht : op2 neD (var j) (con (.int 0)) env S = .ok ⟨false, .bl (!decide (b = 0))⟩ S := e_2 (var_of hb) rfl rfl
    unfold whileL
    rw [ht]
    by_cases hz : b = 0
    · subst hz
      exact ⟨env, a, rfl, ha, by rw [Int.gcd_zero], fun h => h, fun _ _ _ => rfl⟩
    · rw [decide_eq_false hz]
      have hm : op2 modD (var i) (var j) env S = .ok ⟨false, .int (a % b)⟩ S := e_2 (var_of ha) (var_of hb) (by rw [mod_eq hz, Int.fmod_eq_emod_of_nonneg a h0])
      have hp : par2 i false j false (var j) (op2 modD (var i) (var j)) env S = .ok (.nx ((env.set i (.sh (.int b))).set j (.sh (.int (a % b))))) S := e_par2 (var_of hb) hm rfl rfl
      simp only [Out.bind, Bool.not_false, hp]
      have l1 : i < ((env.set i (.sh (.int b))).set j (.sh (.int (a % b)))).length := by simpa using hi
      have l2 : j < ((env.set i (.sh (.int b))).set j (.sh (.int (a % b)))).length := by simpa using hj
      have g1 : sget ((env.set i (.sh (.int b))).set j (.sh (.int (a % b)))) i = .sh (.int b) := by rw [sget_set_ne (Ne.symm hij), sget_set_self hi]
      have g2 : sget ((env.set i (.sh (.int b))).set j (.sh (.int (a % b)))) j = .sh (.int (a % b)) := sget_set_self (by simpa using hj)
      have hlt := Int.emod_lt_of_pos a (show 0 < b by omega)
      have hnn := Int.emod_nonneg a hz
      obtain ⟨env', g, q1, q2, q3, q4, q5⟩ := gcd_loop hij n _ b (a % b) g1 g2 l1 l2 hnn (by omega)
      refine ⟨env', g, q1, q2, by rw [q3, Ra.gcd_step], fun _ => q4 (by omega), fun k k1 k2 => ?_⟩
      rw [q5 k k1 k2, sget_set_ne (Ne.symm k2), sget_set_ne (Ne.symm k1)]
theorem common_ok {a b : Int} (h0 : 0 ≤ b) (h1 : b < fu) : runF (seqS (whileS fu (op2 neD (var 1) (con (.int 0))) (par2 0 false 1 false (var 1) (op2 modD (var 0) (var 1)))) (retS (b1V absD 0))) 2 [.sh (.int a), .sh (.int b)] S = .ok ⟨false, .int (Int.gcd a b : Int)⟩ S := by
  obtain ⟨env', g, q1, q2, q3, _, _⟩ := gcd_loop (S := S) (i := 0) (j := 1) (by decide) fu [.sh (.int a), .sh (.int b)] a b rfl rfl (show 0 < 2 by decide) (show 1 < 2 by decide) h0 h1
  refine f_ret (s_nx (env1 := env') (S1 := S) q1 (e_ret ?_))
  have e : peek env' S 0 = some (.int g) := by unfold peek; rw [q2]
  unfold b1V
  rw [e]
  show Out.ok (⟨false, .int (if g < 0 then -g else g)⟩ : R) S = _
  rw [← q3]
  congr 3
  split <;> omega
def ratD (p : Int × Int) : D := .tup [.int p.1, .int p.2]
theorem good_rat (p : Int × Int) : Good 1 (ratD p) := good_tup fun d hd => by
  simp only [List.mem_cons, List.not_mem_nil, or_false] at hd
  rcases hd with rfl | rfl <;> exact good_int _ _
/-- what a def that shortens ratios answers -/
def RatF (c : List Pv.Arg → Sto → Out R) : Prop := ∀ (t l : Int) (S : Sto), 0 < l → Bd 2000 l → c [.sh (.int t), .sh (.int l)] S = .ok ⟨false, ratD (Ra.canon t l)⟩ S
theorem fu_of {l : Int} (h : 0 < l) (hb : Bd 2000 l) : l < fu := by
  unfold Bd at hb
  unfold fu
  omega
theorem gcd_bd {t l : Int} (h : 0 < l) (hb : Bd 2000 l) : Bd 2000 (Int.gcd t l : Int) := hb.of_le (by
  have := Int.gcd_le_right t h
  omega)
theorem ratio_ok {i : Nat} {cf : Nat → List Pv.Arg → Sto → Out R} (hc : ∀ (a b : Int) (S : Sto), 0 ≤ b → b < fu → cf i [.sh (.int a), .sh (.int b)] S = .ok ⟨false, .int (Int.gcd a b : Int)⟩ S) :
    RatF (runF (seqS (ifS (op2 ltD (var 1) (con (.int 0))) (par2 0 false 1 false (op1 negD (var 0)) (op1 negD (var 1))) skip) (seqS (setS 2 (callX cf i (aname 0 (aname 1 anil)))) (retS (tupX (lcons (op2 fdivD (var 0) (var 2)) (lcons (op2 fdivD (var 1) (var 2)) lnil)))))) 3) := fun t l S hl hb => by
  have h1 : op2 ltD (var 1) (con (.int 0)) [.sh (.int t), .sh (.int l), .un] S = .ok ff' S := e_2 (S1 := S) rfl rfl (by show some (bR (decide (l < 0))) = _; rw [decide_eq_false (by omega)]; rfl)
  have h2 := hc t l S (Int.le_of_lt hl) (fu_of hl hb)
  have g0 := Ra.gpos (t := t) hl
  have gb := gcd_bd (t := t) hl hb
  have d1 := bd_div (x := t) g0 gb (by decide) (by decide)
  have d2 := bd_div (x := l) g0 gb (by decide) (by decide)
  refine f_ret (s_nx (i_f h1 rfl) (s_nx (e_set (x_call (a_sh rfl (a_sh rfl rfl)) h2)) (e_ret ?_)))
  have e1 : op2 fdivD (var 0) (var 2) [.sh (.int t), .sh (.int l), .sh (.int (Int.gcd t l : Int))] S = .ok ⟨false, .int (t / (Int.gcd t l : Int))⟩ S := e_2 (S1 := S) rfl rfl d1
  have e2 : op2 fdivD (var 1) (var 2) [.sh (.int t), .sh (.int l), .sh (.int (Int.gcd t l : Int))] S = .ok ⟨false, .int (l / (Int.gcd t l : Int))⟩ S := e_2 (S1 := S) rfl rfl d2
  show tupX _ [.sh (.int t), .sh (.int l), .sh (.int (Int.gcd t l : Int))] S = _
  simp [tupX, lcons, lnil, e1, e2, Out.bind, line, ratD, Ra.canon]
theorem lawRatio_ok : RatF (runF (seqS (par2 2 false 3 false (b1V absD 0) (var 1)) (seqS (whileS fu (op2 neD (var 3) (con (.int 0))) (par2 2 false 3 false (var 3) (op2 modD (var 2) (var 3)))) (retS (tupX (lcons (op2 fdivD (var 0) (var 2)) (lcons (op2 fdivD (var 1) (var 2)) lnil)))))) 4) := fun t l S hl hb => by
  obtain ⟨env', g, q1, q2, q3, q4, q5⟩ := gcd_loop (S := S) (i := 2) (j := 3) (by decide) fu [.sh (.int t), .sh (.int l), .sh (.int (if t < 0 then -t else t)), .sh (.int l)] (if t < 0 then -t else t) l rfl rfl (show 2 < 4 by decide) (show 3 < 4 by decide) (Int.le_of_lt hl) (fu_of hl hb)
  have g0 := Ra.gpos (t := t) hl
  have gb := gcd_bd (t := t) hl hb
  have d1 := bd_div (x := t) g0 gb (by decide) (by decide)
  have d2 := bd_div (x := l) g0 gb (by decide) (by decide)
  have eg : g = (Int.gcd t l : Int) := by
    have h1 := q4 (by split <;> omega)
    have h2 : Int.gcd (if t < 0 then -t else t) l = Int.gcd t l := by split <;> simp
    rw [h2] at q3
    omega
  subst eg
  have k0 : sget env' 0 = .sh (.int t) := q5 0 (by decide) (by decide)
  have k1 : sget env' 1 = .sh (.int l) := q5 1 (by decide) (by decide)
  have e1 : op2 fdivD (var 0) (var 2) env' S = .ok ⟨false, .int (t / (Int.gcd t l : Int))⟩ S := e_2 (var_of k0) (var_of q2) d1
  have e2 : op2 fdivD (var 1) (var 2) env' S = .ok ⟨false, .int (l / (Int.gcd t l : Int))⟩ S := e_2 (var_of k1) (var_of q2) d2
  refine f_ret (s_nx (e_par2 (S1 := S) (S2 := S) rfl rfl rfl rfl) (s_nx (env1 := env') (S1 := S) q1 (e_ret ?_)))
  simp [tupX, lcons, lnil, e1, e2, Out.bind, line, ratD, Ra.canon]
/-! ### sums -/
theorem rat_at0 (p : Int × Int) : atD (ratD p) (.int 0) = some ⟨false, .int p.1⟩ := rfl
theorem rat_at1 (p : Int × Int) : atD (ratD p) (.int 1) = some ⟨false, .int p.2⟩ := rfl
theorem sub_of {i : Nat} {env : SEnv} {d : D} {k : Ex} {r r1 : R} (h : sget env i = .sh d) (hk : k env S = .ok r1 S) (e : atD d r1.d = some r) : subV i k env S = .ok r S := by
  unfold subV peek
  rw [h]
  simp only [hk, Out.bind, e]
/-- both parts are small -/
def Sm (a b : Nat) (p : Int × Int) : Prop := 0 < p.2 ∧ Bd a p.1 ∧ Bd b p.2
theorem Sm.canon {a b : Nat} {p : Int × Int} (h : Sm a b p) : Sm a b (Ra.canonP p) := by
  have q := Ra.canon_le (t := p.1) h.1
  exact ⟨Ra.canon_pos h.1, h.2.1.of_le q.1, h.2.2.of_le q.2⟩
theorem Sm.le {a b a' b' : Nat} {p : Int × Int} (h : Sm a b p) (ha : a ≤ a') (hb : b ≤ b') : Sm a' b' p := ⟨h.1, h.2.1.le ha, h.2.2.le hb⟩
theorem Sm.add {a b k : Nat} {x p : Int × Int} (hx : Sm k k x) (hp : Sm a b p) (hab : b ≤ a) : Sm (k + a + 1) (k + a + 1) (Ra.addP x p) :=
  ⟨Int.mul_pos hx.1 hp.1, (hx.2.1.times (hp.2.2.le hab)).plus ((hp.2.1.times hx.2.2).le (by omega)), (hx.2.2.times hp.2.2).le (by omega)⟩
theorem plus_ok {i : Nat} {cf : Nat → List Pv.Arg → Sto → Out R} (hc : RatF (cf i)) {x p : Int × Int} {S : Sto} {k a b : Nat} (hx : Sm k k x) (hp : Sm a b p) (hk : 0 < k) (ha : 0 < a) (hb : 0 < b) (h : k + b ≤ 2000) (h2 : k + a ≤ 100000) :
    runF (retS (callX cf i (aval (op2 addD (op2 mulD (subV 0 (con (.int 0))) (subV 1 (con (.int 1)))) (op2 mulD (subV 1 (con (.int 0))) (subV 0 (con (.int 1))))) (aval (op2 mulD (subV 0 (con (.int 1))) (subV 1 (con (.int 1)))) anil)))) 2 [.sh (ratD x), .sh (ratD p)] S =
      .ok ⟨false, ratD (Ra.canonP (Ra.addP x p))⟩ S := by
  have s00 : subV 0 (con (.int 0)) [.sh (ratD x), .sh (ratD p)] S = .ok ⟨false, .int x.1⟩ S := rfl
  have s01 : subV 0 (con (.int 1)) [.sh (ratD x), .sh (ratD p)] S = .ok ⟨false, .int x.2⟩ S := rfl
  have s10 : subV 1 (con (.int 0)) [.sh (ratD x), .sh (ratD p)] S = .ok ⟨false, .int p.1⟩ S := rfl
  have s11 : subV 1 (con (.int 1)) [.sh (ratD x), .sh (ratD p)] S = .ok ⟨false, .int p.2⟩ S := rfl
  have m1 := bd_mul hx.2.1 hp.2.2 hk hb (by omega)
  have m2 := bd_mul hp.2.1 hx.2.2 ha hk (by omega)
  have m3 := bd_mul hx.2.2 hp.2.2 hk hb (by omega)
  exact f_ret (e_ret (x_call (a_val (e_2 (e_2 s00 s11 m1) (e_2 s10 s01 m2) rfl) (a_val (e_2 s01 s11 m3) rfl)) (hc _ _ S (Int.mul_pos hx.1 hp.1) ((hx.2.2.times hp.2.2).le h))))
theorem times_ok {i : Nat} {cf : Nat → List Pv.Arg → Sto → Out R} (hc : RatF (cf i)) {p : Int × Int} {x : Int} {S : Sto} {a b : Nat} (hp : Sm a b p) (hx : Bd a x) (ha : 0 < a) (h2 : a + a ≤ 2000) (hb : b ≤ 2000) :
    runF (retS (callX cf i (aval (op2 mulD (subV 0 (con (.int 0))) (var 1)) (aval (subV 0 (con (.int 1))) anil)))) 2 [.sh (ratD p), .sh (.int x)] S = .ok ⟨false, ratD (Ra.canonP (p.1 * x, p.2))⟩ S := by
  have s00 : subV 0 (con (.int 0)) [.sh (ratD p), .sh (.int x)] S = .ok ⟨false, .int p.1⟩ S := rfl
  have s01 : subV 0 (con (.int 1)) [.sh (ratD p), .sh (.int x)] S = .ok ⟨false, .int p.2⟩ S := rfl
  exact f_ret (e_ret (x_call (a_val (e_2 (S1 := S) s00 rfl (bd_mul hp.2.1 hx ha ha (by omega))) (a_val s01 rfl)) (hc _ _ S hp.1 (hp.2.2.le hb))))
theorem canonP_add {x p : Int × Int} (hx : 0 < x.2) (hp : 0 < p.2) : Ra.canonP (Ra.addP (Ra.canonP x) p) = Ra.canonP (Ra.addP x p) :=
  Ra.canon_eq (Int.mul_pos (Ra.canon_pos hx) hp) (Int.mul_pos hx hp) (Ra.addP_E (Ra.canon_E hx) (Ra.E.refl p))
theorem total_loop {i : Nat} {cf : Nat → List Pv.Arg → Sto → Out R} {a b : Nat} (ha : 0 < a) (hb : 0 < b) (hab : b ≤ a) (hc : ∀ (x p : Int × Int) (k : Nat) (S : Sto), Sm k k x → Sm a b p → 0 < k → k + b ≤ 2000 → cf i [.sh (ratD x), .sh (ratD p)] S = .ok ⟨false, ratD (Ra.canonP (Ra.addP x p))⟩ S) :
    ∀ (ps : List (Int × Int)) (x : Int × Int) (k : Nat) (env : SEnv), (∀ p ∈ ps, Sm a b p) → Sm k k x → 0 < k → k + ps.length * (a + 1) + b ≤ 2000 → env.length = 3 → sget env 1 = .sh (ratD (Ra.canonP x)) →
      ∃ env', forL (tName 2) (setS 1 (callX cf i (aname 1 (aname 2 anil)))) (ps.map ratD) env S = .ok (.nx env') S ∧ sget env' 1 = .sh (ratD (Ra.canonP (ps.foldl Ra.addP x)))
  | [], x, k, env, _, _, _, _, _, h => ⟨env, rfl, h⟩
  | p :: ps, x, k, env, hp, hx, hk, hl, he, h => by
    have p0 := hp p List.mem_cons_self
    have h3 : sget (env.set 2 (.sh (ratD p))) 1 = .sh (ratD (Ra.canonP x)) := by rw [sget_set_ne (by decide)]; exact h
    have h4 : sget (env.set 2 (.sh (ratD p))) 2 = .sh (ratD p) := sget_set_self (by omega)
    have hl2 : k + (ps.length + 1) * (a + 1) + b ≤ 2000 := hl
    rw [Nat.add_mul, Nat.one_mul] at hl2
    have e := hc (Ra.canonP x) p k S hx.canon p0 hk (by omega)
    rw [canonP_add hx.1 p0.1] at e
    have e2 : setS 1 (callX cf i (aname 1 (aname 2 anil))) (env.set 2 (.sh (ratD p))) S = .ok (.nx ((env.set 2 (.sh (ratD p))).set 1 (.sh (ratD (Ra.canonP (Ra.addP x p)))))) S := e_set (x_call (a_sh h3 (a_sh h4 rfl)) e)
    obtain ⟨env', q1, q2⟩ := total_loop ha hb hab hc ps (Ra.addP x p) (k + a + 1) ((env.set 2 (.sh (ratD p))).set 1 (.sh (ratD (Ra.canonP (Ra.addP x p))))) (fun q hq => hp q (List.mem_cons_of_mem _ hq)) (hx.add p0 hab) (by omega) (by omega) (by simpa using he) (sget_set_self (by simp; omega))
    exact ⟨env', f_cons rfl e2 q1, q2⟩
theorem sm01 : Sm 1 1 (0, 1) := ⟨by decide, show (0 : Int).natAbs < 2 ^ 1 by decide, show (1 : Int).natAbs < 2 ^ 1 by decide⟩
theorem total_ok {i : Nat} {cf : Nat → List Pv.Arg → Sto → Out R} {a b : Nat} (ha : 0 < a) (hb : 0 < b) (hab : b ≤ a) (hc : ∀ (x p : Int × Int) (k : Nat) (S : Sto), Sm k k x → Sm a b p → 0 < k → k + b ≤ 2000 → cf i [.sh (ratD x), .sh (ratD p)] S = .ok ⟨false, ratD (Ra.canonP (Ra.addP x p))⟩ S)
    (ps : List (Int × Int)) (hp : ∀ p ∈ ps, Sm a b p) (hl : 1 + ps.length * (a + 1) + b ≤ 2000) :
    runF (seqS (setS 1 (tupX (lcons (con (.int 0)) (lcons (con (.int 1)) lnil)))) (seqS (forS (tName 2) (iVal (var 0)) (setS 1 (callX cf i (aname 1 (aname 2 anil))))) (retS (var 1)))) 3 [.sh (.lst (ps.map ratD))] S = .ok ⟨false, ratD (Ra.canonP (Ra.sumP ps))⟩ S := by
  obtain ⟨env', q1, q2⟩ := total_loop (S := S) ha hb hab hc ps (0, 1) 1 [.sh (.lst (ps.map ratD)), .sh (ratD (Ra.canonP (0, 1))), .un] hp sm01 (by decide) hl rfl rfl
  exact f_ret (s_nx (S1 := S) rfl (s_nx (e_for (S1 := S) rfl q1) (e_ret (var_of q2))))
theorem lawSum_loop {a b : Nat} (ha : 0 < a) (hb : 0 < b) (hab : b ≤ a) :
    ∀ (ps : List (Int × Int)) (x : Int × Int) (k : Nat) (env : SEnv), (∀ p ∈ ps, Sm a b p) → Sm k k x → 0 < k → k + ps.length * (a + 1) ≤ 2000 → env.length = 4 → sget env 1 = .sh (.int x.1) → sget env 2 = .sh (.int x.2) →
      ∃ env', forL (tName 3) (par2 1 false 2 false (op2 addD (op2 mulD (var 1) (subV 3 (con (.int 1)))) (op2 mulD (subV 3 (con (.int 0))) (var 2))) (op2 mulD (var 2) (subV 3 (con (.int 1))))) (ps.map ratD) env S = .ok (.nx env') S ∧
        sget env' 1 = .sh (.int (ps.foldl Ra.addP x).1) ∧ sget env' 2 = .sh (.int (ps.foldl Ra.addP x).2) ∧ Sm (k + ps.length * (a + 1)) (k + ps.length * (a + 1)) (ps.foldl Ra.addP x)
  | [], x, k, env, _, hx, _, _, _, h, h' => ⟨env, rfl, h, h', by simpa using hx⟩
  | p :: ps, x, k, env, hp, hx, hk, hl, he, h, h' => by
    have p0 := hp p List.mem_cons_self
    have h1 : sget (env.set 3 (.sh (ratD p))) 1 = .sh (.int x.1) := by rw [sget_set_ne (by decide)]; exact h
    have h2 : sget (env.set 3 (.sh (ratD p))) 2 = .sh (.int x.2) := by rw [sget_set_ne (by decide)]; exact h'
    have h3 : sget (env.set 3 (.sh (ratD p))) 3 = .sh (ratD p) := sget_set_self (by omega)
    have hl2 : k + (ps.length + 1) * (a + 1) ≤ 2000 := hl
    rw [Nat.add_mul, Nat.one_mul] at hl2
    have m1 := bd_mul hx.2.1 p0.2.2 hk hb (by omega)
    have m2 := bd_mul p0.2.1 hx.2.2 ha hk (by omega)
    have m3 := bd_mul hx.2.2 p0.2.2 hk hb (by omega)
    have e2 : par2 1 false 2 false (op2 addD (op2 mulD (var 1) (subV 3 (con (.int 1)))) (op2 mulD (subV 3 (con (.int 0))) (var 2))) (op2 mulD (var 2) (subV 3 (con (.int 1)))) (env.set 3 (.sh (ratD p))) S =
        .ok (.nx (((env.set 3 (.sh (ratD p))).set 1 (.sh (.int (Ra.addP x p).1))).set 2 (.sh (.int (Ra.addP x p).2)))) S :=
      e_par2 (e_2 (e_2 (var_of h1) (sub_of h3 rfl rfl) m1) (e_2 (sub_of h3 rfl rfl) (var_of h2) m2) rfl) (e_2 (var_of h2) (sub_of h3 rfl rfl) m3) rfl rfl
    obtain ⟨env', q1, q2, q3, q4⟩ := lawSum_loop ha hb hab ps (Ra.addP x p) (k + a + 1) (((env.set 3 (.sh (ratD p))).set 1 (.sh (.int (Ra.addP x p).1))).set 2 (.sh (.int (Ra.addP x p).2))) (fun q hq => hp q (List.mem_cons_of_mem _ hq)) (hx.add p0 hab) (by omega) (by omega) (by simpa using he)
      (by rw [sget_set_ne (by decide)]; exact sget_set_self (by simp; omega)) (sget_set_self (by simp; omega))
    refine ⟨env', f_cons rfl e2 q1, q2, q3, ?_⟩
    have hk2 : k + a + 1 + ps.length * (a + 1) = k + (p :: ps).length * (a + 1) := by
      show _ = k + (ps.length + 1) * (a + 1)
      rw [Nat.add_mul, Nat.one_mul]; omega
    rw [← hk2]
    exact q4
theorem lawSum_ok {i : Nat} {cf : Nat → List Pv.Arg → Sto → Out R} {a b : Nat} (ha : 0 < a) (hb : 0 < b) (hab : b ≤ a) (hc : RatF (cf i)) (ps : List (Int × Int)) (hp : ∀ p ∈ ps, Sm a b p) (hl : 1 + ps.length * (a + 1) ≤ 2000) :
    runF (seqS (par2 1 false 2 false (con (.int 0)) (con (.int 1))) (seqS (forS (tName 3) (iVal (var 0)) (par2 1 false 2 false (op2 addD (op2 mulD (var 1) (subV 3 (con (.int 1)))) (op2 mulD (subV 3 (con (.int 0))) (var 2))) (op2 mulD (var 2) (subV 3 (con (.int 1)))))) (retS (callX cf i (aname 1 (aname 2 anil)))))) 4 [.sh (.lst (ps.map ratD))] S =
      .ok ⟨false, ratD (Ra.canonP (Ra.sumP ps))⟩ S := by
  obtain ⟨env', q1, q2, q3, q4⟩ := lawSum_loop (S := S) ha hb hab ps (0, 1) 1 [.sh (.lst (ps.map ratD)), .sh (.int 0), .sh (.int 1), .un] hp sm01 (by decide) hl rfl rfl rfl
  exact f_ret (s_nx (S1 := S) rfl (s_nx (e_for (S1 := S) rfl q1) (e_ret (x_call (a_sh q2 (a_sh q3 rfl)) (hc _ _ S q4.1 (q4.2.2.le hl))))))
/-! ### a comprehension of a function -/
theorem comp_fn {α : Type} {tg : Tx} {t e : Ex} {env : SEnv} (g : α → D) (f : α → D) : ∀ l : List α, (∀ x ∈ l, ∃ env1, tg env (g x) = some env1 ∧ t env1 S = .ok tt' S ∧ ∃ fr, e env1 S = .ok ⟨fr, f x⟩ S) → compL tg t e env (l.map g) S = .ok (l.map f) S
  | [], _ => rfl
  | x :: l, h => by
    obtain ⟨env1, h1, h2, fr, h3⟩ := h x List.mem_cons_self
    show compL tg t e env (g x :: l.map g) S = _
    unfold compL
    rw [h1]
    simp only [h2, nox, Out.bind, h3, comp_fn g f l fun y hy => h y (List.mem_cons_of_mem _ hy)]
    rfl
end
end Pv

set_option Elab.async false
set_option linter.all false
set_option maxRecDepth 100000
namespace Pv
open PySem PySem.Spec PyProof.Rows L2

/-! ### rules: rows of small ratios in lowest terms -/
def Pt (p : Int × Int) : Prop := Sm 11 11 p ∧ Int.gcd p.1 p.2 = 1
def lineD (row : List (Int × Int)) : D := .tup (row.map ratD)
def ruleD (rows : List (List (Int × Int))) : D := .tup (rows.map lineD)
structure RuleOk (m n : Nat) (rows : List (List (Int × Int))) : Prop where
  len : rows.length = m
  row : ∀ row ∈ rows, row.length = n ∧ ∀ p ∈ row, Pt p
def szOf : Nat → Nat
  | 2 => 3
  | 3 => 7
  | _ => 15
def termP (row : List (Int × Int)) (xs : List Int) : List (Int × Int) := List.zipWith (fun p x => (p.1 * x, p.2)) row xs
def shareP (row : List (Int × Int)) (xs : List Int) : Int × Int := Ra.canonP (Ra.sumP (termP row xs))
def sharesD (rows : List (List (Int × Int))) (xs : List Int) : D := .tup (rows.map fun row => ratD (shareP row xs))
section
variable {S : Sto}
theorem zipD_maps {α β : Type} (f : α → D) (g : β → D) : ∀ (l : List α) (m : List β), zipD (l.map f) (m.map g) = (l.zip m).map fun q => .tup [f q.1, g q.2]
  | [], m => by cases m <;> rfl
  | a :: l, [] => rfl
  | a :: l, b :: m => by
    show D.tup [f a, g b] :: zipD (l.map f) (m.map g) = _
    rw [zipD_maps f g l m]; rfl
theorem termP_zip : ∀ (row : List (Int × Int)) (xs : List Int), termP row xs = (row.zip xs).map fun q => (q.1.1 * q.2, q.1.2)
  | [], xs => by cases xs <;> rfl
  | p :: row, [] => rfl
  | p :: row, x :: xs => by
    show (p.1 * x, p.2) :: termP row xs = _
    rw [termP_zip row xs]; rfl
theorem term_sm {row : List (Int × Int)} {xs : List Int} (hp : ∀ p ∈ row, Pt p) (hx : ∀ x ∈ xs, Bd 11 x) : ∀ q ∈ termP row xs, Sm 22 11 q := fun q hq => by
  rw [termP_zip] at hq
  obtain ⟨r, hr, rfl⟩ := List.mem_map.mp hq
  have h1 := hp _ (List.of_mem_zip hr).1
  have h2 := hx _ (List.of_mem_zip hr).2
  exact ⟨h1.1.1, h1.1.2.1.times h2, h1.1.2.2⟩
theorem sum_canon {ps : List (Int × Int)} (hp : ∀ p ∈ ps, 0 < p.2) : Ra.canonP (Ra.sumP (ps.map Ra.canonP)) = Ra.canonP (Ra.sumP ps) := by
  refine Ra.canon_eq (Ra.foldl_pos (fun q hq => ?_) (by decide)) (Ra.foldl_pos hp (by decide)) (Ra.foldl_E (by simp) (fun i p q h1 h2 => ?_) (Ra.E.refl _))
  · obtain ⟨r, hr, rfl⟩ := List.mem_map.mp hq
    exact Ra.canon_pos (hp r hr)
  · rw [List.getElem?_map, h2] at h1
    cases h1
    exact Ra.canon_E (hp q (List.mem_of_getElem? h2))
theorem zipl {α β : Type} (l : List α) (m : List β) (h : l.length = m.length) : (l.zip m).length = l.length := by rw [List.length_zip, h, Nat.min_self]
/-- shares_of -/
theorem sharesOf_ok {i j : Nat} {cf : Nat → List Pv.Arg → Sto → Out R} (ht : ∀ (p : Int × Int) (x : Int) (S : Sto), Sm 11 11 p → Bd 11 x → cf j [.sh (ratD p), .sh (.int x)] S = .ok ⟨false, ratD (Ra.canonP (p.1 * x, p.2))⟩ S)
    (hs : ∀ (ps : List (Int × Int)) (S : Sto), (∀ p ∈ ps, Sm 22 11 p) → ps.length ≤ 15 → cf i [.sh (.lst (ps.map ratD))] S = .ok ⟨false, ratD (Ra.canonP (Ra.sumP ps))⟩ S)
    {m n : Nat} {rows : List (List (Int × Int))} {xs : List Int} (hr : RuleOk m n rows) (hn : n ≤ 15) (hm : m ≤ 4) (hl : xs.length = n) (hx : ∀ x ∈ xs, Bd 11 x) :
    runF (retS (op1 tupleD (compX [2] (tName 2) (iVal (var 0)) (con (.bl true)) (callX cf i (aval (compX [3, 4] (tTupl [3, 4]) (iZip (lcons (var 2) (lcons (var 1) lnil))) (con (.bl true)) (callX cf j (aname 3 (aname 4 anil)))) anil))))) 5 [.sh (ruleD rows), .sh (nD xs)] S =
      .ok ⟨false, sharesD rows xs⟩ S := by
  have hlen := hr.len
  refine f_ret (e_ret (e_1 (e_comp (ds := rows.map lineD) (S1 := S) rfl (by rw [List.length_map, hlen]; unfold line; omega) (comp_fn lineD (fun row => ratD (shareP row xs)) rows fun row hrow => ?_)) rfl))
  obtain ⟨h1, h2⟩ := hr.row row hrow
  refine ⟨_, rfl, rfl, false, ?_⟩
  have sm := term_sm h2 hx
  have inner : compX [3, 4] (tTupl [3, 4]) (iZip (lcons (var 2) (lcons (var 1) lnil))) (con (.bl true)) (callX cf j (aname 3 (aname 4 anil))) [.sh (ruleD rows), .sh (nD xs), .sh (lineD row), .un, .un] S =
      .ok ⟨true, .lst (((row.zip xs).map fun q => (q.1.1 * q.2, q.1.2)).map fun p => ratD (Ra.canonP p))⟩ S := by
    rw [List.map_map]
    refine e_comp (ds := (row.zip xs).map fun q => .tup [ratD q.1, .int q.2]) (S1 := S) ?_ (by rw [List.length_map, zipl _ _ (by omega)]; unfold line; omega) (comp_fn (fun q : (Int × Int) × Int => D.tup [ratD q.1, .int q.2]) _ _ fun q hq => ?_)
    · rw [← zipD_maps]; rfl
    · exact ⟨_, rfl, rfl, false, x_call (a_sh rfl (a_sh rfl rfl)) (ht _ _ S (h2 _ (List.of_mem_zip hq).1).1 (hx _ (List.of_mem_zip hq).2))⟩
  rw [← termP_zip] at inner
  have e := hs ((termP row xs).map Ra.canonP) S (fun p hp => by
    obtain ⟨q, hq, rfl⟩ := List.mem_map.mp hp
    exact (sm q hq).canon) (by rw [List.length_map, termP_zip, List.length_map, zipl _ _ (by omega)]; omega)
  rw [sum_canon fun p hp => (sm p hp).1, List.map_map] at e
  exact x_call (a_val inner rfl) e
theorem range_map {α : Type} {l : List α} {n : Nat} (f : Nat → D) (g : α → D) (hl : l.length = n) (h : ∀ (k : Nat) (hk : k < l.length), f k = g l[k]) : (List.range n).map f = l.map g := by
  refine List.ext_getElem (by simp [hl]) fun k h1 h2 => ?_
  simp only [List.getElem_map, List.getElem_range]
  exact h k (by simpa using h2)
theorem atI_map {α : Type} (f : α → D) (l : List α) {k : Nat} (h : k < l.length) : atI (l.map f) (k : Int) = some (f l[k]) := by
  unfold atI ixN
  rw [if_pos (by omega), if_pos (by rw [List.length_map]; omega)]
  show (l.map f)[k]? = _
  rw [List.getElem?_map, List.getElem?_eq_getElem h]
  rfl
/-- the law's own -/
theorem lawShares_ok {i : Nat} {cf : Nat → List Pv.Arg → Sto → Out R} (hs : ∀ (ps : List (Int × Int)) (S : Sto), (∀ p ∈ ps, Sm 22 11 p) → ps.length ≤ 15 → cf i [.sh (.lst (ps.map ratD))] S = .ok ⟨false, ratD (Ra.canonP (Ra.sumP ps))⟩ S)
    {m n : Nat} {rows : List (List (Int × Int))} {xs : List Int} (hr : RuleOk m n rows) (hn : n ≤ 15) (hm : m ≤ 4) (hl : xs.length = n) (hx : ∀ x ∈ xs, Bd 11 x) :
    runF (retS (op1 tupleD (compX [2] (tName 2) (iVal (var 0)) (con (.bl true)) (callX cf i (aval (compX [3] (tName 3) (iRg1 (lcons (b1V lenD 1) lnil)) (con (.bl true)) (tupX (lcons (op2 mulD (op2 atD (subV 2 (var 3)) (con (.int 0))) (subV 1 (var 3))) (lcons (op2 atD (subV 2 (var 3)) (con (.int 1))) lnil)))) anil))))) 4 [.sh (ruleD rows), .sh (nD xs)] S =
      .ok ⟨false, sharesD rows xs⟩ S := by
  have hlen := hr.len
  refine f_ret (e_ret (e_1 (e_comp (ds := rows.map lineD) (S1 := S) rfl (by rw [List.length_map, hlen]; unfold line; omega) (comp_fn lineD (fun row => ratD (shareP row xs)) rows fun row hrow => ?_)) rfl))
  obtain ⟨h1, h2⟩ := hr.row row hrow
  refine ⟨_, rfl, rfl, false, ?_⟩
  have sm := term_sm h2 hx
  have hw : (-line : Int) ≤ (xs.length : Int) ∧ (xs.length : Int) ≤ line := by unfold line; omega
  have e1 : lenD (nD xs) = some ⟨false, .int xs.length⟩ := by rw [nD, len_tup, List.length_map]
  have it : iRg1 (lcons (b1V lenD 1) lnil) [.sh (ruleD rows), .sh (nD xs), .sh (lineD row), .un] S = .ok ((List.range xs.length).map fun (i : Nat) => D.int i) S := by
    simp [iRg1, lcons, lnil, b1V, peek, sget, e1, Out.bind, hw]
  have hz : (termP row xs).length = n := by rw [termP_zip, List.length_map, zipl _ _ (by omega), h1]
  have inner : compX [3] (tName 3) (iRg1 (lcons (b1V lenD 1) lnil)) (con (.bl true)) (tupX (lcons (op2 mulD (op2 atD (subV 2 (var 3)) (con (.int 0))) (subV 1 (var 3))) (lcons (op2 atD (subV 2 (var 3)) (con (.int 1))) lnil))) [.sh (ruleD rows), .sh (nD xs), .sh (lineD row), .un] S =
      .ok ⟨true, .lst ((termP row xs).map ratD)⟩ S := by
    rw [← range_map (l := termP row xs) (n := xs.length) (fun k => if h : k < row.length ∧ k < xs.length then ratD (row[k].1 * xs[k], row[k].2) else .non) ratD (by omega) (fun k hk => by
      have q : k < row.length ∧ k < xs.length := by omega
      simp only [q, and_self, dite_true]
      simp [termP])]
    refine e_comp it (by rw [List.length_map, List.length_range]; unfold line; omega) (comp_fn (fun (k : Nat) => D.int k) _ _ fun k hk => ⟨_, rfl, rfl, false, ?_⟩)
    rw [List.mem_range] at hk
    have q : k < row.length ∧ k < xs.length := by omega
    simp only [q, and_self, dite_true]
    have a1 : subV 2 (var 3) [.sh (ruleD rows), .sh (nD xs), .sh (lineD row), .sh (.int (k : Int))] S = .ok ⟨false, ratD row[k]⟩ S := sub_of (d := lineD row) rfl rfl (by show atD (.tup (row.map ratD)) (.int (k : Int)) = _; rw [at_tup, atI_map ratD row q.1]; rfl)
    have a2 : subV 1 (var 3) [.sh (ruleD rows), .sh (nD xs), .sh (lineD row), .sh (.int (k : Int))] S = .ok ⟨false, .int xs[k]⟩ S := sub_of (d := nD xs) rfl rfl (by show atD (.tup (xs.map D.int)) (.int (k : Int)) = _; rw [at_tup, atI_map D.int xs q.2]; rfl)
    have p0 := (h2 _ (List.getElem_mem q.1)).1
    have b1 : op2 mulD (op2 atD (subV 2 (var 3)) (con (.int 0))) (subV 1 (var 3)) [.sh (ruleD rows), .sh (nD xs), .sh (lineD row), .sh (.int (k : Int))] S = .ok ⟨false, .int (row[k].1 * xs[k])⟩ S := e_2 (e_2 a1 rfl rfl) a2 (bd_mul p0.2.1 (hx _ (List.getElem_mem q.2)) (by decide) (by decide) (by decide))
    have b2 : op2 atD (subV 2 (var 3)) (con (.int 1)) [.sh (ruleD rows), .sh (nD xs), .sh (lineD row), .sh (.int (k : Int))] S = .ok ⟨false, .int row[k].2⟩ S := e_2 a1 rfl rfl
    show tupX _ [.sh (ruleD rows), .sh (nD xs), .sh (lineD row), .sh (.int (k : Int))] S = _
    simp [tupX, lcons, lnil, b1, b2, Out.bind, line, ratD]
  exact x_call (a_val inner rfl) (hs _ S sm (by omega))
/-! ### is_ratio, is_part, need_rule -/
theorem isRatio_ok {i : Nat} {cf : Nat → List Pv.Arg → Sto → Out R} (hc : ∀ (a b : Int) (S : Sto), 0 ≤ b → b < fu → cf i [.sh (.int a), .sh (.int b)] S = .ok ⟨false, .int (Int.gcd a b : Int)⟩ S) {p : Int × Int} (hp : Pt p) :
    runF (seqS (ifS (orX (notX (isIX ["tuple"] (var 0))) (op2 neD (b1V lenD 0) (con (.int 2)))) (retS (con (.bl false))) skip)
      (seqS (ifS (notX (op1 allD (compX [1] (tName 1) (iVal (var 0)) (con (.bl true)) (andX (isIX ["int"] (var 1)) (notX (isIX ["bool"] (var 1))))))) (retS (con (.bl false))) skip)
      (retS (andX (op2 gtD (subV 0 (con (.int 1))) (con (.int 0))) (op2 eqD (callX cf i (aval (subV 0 (con (.int 0))) (aval (subV 0 (con (.int 1))) anil))) (con (.int 1))))))) 2 [.sh (ratD p)] S = .ok tt' S := by
  have e := hc p.1 p.2 S (Int.le_of_lt hp.1.1) (fu_of hp.1.1 (hp.1.2.2.le (by decide)))
  rw [hp.2] at e
  have g : op2 gtD (subV 0 (con (.int 1))) (con (.int 0)) [.sh (ratD p), .un] S = .ok tt' S := e_2 (r := ⟨false, .int p.2⟩) (S1 := S) rfl rfl (by rw [gt_eq, decide_eq_true hp.1.1]; rfl)
  exact f_ret (s_nx (S1 := S) rfl (s_nx (S1 := S) rfl (e_ret (and_t g (e_2 (S1 := S) (S2 := S) (x_call (a_val (r := ⟨false, .int p.1⟩) (S1 := S) rfl (a_val (r := ⟨false, .int p.2⟩) (S1 := S) rfl rfl)) e) rfl rfl)))))
theorem isPart_ok {i : Nat} {cf : Nat → List Pv.Arg → Sto → Out R} {p : Int × Int} (hp : Pt p) (hr : cf i [.sh (ratD p)] S = .ok tt' S) :
    runF (retS (andX (callX cf i (aname 0 anil)) (op2 leD (biX max2D (lcons (op1 absD (subV 0 (con (.int 0)))) (lcons (subV 0 (con (.int 1))) lnil))) (con (.int 1000000000000))))) 1 [.sh (ratD p)] S = .ok tt' S := by
  have e : op2 leD (biX max2D (lcons (op1 absD (subV 0 (con (.int 0)))) (lcons (subV 0 (con (.int 1))) lnil))) (con (.int 1000000000000)) [.sh (ratD p)] S = .ok ⟨false, .bl (decide ((if p.2 > (if p.1 < 0 then -p.1 else p.1) then p.2 else (if p.1 < 0 then -p.1 else p.1)) ≤ 1000000000000))⟩ S := rfl
  have h1 : p.1.natAbs < 2048 := hp.1.2.1
  have h2 : p.2.natAbs < 2048 := hp.1.2.2
  rw [decide_eq_true (by split <;> split <;> omega)] at e
  exact f_ret (e_ret (and_t (x_call (a_sh rfl rfl) hr) e))
theorem needRule_ok {i : Nat} {cf : Nat → List Pv.Arg → Sto → Out R} (hc : ∀ (p : Int × Int) (S : Sto), Pt p → cf i [.sh (ratD p)] S = .ok tt' S) {m : Nat} {rows : List (List (Int × Int))} (hm : m = 2 ∨ m = 3 ∨ m = 4) (hr : RuleOk m (szOf m) rows) :
    runF (seqS (setS 1 (dcX [4, 5] (tTupl [4, 5]) (iPairs (tbI [(3, 2), (7, 3), (15, 4)])) (con (.bl true)) (var 5) (var 4)))
    (seqS (ifS (orX (notX (isIX ["tuple"] (var 0))) (inV nmemD (b1V lenD 0) 1)) nope skip)
    (seqS (forS (tName 2) (iRg1 (lcons (b1V lenD 0) lnil)) (ifS (orX (notX (isIX ["tuple"] (subV 0 (var 2)))) (op2 neD (op1 lenD (subV 0 (var 2))) (subV 1 (b1V lenD 0)))) nope skip))
    (forS (tName 2) (iRg1 (lcons (b1V lenD 0) lnil)) (forS (tName 3) (iRg1 (lcons (op1 lenD (subV 0 (var 2))) lnil)) (ifS (notX (callX cf i (aval (op2 atD (subV 0 (var 2)) (var 3)) anil))) nope skip)))))) 6 [.sh (ruleD rows)] S = .ok ⟨false, .non⟩ S := by
  have szs : D := .dK [(.inl 2, .int 3), (.inl 3, .int 7), (.inl 4, .int 15)]
  have hl : lenD (ruleD rows) = some ⟨false, .int m⟩ := by rw [ruleD, len_tup, List.length_map, hr.len]
  have hw : (-line : Int) ≤ (m : Int) ∧ (m : Int) ≤ line := by unfold line; omega
  have hn : szOf m ≤ 15 := by rcases hm with rfl | rfl | rfl <;> decide
  have hw2 : (-line : Int) ≤ (szOf m : Int) ∧ (szOf m : Int) ≤ line := by unfold line; omega
  let env1 : SEnv := [.sh (ruleD rows), .sh (.dK [(.inl 2, .int 3), (.inl 3, .int 7), (.inl 4, .int 15)]), .un, .un, .un, .un]
  have s1 : setS 1 (dcX [4, 5] (tTupl [4, 5]) (iPairs (tbI [(3, 2), (7, 3), (15, 4)])) (con (.bl true)) (var 5) (var 4)) [.sh (ruleD rows), .un, .un, .un, .un, .un] S = .ok (.nx env1) S := by rfl
  have s2 : inV nmemD (b1V lenD 0) 1 env1 S = .ok ff' S := by
    have : b1V lenD 0 env1 S = .ok ⟨false, .int m⟩ S := by unfold b1V; show (match lenD (ruleD rows) with | some r => Out.ok r S | none => .bad) = _; rw [hl]
    unfold inV
    rw [this]
    rcases hm with rfl | rfl | rfl <;> rfl
  have it : ∀ s2 s3 : Sl, iRg1 (lcons (b1V lenD 0) lnil) [.sh (ruleD rows), .sh (.dK [(.inl 2, .int 3), (.inl 3, .int 7), (.inl 4, .int 15)]), s2, s3, .un, .un] S = .ok ((List.range m).map fun (i : Nat) => D.int i) S := fun s2 s3 => by
    simp [iRg1, lcons, lnil, b1V, peek, sget, hl, Out.bind, hw]
  have row : ∀ (k : Nat) (s3 : Sl), k < m → ∃ r ∈ rows, subV 0 (var 2) [.sh (ruleD rows), .sh (.dK [(.inl 2, .int 3), (.inl 3, .int 7), (.inl 4, .int 15)]), .sh (.int (k : Int)), s3, .un, .un] S = .ok ⟨false, lineD r⟩ S := fun k s3 hk => by
    have hk2 : k < rows.length := by rw [hr.len]; exact hk
    exact ⟨rows[k], List.getElem_mem hk2, sub_of (d := ruleD rows) rfl rfl (by show atD (.tup (rows.map lineD)) (.int (k : Int)) = _; rw [at_tup, atI_map lineD rows hk2]; rfl)⟩
  obtain ⟨e1, ⟨a1, b1, he1⟩, f1⟩ := for_inv (tg := tName 2) (S := S) (b := ifS (orX (notX (isIX ["tuple"] (subV 0 (var 2)))) (op2 neD (op1 lenD (subV 0 (var 2))) (subV 1 (b1V lenD 0)))) nope skip)
    (fun env => ∃ s2 s3, env = [.sh (ruleD rows), .sh (.dK [(.inl 2, .int 3), (.inl 3, .int 7), (.inl 4, .int 15)]), s2, s3, .un, .un]) ((List.range m).map fun (i : Nat) => D.int i) (fun d hd env ⟨s2, s3, he⟩ => by
      obtain ⟨k, hk, rfl⟩ := List.mem_map.mp hd
      rw [List.mem_range] at hk
      subst he
      obtain ⟨r, hr0, er⟩ := row k s3 hk
      obtain ⟨r1, r2⟩ := hr.row r hr0
      have q1 : isIX ["tuple"] (subV 0 (var 2)) [.sh (ruleD rows), .sh (.dK [(.inl 2, .int 3), (.inl 3, .int 7), (.inl 4, .int 15)]), .sh (.int (k : Int)), s3, .un, .un] S = .ok tt' S := e_1 er rfl
      have q2 : op1 lenD (subV 0 (var 2)) [.sh (ruleD rows), .sh (.dK [(.inl 2, .int 3), (.inl 3, .int 7), (.inl 4, .int 15)]), .sh (.int (k : Int)), s3, .un, .un] S = .ok ⟨false, .int (szOf m)⟩ S := e_1 er (by rw [lineD, len_tup, List.length_map, r1])
      have q3 : subV 1 (b1V lenD 0) [.sh (ruleD rows), .sh (.dK [(.inl 2, .int 3), (.inl 3, .int 7), (.inl 4, .int 15)]), .sh (.int (k : Int)), s3, .un, .un] S = .ok ⟨false, .int (szOf m)⟩ S := by
        refine sub_of (r1 := ⟨false, .int m⟩) (d := .dK [(.inl 2, .int 3), (.inl 3, .int 7), (.inl 4, .int 15)]) rfl ?_ (by rcases hm with rfl | rfl | rfl <;> rfl)
        unfold b1V
        show (match lenD (ruleD rows) with | some r => Out.ok r S | none => .bad) = _
        rw [hl]
      exact ⟨_, _, rfl, i_f (or_f (not_t q1) (e_2 q2 q3 (ne_same rfl))) rfl, _, _, rfl⟩) env1 ⟨_, _, rfl⟩
  subst he1
  obtain ⟨e2, _, f2⟩ := for_inv (tg := tName 2) (S := S) (b := forS (tName 3) (iRg1 (lcons (op1 lenD (subV 0 (var 2))) lnil)) (ifS (notX (callX cf i (aval (op2 atD (subV 0 (var 2)) (var 3)) anil))) nope skip))
    (fun env => ∃ s2 s3, env = [.sh (ruleD rows), .sh (.dK [(.inl 2, .int 3), (.inl 3, .int 7), (.inl 4, .int 15)]), s2, s3, .un, .un]) ((List.range m).map fun (i : Nat) => D.int i) (fun d hd env ⟨s2, s3, he⟩ => by
      obtain ⟨k, hk, rfl⟩ := List.mem_map.mp hd
      rw [List.mem_range] at hk
      subst he
      obtain ⟨r, hr0, er⟩ := row k s3 hk
      obtain ⟨r1, r2⟩ := hr.row r hr0
      have l2 : lenD (lineD r) = some ⟨false, .int (szOf m)⟩ := by rw [lineD, len_tup, List.length_map, r1]
      have q2 : op1 lenD (subV 0 (var 2)) [.sh (ruleD rows), .sh (.dK [(.inl 2, .int 3), (.inl 3, .int 7), (.inl 4, .int 15)]), .sh (.int (k : Int)), s3, .un, .un] S = .ok ⟨false, .int (szOf m)⟩ S := e_1 er l2
      have it2 : iRg1 (lcons (op1 lenD (subV 0 (var 2))) lnil) [.sh (ruleD rows), .sh (.dK [(.inl 2, .int 3), (.inl 3, .int 7), (.inl 4, .int 15)]), .sh (.int (k : Int)), s3, .un, .un] S = .ok ((List.range (szOf m)).map fun (i : Nat) => D.int i) S := by
        simp [iRg1, lcons, lnil, q2, Out.bind, hw2]
      obtain ⟨e3, ⟨a3, he3⟩, f3⟩ := for_inv (tg := tName 3) (S := S) (b := ifS (notX (callX cf i (aval (op2 atD (subV 0 (var 2)) (var 3)) anil))) nope skip)
        (fun env => ∃ s3, env = [.sh (ruleD rows), .sh (.dK [(.inl 2, .int 3), (.inl 3, .int 7), (.inl 4, .int 15)]), .sh (.int (k : Int)), s3, .un, .un]) ((List.range (szOf m)).map fun (i : Nat) => D.int i) (fun d hd env ⟨s3, he⟩ => by
          obtain ⟨j, hj, rfl⟩ := List.mem_map.mp hd
          rw [List.mem_range] at hj
          subst he
          obtain ⟨r', hr0', er'⟩ := row k (.sh (.int (j : Int))) hk
          obtain ⟨r1', r2'⟩ := hr.row r' hr0'
          have hj2 : j < r'.length := by omega
          have q4 : op2 atD (subV 0 (var 2)) (var 3) [.sh (ruleD rows), .sh (.dK [(.inl 2, .int 3), (.inl 3, .int 7), (.inl 4, .int 15)]), .sh (.int (k : Int)), .sh (.int (j : Int)), .un, .un] S = .ok ⟨false, ratD r'[j]⟩ S :=
            e_2 er' rfl (by show atD (.tup (r'.map ratD)) (.int (j : Int)) = _; rw [at_tup, atI_map ratD r' hj2]; rfl)
          exact ⟨_, _, rfl, i_f (not_t (x_call (a_val q4 rfl) (hc _ S (r2' _ (List.getElem_mem hj2))))) rfl, _, rfl⟩) _ ⟨_, rfl⟩
      subst he3
      exact ⟨_, _, rfl, e_for it2 f3, _, _, rfl⟩) _ ⟨_, _, rfl⟩
  exact f_nx (s_nx s1 (s_nx (i_f (or_f (S1 := S) rfl s2) rfl) (s_nx (e_for (it _ _) f1) (e_for (it _ _) f2))))
theorem good_share (rows : List (List (Int × Int))) (xs : List Int) : Good 2 (sharesD rows xs) := good_tup fun d hd => by
  obtain ⟨r, hr, rfl⟩ := List.mem_map.mp hd
  exact good_rat _
/-- alike of rows of ratios -/
theorem alike_rats {i : Nat} {cf cf2 cf3 : Nat → List Pv.Arg → Sto → Out R} (hc : cf i = runF (alikeS i cf2) 3) (hc2 : cf2 i = runF (alikeS i cf3) 3) (ps : List (Int × Int)) (hn : ps.length < 1000) : runF (alikeS i cf) 3 [.sh (.tup (ps.map ratD)), .sh (.tup (ps.map ratD))] S = .ok tt' S :=
  alike_tups _ _ (by rw [List.length_map]; exact hn) rfl fun k hk => by
    rw [List.length_map] at hk
    have e : (ps.map ratD)[k]? = some (ratD ps[k]) := by rw [List.getElem?_map, List.getElem?_eq_getElem hk]; rfl
    refine ⟨_, _, e, e, ?_⟩
    rw [hc]
    exact alike_nD hc2 [ps[k].1, ps[k].2] (show 2 < 1000 by decide)
end
end Pv

set_option Elab.async false
set_option linter.all false
set_option maxRecDepth 100000
namespace Pv
open PySem PySem.Spec PyProof.Rows L2
section
variable {S : Sto}
/-- need_game -/
theorem needGame_ok {i : Nat} {cf : Nat → List Pv.Arg → Sto → Out R} (hc : ∀ (x : Int) (S : Sto), cf i [.sh (.int x)] S = .ok tt' S) (xs : List Int) (hl : op1 (kninD (tbI [(3, 2), (7, 3), (15, 4)])) (b1V lenD 0) [.sh (nD xs), .un] S = .ok ff' S) (hn : xs.length < 1000) (h : ∀ x ∈ xs, -1000 ≤ x ∧ x ≤ 1000) :
    runF (seqS (ifS (orX (notX (isIX ["tuple"] (var 0))) (op1 (kninD (tbI [(3, 2), (7, 3), (15, 4)])) (b1V lenD 0))) nope skip)
    (forS (tName 1) (iRg1 (lcons (b1V lenD 0) lnil)) (ifS (orX (notX (callX cf i (aval (subV 0 (var 1)) anil))) (op2 gtD (op1 absD (subV 0 (var 1))) (con (.int 1000)))) nope skip))) 2 [.sh (nD xs)] S = .ok ⟨false, .non⟩ S := by
  have hw : (-line : Int) ≤ (xs.length : Int) ∧ (xs.length : Int) ≤ line := by unfold line; omega
  have e : iRg1 (lcons (b1V lenD 0) lnil) [.sh (nD xs), .un] S = .ok ((List.range xs.length).map fun (i : Nat) => D.int i) S := by
    have e1 : lenD (nD xs) = some ⟨false, .int xs.length⟩ := by rw [nD, len_tup, List.length_map]
    simp [iRg1, lcons, lnil, b1V, peek, sget, e1, Out.bind, hw]
  obtain ⟨env', _, h1⟩ := for_inv (tg := tName 1) (S := S) (b := (ifS (orX (notX (callX cf i (aval (subV 0 (var 1)) anil))) (op2 gtD (op1 absD (subV 0 (var 1))) (con (.int 1000)))) nope skip))
    (fun env => ∃ s, env = [.sh (nD xs), s]) ((List.range xs.length).map fun (i : Nat) => D.int i) (fun d hd env ⟨s, he⟩ => by
      obtain ⟨k, hk, rfl⟩ := List.mem_map.mp hd
      rw [List.mem_range] at hk
      subst he
      refine ⟨_, [.sh (nD xs), .sh (.int k)], rfl, ?_, ⟨_, rfl⟩⟩
      have a1 : subV 0 (var 1) [.sh (nD xs), .sh (.int k)] S = .ok ⟨false, .int xs[k]⟩ S := sub_of (d := nD xs) rfl rfl (by show atD (.tup (xs.map D.int)) (.int (k : Int)) = _; rw [at_tup, atI_map D.int xs hk]; rfl)
      exact i_f (or_f (not_t (S1 := S) (x_call (a_val a1 rfl) (hc _ S))) (e_2 (e_1 a1 rfl) rfl (gt_abs (h _ (List.getElem_mem hk))))) rfl) [.sh (nD xs), .un] ⟨_, rfl⟩
  exact f_nx (env := env') (s_nx (i_f (or_f (S1 := S) rfl hl) rfl) (e_for e h1))
/-- a loop that fills a list of the def's own -/
theorem for_app {α : Type} {i : Nat} {tg : Tx} {x : Ex} (g f : α → D) (I : SEnv → Prop) : ∀ (l : List α) (acc : List D) (env : SEnv), (∀ a ∈ l, ∀ (acc : List D) (env : SEnv), I env → sget env i = .own (.lst acc) → ∃ env1, tg env (g a) = some env1 ∧ sget env1 i = .own (.lst acc) ∧ i < env1.length ∧ (∀ d, I (env1.set i d)) ∧ ∃ fr, x env1 S = .ok ⟨fr, f a⟩ S) →
    I env → sget env i = .own (.lst acc) → acc.length + l.length ≤ line → ∃ env', forL tg (mutS i appD x) (l.map g) env S = .ok (.nx env') S ∧ sget env' i = .own (.lst (acc ++ l.map f)) ∧ I env'
  | [], acc, env, _, hI, hs, _ => ⟨env, rfl, by simpa using hs, hI⟩
  | a :: l, acc, env, h, hI, hs, hl => by
    obtain ⟨env1, h1, h2, h3, h4, fr, h5⟩ := h a List.mem_cons_self acc env hI hs
    have hl2 : acc.length + (l.length + 1) ≤ line := hl
    have e : mutS i appD x env1 S = .ok (.nx (env1.set i (.own (.lst (acc ++ [f a]))))) S := by
      unfold mutS
      have p : peek env1 S i = some (.lst acc) := by unfold peek; rw [h2]
      rw [p]
      simp only [h5, Out.bind, updSlot, h2, appD]
      rw [if_pos (by omega)]
    obtain ⟨env', q1, q2, q3⟩ := for_app g f I l (acc ++ [f a]) (env1.set i (.own (.lst (acc ++ [f a])))) (fun b hb => h b (List.mem_cons_of_mem _ hb)) (h4 _) (sget_set_self h3) (by rw [List.length_append]; simp only [List.length_cons, List.length_nil]; omega)
    refine ⟨env', f_cons h1 e q1, ?_, q3⟩
    rw [q2]
    simp
/-- a told rule's parts are smaller still -/
def Pt0 (p : Int × Int) : Prop := Sm 3 4 p ∧ Int.gcd p.1 p.2 = 1
structure Told (m n : Nat) (rows : List (List (Int × Int))) : Prop where
  len : rows.length = m
  row : ∀ row ∈ rows, row.length = n ∧ ∀ p ∈ row, Pt0 p
theorem Told.ok {m n : Nat} {rows : List (List (Int × Int))} (h : Told m n rows) : RuleOk m n rows := ⟨h.len, fun r hr => ⟨(h.row r hr).1, fun p hp => ⟨((h.row r hr).2 p hp).1.le (by decide) (by decide), ((h.row r hr).2 p hp).2⟩⟩⟩
def pt0B (p : Int × Int) : Bool := decide (0 < p.2) && decide (p.1.natAbs < 8) && decide (p.2.natAbs < 16) && decide (Int.gcd p.1 p.2 = 1)
def toldB (m n : Nat) (rows : List (List (Int × Int))) : Bool := decide (rows.length = m) && rows.all fun r => decide (r.length = n) && r.all pt0B
theorem toldB_ok {m n : Nat} {rows : List (List (Int × Int))} (h : toldB m n rows = true) : Told m n rows := by
  obtain ⟨h1, h2⟩ := Bool.and_eq_true_iff.mp h
  refine ⟨of_decide_eq_true h1, fun r hr => ?_⟩
  obtain ⟨h3, h4⟩ := Bool.and_eq_true_iff.mp (List.all_eq_true.mp h2 r hr)
  refine ⟨of_decide_eq_true h3, fun p hp => ?_⟩
  have h5 := List.all_eq_true.mp h4 p hp
  simp only [pt0B, Bool.and_eq_true, decide_eq_true_eq] at h5
  exact ⟨⟨h5.1.1.1, h5.1.1.2, h5.1.2⟩, h5.2⟩
theorem pt_small {p : Int × Int} (h : Pt0 p) : Pt p := ⟨h.1.le (by decide) (by decide), h.2⟩
/-- half of one and half of another -/
def mixP (l r : Int × Int) : Int × Int := Ra.canonP (Ra.sumP [(l.1, 2 * l.2), (r.1, 2 * r.2)])
theorem mix_sm {l : Int × Int} (h : Pt0 l) : Sm 3 5 (l.1, 2 * l.2) := by
  obtain ⟨⟨h1, h2, h3⟩, _⟩ := h
  refine ⟨?_, h2, ?_⟩
  · show 0 < 2 * l.2; omega
  · show (2 * l.2).natAbs < 2 ^ 5
    have : l.2.natAbs < 2 ^ 4 := h3
    omega
theorem mix_pt {l r : Int × Int} (hl : Pt0 l) (hr : Pt0 r) : Pt (mixP l r) := by
  have e : Ra.sumP [(l.1, 2 * l.2), (r.1, 2 * r.2)] = (l.1 * (2 * r.2) + r.1 * (2 * l.2), 2 * l.2 * (2 * r.2)) := by
    simp [Ra.sumP, Ra.addP]
  have s1 := mix_sm hl
  have s2 := mix_sm hr
  have pos : 0 < 2 * l.2 * (2 * r.2) := Int.mul_pos s1.1 s2.1
  have b1 : Bd 9 (l.1 * (2 * r.2) + r.1 * (2 * l.2)) := (s1.2.1.times s2.2.2).plus (s2.2.1.times s1.2.2)
  have b2 : Bd 10 (2 * l.2 * (2 * r.2)) := s1.2.2.times s2.2.2
  unfold mixP
  rw [e]
  have sm : Sm 11 11 (l.1 * (2 * r.2) + r.1 * (2 * l.2), 2 * l.2 * (2 * r.2)) := ⟨pos, b1.le (by decide), b2.le (by decide)⟩
  exact ⟨sm.canon, Ra.canon_gcd pos⟩
theorem mixR_ok {m n : Nat} {a b : List (List (Int × Int))} (ha : Told m n a) (hb : Told m n b) : RuleOk m n (List.zipWith (List.zipWith mixP) a b) := by
  refine ⟨by rw [List.length_zipWith, ha.len, hb.len, Nat.min_self], fun row hrow => ?_⟩
  obtain ⟨k, hk, rfl⟩ := List.getElem_of_mem hrow
  rw [List.length_zipWith] at hk
  rw [List.getElem_zipWith]
  obtain ⟨h1, h2⟩ := ha.row a[k] (List.getElem_mem (by omega))
  obtain ⟨h3, h4⟩ := hb.row b[k] (List.getElem_mem (by omega))
  refine ⟨by rw [List.length_zipWith, h1, h3, Nat.min_self], fun p hp => ?_⟩
  obtain ⟨j, hj, rfl⟩ := List.getElem_of_mem hp
  rw [List.length_zipWith] at hj
  rw [List.getElem_zipWith]
  exact mix_pt (h2 _ (List.getElem_mem (by omega))) (h4 _ (List.getElem_mem (by omega)))
/-- one part changed -/
def chgR (m n : Nat) (rows : List (List (Int × Int))) (w a : Int) (p : Int × Int) : List (List (Int × Int)) :=
  (List.range m).map fun (i : Nat) => (List.range n).map fun (j : Nat) => if (i : Int) = w ∧ (j : Int) = a then p else ((rows[i]?.getD [])[j]?.getD (0, 1))
theorem chgR_ok {m n : Nat} {rows : List (List (Int × Int))} (h : RuleOk m n rows) {w a : Int} {p : Int × Int} (hp : Pt p) : RuleOk m n (chgR m n rows w a p) := by
  refine ⟨by simp [chgR], fun row hrow => ?_⟩
  obtain ⟨i, hi, rfl⟩ := List.mem_map.mp hrow
  rw [List.mem_range] at hi
  refine ⟨by simp, fun q hq => ?_⟩
  obtain ⟨j, hj, rfl⟩ := List.mem_map.mp hq
  rw [List.mem_range] at hj
  have hi2 : i < rows.length := by rw [h.len]; exact hi
  obtain ⟨h1, h2⟩ := h.row rows[i] (List.getElem_mem hi2)
  split
  · exact hp
  · rw [List.getElem?_eq_getElem hi2]
    show Pt ((rows[i])[j]?.getD (0, 1))
    rw [List.getElem?_eq_getElem (by omega)]
    exact h2 _ (List.getElem_mem (by omega))
/-- the sum's shares -/
theorem share_add {row : List (Int × Int)} {xs ys : List Int} (hp : ∀ p ∈ row, 0 < p.2) (h1 : xs.length = row.length) (h2 : ys.length = row.length) :
    shareP row (List.zipWith (· + ·) xs ys) = Ra.canonP (Ra.sumP [shareP row xs, shareP row ys]) := by
  have key : ∀ (row : List (Int × Int)) (xs ys : List Int) (x y : Int × Int), xs.length = row.length → ys.length = row.length → x.2 = y.2 →
      (termP row (List.zipWith (· + ·) xs ys)).foldl Ra.addP (x.1 + y.1, x.2) = (((termP row xs).foldl Ra.addP x).1 + ((termP row ys).foldl Ra.addP y).1, ((termP row xs).foldl Ra.addP x).2) ∧ ((termP row xs).foldl Ra.addP x).2 = ((termP row ys).foldl Ra.addP y).2 := by
    intro row
    induction row with
    | nil =>
      intro xs ys x y e1 e2 e
      cases xs with
      | cons _ _ => simp at e1
      | nil => cases ys with
        | cons _ _ => simp at e2
        | nil => exact ⟨rfl, e⟩
    | cons p row ih =>
      intro xs ys x y e1 e2 e
      cases xs with
      | nil => simp at e1
      | cons a xs => cases ys with
        | nil => simp at e2
        | cons b ys =>
          have := ih xs ys (Ra.addP x (p.1 * a, p.2)) (Ra.addP y (p.1 * b, p.2)) (by simpa using e1) (by simpa using e2) (by simp [Ra.addP, e])
          refine ⟨?_, this.2⟩
          show (termP row (List.zipWith (· + ·) xs ys)).foldl Ra.addP (Ra.addP (x.1 + y.1, x.2) (p.1 * (a + b), p.2)) = _
          rw [show Ra.addP (x.1 + y.1, x.2) (p.1 * (a + b), p.2) = ((Ra.addP x (p.1 * a, p.2)).1 + (Ra.addP y (p.1 * b, p.2)).1, (Ra.addP x (p.1 * a, p.2)).2) by
            simp only [Ra.addP, e]
            congr 1
            grind]
          exact this.1
  have pos : ∀ zs : List Int, ∀ q ∈ termP row zs, 0 < q.2 := fun zs q hq => by
    rw [termP_zip] at hq
    obtain ⟨r, hr, rfl⟩ := List.mem_map.mp hq
    exact hp r.1 (List.of_mem_zip hr).1
  have px : 0 < (Ra.sumP (termP row xs)).2 := Ra.foldl_pos (pos xs) (by decide)
  have py : 0 < (Ra.sumP (termP row ys)).2 := Ra.foldl_pos (pos ys) (by decide)
  have pz : 0 < (Ra.sumP (termP row (List.zipWith (· + ·) xs ys))).2 := Ra.foldl_pos (pos _) (by decide)
  obtain ⟨k1, k2⟩ := key row xs ys (0, 1) (0, 1) h1 h2 rfl
  have k1 : Ra.sumP (termP row (List.zipWith (· + ·) xs ys)) = ((Ra.sumP (termP row xs)).1 + (Ra.sumP (termP row ys)).1, (Ra.sumP (termP row xs)).2) := k1
  have k2 : (Ra.sumP (termP row xs)).2 = (Ra.sumP (termP row ys)).2 := k2
  have cx := Ra.canon_E (t := (Ra.sumP (termP row xs)).1) px
  have cy := Ra.canon_E (t := (Ra.sumP (termP row ys)).1) py
  have qx := Ra.canon_pos (t := (Ra.sumP (termP row xs)).1) px
  have qy := Ra.canon_pos (t := (Ra.sumP (termP row ys)).1) py
  unfold shareP
  refine Ra.canon_eq pz ?_ ?_
  · show 0 < (Ra.sumP [Ra.canonP _, Ra.canonP _]).2
    exact Ra.foldl_pos (fun q hq => by
      simp only [List.mem_cons, List.not_mem_nil, or_false] at hq
      rcases hq with rfl | rfl
      · exact qx
      · exact qy) (by decide)
  · rw [k1]
    have s2 : ∀ a b : Int × Int, Ra.sumP [a, b] = (a.1 * b.2 + b.1 * a.2, a.2 * b.2) := fun a b => by simp [Ra.sumP, Ra.addP]
    rw [s2]
    unfold Ra.E at cx cy ⊢
    show _ * ((Ra.canon _ _).2 * (Ra.canon _ _).2) = ((Ra.canon _ _).1 * (Ra.canon _ _).2 + (Ra.canon _ _).1 * (Ra.canon _ _).2) * _
    simp only at cx cy ⊢
    rw [← k2] at cy ⊢
    generalize Ra.canon (Ra.sumP (termP row xs)).1 (Ra.sumP (termP row xs)).2 = u at *
    generalize Ra.canon (Ra.sumP (termP row ys)).1 (Ra.sumP (termP row xs)).2 = v at *
    grind
end
end Pv
namespace Pv
section
variable {x y t : Ex} {env : SEnv} {S S1 : Sto} {q : Out R}
theorem it_t (h : t env S = .ok tt' S1) (h2 : x env S1 = q) : iteX t x y env S = q := by unfold iteX; rw [h]; exact h2
theorem it_f (h : t env S = .ok ff' S1) (h2 : y env S1 = q) : iteX t x y env S = q := by unfold iteX; rw [h]; exact h2
end
end Pv
namespace Pv
section
variable {S : Sto}
theorem alike_rule {i : Nat} {cf cf2 cf3 cf4 : Nat → List Pv.Arg → Sto → Out R} (hc : cf i = runF (alikeS i cf2) 3) (hc2 : cf2 i = runF (alikeS i cf3) 3) (hc3 : cf3 i = runF (alikeS i cf4) 3) (rows : List (List (Int × Int))) (hn : rows.length < 1000) (hr : ∀ row ∈ rows, row.length < 1000) :
    runF (alikeS i cf) 3 [.sh (ruleD rows), .sh (ruleD rows)] S = .ok tt' S :=
  alike_tups _ _ (by rw [List.length_map]; exact hn) rfl fun k hk => by
    rw [List.length_map] at hk
    have e : (rows.map lineD)[k]? = some (lineD rows[k]) := by rw [List.getElem?_map, List.getElem?_eq_getElem hk]; rfl
    refine ⟨_, _, e, e, ?_⟩
    rw [hc]
    exact alike_rats hc2 hc3 rows[k] (hr _ (List.getElem_mem hk))
/-- tuple([a + b for a, b in zip(x, y)]) -/
theorem both_ok {i j k l : Nat} (hkl : k ≠ l) {env : SEnv} {xs ys : List Int} (hx : sget env i = .sh (nD xs)) (hy : sget env j = .sh (nD ys)) (hl : xs.length = ys.length) (h15 : xs.length ≤ 15) (hk : k < env.length) (hl2 : l < env.length) :
    op1 tupleD (compX [k, l] (tTupl [k, l]) (Pv.iZip (lcons (var i) (lcons (var j) lnil))) (con (.bl true)) (op2 addD (var k) (var l))) env S = .ok ⟨false, nD (List.zipWith (· + ·) xs ys)⟩ S := by
  have it : Pv.iZip (lcons (var i) (lcons (var j) lnil)) env S = .ok ((xs.zip ys).map fun q => D.tup [.int q.1, .int q.2]) S := by
    rw [← zipD_maps]
    simp [Pv.iZip, lcons, lnil, var_of (S := S) hx, var_of (S := S) hy, Out.bind, nD, seqD]
  have z : (List.zipWith (· + ·) xs ys).map D.int = (xs.zip ys).map fun q => D.int (q.1 + q.2) := by
    rw [List.zip, List.map_zipWith, List.map_zipWith]
  refine e_1 (e_comp (out := (List.zipWith (· + ·) xs ys).map D.int) it (by rw [List.length_map, zipl _ _ hl]; unfold line; omega) ?_) rfl
  rw [z]
  refine comp_fn (fun q : Int × Int => D.tup [.int q.1, .int q.2]) _ _ fun q hq => ⟨_, rfl, rfl, false, ?_⟩
  have cl : (clr env [k, l]).length = env.length := by simp [clr]
  exact e_2 (var_of (by rw [sget_set_ne (Ne.symm hkl)]; exact sget_set_self (by omega))) (var_of (sget_set_self (by rw [List.length_set]; omega))) rfl
end
end Pv
namespace Pv
theorem e_par3 {x y z : Ex} {env env1 env2 env3 : SEnv} {S S1 S2 S3 : Sto} {i j l : Nat} {f g h : Bool} {r r1 r2 : R} (h1 : x env S = .ok r S1) (h2 : y env S1 = .ok r1 S2) (h3 : z env S2 = .ok r2 S3) (e1 : setR i f r env = some env1) (e2 : setR j g r1 env1 = some env2) (e3 : setR l h r2 env2 = some env3) : par3 i f j g l h x y z env S = .ok (.nx env3) S3 := by
  unfold par3; rw [h1]; simp only [Out.bind, h2, h3, e1, e2, e3]
end Pv

set_option Elab.async false
set_option linter.all false
set_option maxRecDepth 100000
/-! lambdas with or without a default, handed to a def -/
namespace LamY
open PySem PySem.Spec PyProof.Rows PySem.W LamX
abbrev lfn (q : Str) (pr : Arguments) (bd : Expr) (sc : Scope) (cl : List (Str × Addr)) (dV pm cd ct : Value) : FuncData :=
  { name := "<lambda>", qualname := q, params := pr, body := .expr bd, scope := sc, globals := mainGlobals, closure := cl, defaults := dV, kwdefaults := .none, doc := .none, pyModule := pm, annotations := Option.none, code := cd, closureTuple := ct, builtins := builtinsNs }
abbrev lob (q : Str) (pr : Arguments) (bd : Expr) (sc : Scope) (cl : List (Str × Addr)) (dV pm : Value) (c' : Addr) (ct : Value) : Obj := { cls := .type "function", data := .func (lfn q pr bd sc cl dV pm (.ref c') ct) }
section
variable {M : Model} {A : Around} {E : Value → Shared → Prop} {s : Shared} {q : Str} {pr : Arguments} {bd : Expr} {sc : Scope} {env : Env} {c Pt : Addr} {ps : Array Value} {at_ : Pos} {ln : Nat} {mg : Str → Option Value} {cl : List (Str × Addr)} {dV : Value} {Q : Value → Shared → Prop}
theorem tail_new (h1 : closureFor sc env = pure cl) (h2 : env.globals = mainGlobals) (h3 : s.heap.Ns mainGlobals mg) (h4 : env.code = .ref c) (h5 : CodeHd s.heap c Pt) (h6 : s.heap.get? Pt = some (tabObj ps)) (h7 : TriplesOk ps.toList) (h8 : codeAmong at_ ps.toList = none)
    (h9 : mainGlobals ≠ Pt) (hb : s.heap.BuiltinsAt mg Pt)
    (k : ∀ c' ct h' tk, Heap.ExtBut Pt s.heap h' → s.heap.objs.size ≤ c' → c' < h'.objs.size → h'.CodeRec (.ref c') q → h'.get? Pt = some (tabObj (ps ++ #[rawInt at_.line, rawInt at_.col, .ref c'])) → Q (.ref h'.objs.size) { s with heap := h'.push (lob q pr bd sc cl dV ((mg "__name__").getD .none) c' ct), toks := tk }) :
    wpAny M A (makeTail "<lambda>" q pr (.expr bd) sc env dV .none none at_ ln) Q E s := by
  obtain ⟨bm, ob, b1, b2, _, b3, b4, b5, b6, b7⟩ := hb
  unfold makeTail; rw [h1, h2]; apply wpAny_bind; apply wpAny_pure
  cases cl with
  | nil =>
    simp only [List.isEmpty_nil, if_true]; apply wpAny_bind; apply wpAny_pure
    refine wpAny_bind (wpAny_functionCodeX h4 (h5.code h6 h7) (h5.tab h6) h8 fun c' h' tk x1 x2 x3 _ x4 x5 _ => ?_)
    have g' := h3.extBut x1 h9
    refine wpAny_bind (wpAny_builtinsFor g' b1 b2 (x1 _ _ b3 b4) b5 b6 b7 (wpAny_bind (wpAny_nsGet g' ?_)))
    exact wpAny_bind (wpAny_pure (wpAny_newObj_type (k c' .none h' tk x1 x2 x3 x4 x5.2) (by size_fits)))
  | cons z r =>
    simp only [List.isEmpty_cons, Bool.false_eq_true, if_false]; apply wpAny_bind; apply wpAny_newTextTuple
    have up : ∀ (oT : Obj) b o, s.heap.get? b = some o → (s.heap.push oT).get? b = some o := fun oT b o e => Heap.get?_push_of_some _ e
    refine wpAny_bind (wpAny_functionCodeX h4 ((h5.keeps (up _)).code (up _ _ _ h6) h7) ((h5.keeps (up _)).tab (up _ _ _ h6)) h8 fun c' h' tk x1 x2 x3 _ x4 x5 _ => ?_)
    have g' := (h3.push _).extBut x1 h9
    have x1' : Heap.ExtBut Pt s.heap h' := fun b o nb e => x1 b o nb (up _ b o e)
    refine wpAny_bind (wpAny_builtinsFor g' b1 b2 (x1' _ _ b3 b4) b5 b6 b7 (wpAny_bind (wpAny_nsGet g' ?_)))
    exact wpAny_bind (wpAny_pure (wpAny_newObj_type (k c' _ h' tk x1' (Nat.le_trans (by rw [Heap.size_push]; omega) x2) x3 x4 x5.2) (by size_fits)))
theorem tail_hit {c' : Addr} (h1 : closureFor sc env = pure cl) (h2 : env.globals = mainGlobals) (h3 : s.heap.Ns mainGlobals mg) (h4 : env.code = .ref c) (h5 : CodeHd s.heap c Pt) (h6 : s.heap.get? Pt = some (tabObj ps)) (h7 : TriplesOk ps.toList) (h8 : codeAmong at_ ps.toList = some (.ref c')) (hb : s.heap.BuiltinsAt mg Pt)
    (k : ∀ (ct : Value) (h' : Heap) (tk : Tok), (∀ b o, s.heap.get? b = some o → h'.get? b = some o) → s.heap.objs.size ≤ h'.objs.size → Q (.ref h'.objs.size) { s with heap := h'.push (lob q pr bd sc cl dV ((mg "__name__").getD .none) c' ct), toks := tk }) :
    wpAny M A (makeTail "<lambda>" q pr (.expr bd) sc env dV .none none at_ ln) Q E s := by
  obtain ⟨bm, ob, b1, b2, _, b3, b4, b5, b6, b7⟩ := hb
  unfold makeTail; rw [h1, h2]; apply wpAny_bind; apply wpAny_pure
  cases cl with
  | nil =>
    simp only [List.isEmpty_nil, if_true]; apply wpAny_bind; apply wpAny_pure
    refine wpAny_bind (wpAny_functionCode_hit h4 (h5.code h6 h7) h8 (wpAny_bind (wpAny_builtinsFor h3 b1 b2 b4 b5 b6 b7 (wpAny_bind (wpAny_nsGet h3 ?_)))))
    exact wpAny_bind (wpAny_pure (wpAny_newObj_type (k .none s.heap s.toks (fun _ _ e => e) (Nat.le_refl _)) (by size_fits)))
  | cons z r =>
    simp only [List.isEmpty_cons, Bool.false_eq_true, if_false]; apply wpAny_bind; apply wpAny_newTextTuple
    have up : ∀ (oT : Obj) b o, s.heap.get? b = some o → (s.heap.push oT).get? b = some o := fun oT b o e => Heap.get?_push_of_some _ e
    refine wpAny_bind (wpAny_functionCode_hit h4 ((h5.keeps (up _)).code (up _ _ _ h6) h7) h8 (wpAny_bind (wpAny_builtinsFor (h3.push _) b1 b2 (up _ _ _ b4) b5 b6 b7 (wpAny_bind (wpAny_nsGet (h3.push _) ?_)))))
    exact wpAny_bind (wpAny_pure (wpAny_newObj_type (k _ _ s.toks (up _) (by rw [Heap.size_push]; omega)) (by size_fits)))
end
end LamY
namespace LamY
open PySem PySem.Spec PyProof.Rows L2 LamX
section
variable {X : Cx} {pins : List (Addr × Obj)} {σ : L2.St} {H : Hp} {s : Shared}
/-- the defaults: none, or a tuple of one value -/
def DflAt (fs : List Addr) (H : Hp) (h : Heap) (dV : Value) (its : List Value) : Prop := (its = [] ∧ dV = .none) ∨ ∃ (T : Addr) (o : Obj) (n : Nat) (u : Value), its = [u] ∧ dV = .ref T ∧ h.get? T = some o ∧ o.data = .seq #[u] n ∧ H T = none ∧ T ∉ fs
/-- what stays where a lambda is made: all but its maker's table -/
structure Grow (Pt : Addr) (q : Str) (H H1 : Hp) : Prop where
  old : ∀ b o, b ≠ Pt → H b = some o → H1 b = some o
  tab : LamX.TabS H1 Pt q
  fresh : ∀ b, H1 b = none → H b = none
theorem Grow.refl {Pt : Addr} {q : Str} (t : LamX.TabS H Pt q) : Grow Pt q H H := ⟨fun _ _ _ e => e, t, fun _ e => e⟩
/-- a lambda's own names: parameters, captured ones, globals; N: the maker's names -/
structure LamZ (N : List Str) (sc scope : Scope) (bs : List Str) : Prop where
  kind : scope.kind = .function
  co : scope.isCoroutine = false
  gen : scope.isGenerator = false
  cel : ∀ y ∈ scope.names, y.2 ≠ .cell
  own : ∀ y ∈ scope.names, y.2 = .local → y.1 ∉ N
  par : ∀ y ∈ bs, scope.names.lookup y = some .local
  free : ∀ y ∈ scope.names, y.2 = .free → sc.names.lookup y.1 = some .cell ∨ sc.names.lookup y.1 = some .free
  sure : ∀ y k, scope.names.lookup y = some k → (y, k) ∈ scope.names
def lamZB (N : List Str) (sc scope : Scope) (bs : List Str) : Bool :=
  decide (scope.kind = .function) && (!scope.isCoroutine && (!scope.isGenerator && ((scope.names.all fun y => !decide (y.2 = .cell) && ((!decide (y.2 = .local) || !N.contains y.1) && (!decide (y.2 = .free) || (decide (sc.names.lookup y.1 = some .cell) || decide (sc.names.lookup y.1 = some .free))))) && bs.all fun y => decide (scope.names.lookup y = some .local))))
theorem lamZ_by {N : List Str} {sc scope : Scope} {bs : List Str} (h : lamZB N sc scope bs = true) : LamZ N sc scope bs := by
  simp only [lamZB, Bool.and_eq_true, Bool.or_eq_true, Bool.not_eq_true', decide_eq_true_eq, decide_eq_false_iff_not, List.all_eq_true] at h
  obtain ⟨a1, a2, a3, a4, a5⟩ := h
  refine ⟨a1, a2, a3, fun y hy => (a4 y hy).1, fun y hy e m => ?_, a5, fun y hy e => ?_, fun y k e => PySem.mem_of_lookup e⟩
  · rcases (a4 y hy).2.1 with z | z
    · exact z e
    · have : N.contains y.1 = true := by simpa using m
      rw [z] at this; cases this
  · rcases (a4 y hy).2.2 with z | z
    · exact absurd e z
    · exact z
theorem LamZ.has {X : Cx} {N : List Str} {scope : Scope} {bs : List Str} (L : LamZ N X.env.scope scope bs) (ok : X.Ok) : ∀ y ∈ scope.names, y.2 = .free → ∃ c, X.env.cells.lookup y.1 = some c := fun y hy e => by
  rcases L.free y hy e with k | k
  · exact ok.has _ (.inl k)
  · exact ok.has _ (.inr k)
abbrev qOf (X : Cx) : Str := X.env.qual ++ "<lambda>"
/-- the lambda is made, its defaults at hand -/
theorem lam_tail {c Pt : Addr} {pr : Arguments} {bd : Expr} {scope : Scope} {at_ : Pos} {dV : Value} {its : List Value} {E : Value → Shared → Prop} {Q : Value → Shared → Prop} (I : Inv X pins σ H s) (TB : TabB X.base X.mg c Pt) (hcode : X.env.code = .ref c) (hT : LamX.TabS H Pt (qOf X))
    (hd : DflAt (frs X.stack) H s.heap dV its) (hfree : ∀ y ∈ scope.names, y.2 = .free → ∃ c, X.env.cells.lookup y.1 = some c)
    (h : ∀ (f c' : Addr) (pm ct : Value) (H1 : Hp) (s' : Shared), Inv X pins σ H1 s' → Grow Pt (qOf X) H H1 → s'.heap.get? f = some (lob (qOf X) pr bd scope (cloFrom X.env.cells scope.names []) dV pm c' ct) → DflAt (frs X.stack) H1 s'.heap dV its → H1 f = none → f ∉ frs X.stack → H1 c' = some (CodeO c' (qOf X)) → Q (.ref f) s') :
    wpAny (model X.prog X.w) X.A (makeTail "<lambda>" (qOf X) pr (.expr bd) scope X.env dV .none none at_ at_.line) Q E s := by
  obtain ⟨ps, hP, ht, ha⟩ := hT
  have bP : s.heap.BuiltinsAt X.mg Pt := TB.bm.keeps I.bk
  have hP' : s.heap.get? Pt = some { cls := .none, data := .fields ps } := I.hok Pt _ hP
  have nofr : ∀ f, s.heap.objs.size ≤ f → f ∉ frs X.stack := fun f hf z => by
    rcases List.mem_cons.mp (I.stkSub _ z) with e | e
    · have l := I.lt
      rw [← e] at l; exact Nat.lt_irrefl _ (Nat.lt_of_lt_of_le l hf)
    · exact I.nofs hf e
  have dk : ∀ {h' : Heap} {H1 : Hp}, (∀ b o, b ≠ Pt → s.heap.get? b = some o → h'.get? b = some o) → (∀ b o, s.heap.get? b = some o → H b = none → H1 b = none) → DflAt (frs X.stack) H1 h' dV its := fun {h' H1} k kn => by
    rcases hd with z | ⟨T, o, n, u, e0, e1, e2, e3, e4, e5⟩
    · exact .inl z
    · refine .inr ⟨T, o, n, u, e0, e1, k T o (fun z => ?_) e2, e3, kn _ _ e2 e4, e5⟩
      rw [z, hP] at e4
      cases e4
  cases hc : codeAmong at_ ps.toList with
  | none =>
    refine tail_new (mg := X.mg) (c := c) (Pt := Pt) (ps := ps) (closure_ok hfree) I.ok.glob (I.mod.glob.keeps I.bk) hcode (TB.code.keeps I.bk) hP' ht hc TB.gP bP fun c' ct h' tk hx hge hlt hrec htb => ?_
    obtain ⟨c2, oc, vs, t, e2, hoc, hdt, hv⟩ := hrec
    cases e2
    have hsz : s.heap.objs.size ≤ h'.objs.size := Nat.le_trans hge (Nat.le_of_lt hlt)
    have nC : H c' = none := I.hok.fresh hge
    have k1 : ∀ b o, b ≠ Pt → s.heap.get? b = some o → (h'.push (lob (qOf X) pr bd scope (cloFrom X.env.cells scope.names []) dV ((X.mg "__name__").getD .none) c' ct)).get? b = some o := fun b o hb e => Heap.get?_push_of_some _ (hx b o hb e)
    have I1 := LamX.inv_table (t' := tk) (more := #[rawInt at_.line, rawInt at_.col, .ref c']) (h' := h'.push (lob (qOf X) pr bd scope (cloFrom X.env.cells scope.names []) dV ((X.mg "__name__").getD .none) c' ct)) I hP k1 (Heap.get?_push_of_some _ htb) hge ⟨oc, vs, t, Heap.get?_push_of_some _ hoc, hdt, hv⟩
    have at1 : ∀ b o, b ≠ Pt → H b = some o → upd (upd H Pt (.tbl (ps ++ #[rawInt at_.line, rawInt at_.col, .ref c']))) c' (CodeO c' (qOf X)) b = some o := fun b o nb e => by
      rw [upd_ne (ne_of_none e nC), upd_ne nb]; exact e
    have eL : (ps ++ #[rawInt at_.line, rawInt at_.col, .ref c']).toList = ps.toList ++ [rawInt at_.line, rawInt at_.col, .ref c'] := by simp
    have nPc : Pt ≠ c' := ne_of_none hP nC
    refine h h'.objs.size c' ((X.mg "__name__").getD .none) ct _ _ I1 ⟨at1, ⟨_, by rw [upd_ne nPc, upd_same], by rw [eL]; exact PySem.TriplesOk_snoc _ _ _ _ ht, fun p' cv hcv => ?_⟩, fun b e => ?_⟩ (Heap.get?_push_size _ rfl) (dk k1 fun b o e n => ?_) ?_ (nofr _ hsz) upd_same
    · rw [eL] at hcv
      rcases LamX.among_app _ ht hcv with z | z
      · obtain ⟨c0, e1, e2⟩ := ha p' cv z
        refine ⟨c0, e1, at1 _ _ (fun z => ?_) e2⟩
        rw [z, hP] at e2
        exact (LamX.codeO_ne ps) (Option.some.inj e2).symm
      · exact ⟨c', z, upd_same⟩
    · by_cases z : b = c'
      · rw [z]; exact nC
      · rw [upd_ne z] at e
        by_cases z2 : b = Pt
        · rw [z2, upd_same] at e; cases e
        · rw [upd_ne z2] at e; exact e
    · rw [upd_ne (Nat.ne_of_lt (Nat.lt_of_lt_of_le (Heap.lt_size e) hge)), upd_ne (fun z => by rw [z, hP] at n; cases n)]; exact n
    · rw [upd_ne (Nat.ne_of_gt hlt), upd_ne (Nat.ne_of_gt (Nat.lt_of_lt_of_le (Heap.lt_size hP') hsz))]
      exact I.hok.fresh hsz
  | some cv =>
    obtain ⟨c', e, hco⟩ := ha at_ cv hc
    subst e
    refine tail_hit (mg := X.mg) (c := c) (Pt := Pt) (ps := ps) (closure_ok hfree) I.ok.glob (I.mod.glob.keeps I.bk) hcode (TB.code.keeps I.bk) hP' ht hc bP fun ct h' tk hx hsz => ?_
    have k1 : ∀ b o, s.heap.get? b = some o → (h'.push (lob (qOf X) pr bd scope (cloFrom X.env.cells scope.names []) dV ((X.mg "__name__").getD .none) c' ct)).get? b = some o := fun b o e => Heap.get?_push_of_some _ (hx b o e)
    have I1 : Inv X pins σ H { s with heap := h'.push (lob (qOf X) pr bd scope (cloFrom X.env.cells scope.names []) dV ((X.mg "__name__").getD .none) c' ct), toks := tk } := I.kept k1
    exact h h'.objs.size c' ((X.mg "__name__").getD .none) ct H _ I1 (.refl ⟨ps, hP, ht, ha⟩) (Heap.get?_push_size _ rfl) (dk (fun b o _ e => k1 b o e) fun _ _ _ n => n) (I.hok.fresh hsz) (nofr _ hsz) hco
/-- lambda: bd, lambda x=e: bd -/
inductive Dfl (X : Cx) (pr : Arguments) : List V → Prop
  | none : defaultsOf pr X.env = ([], []) → Dfl X pr []
  | one {e : Expr} {v : V} : defaultsOf pr X.env = ([eval e X.env], []) → PE X e (tC v) → (pr.kwonlyargs = []) → Dfl X pr [v]
theorem lam_make {c Pt : Addr} {pr : Arguments} {bd : Expr} {scope : Scope} {at_ : Pos} {dvs : List V} {Q : Value → Shared → Prop} (I : Inv X pins σ H s) (TB : TabB X.base X.mg c Pt) (hcode : X.env.code = .ref c) (hT : LamX.TabS H Pt (qOf X))
    (hd : Dfl X pr dvs) (hfree : ∀ y ∈ scope.names, y.2 = .free → ∃ c, X.env.cells.lookup y.1 = some c)
    (h : ∀ (f c' : Addr) (dV pm ct : Value) (its : List Value) (H1 : Hp) (s' : Shared), Inv X pins σ H1 s' → Grow Pt (qOf X) H H1 → s'.heap.get? f = some (lob (qOf X) pr bd scope (cloFrom X.env.cells scope.names []) dV pm c' ct) → DflAt (frs X.stack) H1 s'.heap dV its → Vals dvs its → H1 f = none → f ∉ frs X.stack → H1 c' = some (CodeO c' (qOf X)) → Q (.ref f) s') :
    wpAny (model X.prog X.w) X.A (eval (.Lambda pr bd scope at_) X.env) Q X.xe s := by
  rw [arm_eval_Lambda]
  cases hd with
  | none e =>
    rw [e]
    show wpAny _ _ (do let dv ← evalAll []; let kdv ← holding dv (evalAllOpt []); makeFunction "<lambda>" (qOf X) pr (.expr bd) scope X.env dv kdv [] at_ at_.line) _ _ _
    refine wpAny_bind (wpAny_pure (wpAny_bind (wpAny_holding (wpAny_pure ?_))))
    rw [makeFunction_eq]
    simp only [List.zip_nil_right, List.filterMap_nil, List.isEmpty_nil, if_true, pure_bind]
    exact lam_tail I TB hcode hT (.inl ⟨rfl, rfl⟩) hfree fun f c' pm ct H1 s' a1 a2 a3 a4 => h f c' .none pm ct [] H1 s' a1 a2 a3 a4 .nil
  | @one e v ed he hk =>
    rw [ed]
    show wpAny _ _ (do let dv ← evalAll [eval e X.env]; let kdv ← holding dv (evalAllOpt []); makeFunction "<lambda>" (qOf X) pr (.expr bd) scope X.env dv kdv [] at_ at_.line) _ _ _
    refine wpAny_bind (wpAny_evalAll_cons (thn (he.run pins s σ H (fun v1 H1 => v1 = v ∧ H1 = H) I ⟨rfl, rfl⟩) fun u s1 ⟨v1, H1, I1, r1, e1, e2⟩ => ?_))
    subst e1 e2
    refine wpAny_evalAll_nil (wpAny_bind (wpAny_holding (wpAny_pure ?_)))
    rw [makeFunction_eq]
    simp only [List.zip_nil_right, List.filterMap_nil, List.isEmpty_nil, List.isEmpty_cons, Bool.false_eq_true, if_true, if_false, pure_bind]
    refine wpAny_bind (wpAny_newTextTuple ?_)
    have k0 : ∀ b o, s1.heap.get? b = some o → (s1.heap.push { cls := .type "tuple", data := .seq #[u] }).get? b = some o := fun b o e => Heap.get?_push_of_some _ e
    have I2 : Inv X pins σ H1 { s1 with heap := s1.heap.push { cls := .type "tuple", data := .seq #[u] } } := I1.kept (t' := s1.toks) k0
    refine lam_tail I2 TB hcode hT (.inr ⟨s1.heap.objs.size, _, _, u, rfl, rfl, Heap.get?_push_size _ rfl, rfl, I1.hok.fresh (Nat.le_refl _), fun z => ?_⟩) hfree fun f c' pm ct H2 s' a1 a2 a3 a4 => h f c' _ pm ct [u] H2 s' a1 a2 a3 a4 (.cons r1 .nil)
    rcases List.mem_cons.mp (I1.stkSub _ z) with e | e
    · have l := I1.lt
      rw [← e] at l; exact Nat.lt_irrefl _ l
    · exact I1.nofs (Nat.le_refl _) e
end
end LamY

set_option Elab.async false
set_option linter.all false
set_option maxRecDepth 100000
namespace LamY
open PySem PySem.Spec PyProof.Rows L2 LamX
section
variable {X : Cx} {pins : List (Addr × Obj)} {σ : L2.St} {H HZ : Hp} {s s1 : Shared}
theorem lam_in {A : Around} {outer : List Env} {E : XK} {scope : Scope} {f c' : Addr} {h₁ : Heap} {tk : Nat} {bs : List Str} {m : Str → Option Value} (I : Inv X pins σ H s) (L : LamZ X.N X.env.scope scope bs) (e0 : Env0 X.prog X.w X.K X.mg X.base A outer s1 HZ) (hd : A.handled = none)
    (un : Un (frs X.stack) [] H HZ s.heap s1.heap) (hns : h₁.Ns s1.heap.objs.size m) (kp : ∀ b o, s1.heap.get? b = some o → h₁.get? b = some o) : Inv (lamCx X A outer s1 HZ E scope f c') [] σ HZ { s1 with heap := h₁, toks := tk } := by
  have hfree := L.has I.ok
  have up : ∀ {y : Str} {a : Addr}, (cloFrom X.env.cells scope.names []).lookup y = some a → X.env.cells.lookup y = some a := fun {y a} e => by
    rcases cloFrom_mem (PySem.mem_of_lookup e) with z | ⟨z1, z2⟩
    · cases z
    · obtain ⟨a1, ha⟩ := hfree _ z1 rfl
      have ha : X.env.cells.lookup y = some a1 := ha
      rw [ha, show a = a1 from by rw [z2, ha] <;> rfl]
  have down : ∀ {y : Str}, scope.names.lookup y = some .free → ∃ a, (cloFrom X.env.cells scope.names []).lookup y = some a := fun {y} e => mem_lookup (cloFrom_has (cells := X.env.cells) (acc := []) (L.sure y _ e))
  have isc : ∀ {a : Addr} {v : Option Value}, H a = none → s.heap.IsCell a v → h₁.IsCell a v := fun {a v} n ⟨o, ho, hdt⟩ => by
    obtain ⟨sl, z⟩ := un.any ho n (by simp)
    exact ⟨_, kp _ _ z, hdt⟩
  have none_ : ∀ b : Addr, b ∉ (lamCx X A outer s1 HZ E scope f c').ex := fun b z => by
    have z2 : b ∈ ([] : List Addr) := z
    cases z2
  have vis : ∀ {y : Str}, Vis scope y → y ∈ X.N → scope.names.lookup y = some .free := fun {y} v hy => by
    rcases v with k | k | k
    · exact absurd hy (L.own _ (L.sure y _ k) rfl)
    · exact absurd rfl (L.cel _ (L.sure y _ k))
    · exact k
  refine ⟨⟨e0.mod, L.kind, rfl, rfl, Nat.le_refl _, fun y z a e1 e2 => I.ok.inj y z a (up e1) (up e2), fun y hy => ?_, fun y a z _ => ?_, fun _ => hd, Around.frames_deeper e0.frames, .inr ⟨rfl, rfl⟩, fun b z => absurd z (none_ b), e0.bs, e0.bsz, fun b _ _ => none_ b, fun b z => absurd z (none_ b), e0.funs, e0.frf⟩,
    rfl, e0.bare, Un.kept kp, ⟨_, hns, fun i y v e1 e2 e3 => ?_⟩, fun y a e => ?_, e0.hok.fresh (Nat.le_refl _), fun y a e => ?_, fun p hp => ?_, e0.hok.kept kp, I.len⟩
  · have hy : scope.names.lookup y = some .cell ∨ scope.names.lookup y = some .free := hy
    rcases hy with z | z
    · exact absurd rfl (L.cel _ (L.sure y _ z))
    · exact down z
  · have z : false = true := z
    cases z
  · have k := vis e3 (List.mem_of_getElem? e1)
    obtain ⟨m0, _, hl⟩ := I.loc
    have hv : Vis X.env.scope y := (L.free _ (L.sure y _ k) rfl).elim (fun z => .inr (.inl z)) (fun z => .inr (.inr z))
    obtain ⟨u, r, w⟩ := hl i y v e1 e2 hv
    obtain ⟨a2, h2⟩ := down k
    refine ⟨u, r, .inr ⟨.inr k, a2, h2, ?_⟩⟩
    rcases w with ⟨k', _⟩ | ⟨_, a3, e', z⟩
    · have k' : X.env.scope.names.lookup y = some .local := k'
      rcases L.free _ (L.sure y _ k) rfl with z | z <;> rw [show X.env.scope.names.lookup y = _ from z] at k' <;> cases k'
    · rw [up h2] at e'
      cases e'
      exact isc (I.freeC y _ (up h2)) z
  · obtain ⟨w', z⟩ := I.cell y a (up e)
    exact ⟨w', isc (I.freeC y a (up e)) z⟩
  · obtain ⟨v, o, ho, _⟩ := I.cell y a (up e)
    exact un.free a o ho (I.freeC y a (up e)) (by simp)
  · have hp2 : p ∈ ([] : List (Addr × Obj)) ++ [] := hp
    cases hp2
/-- x(), where x is the lambda that the def got: Z is that def's context, entered at s -/
theorem pe_do {CXg : CXT} {Eg : XK} {Ng : List Str} {qg : Str} {sg : Scope} {g f c' : Addr} {cdg pm ct dV : Value} {pr : Arguments} {bd : Expr} {scope : Scope} {k i : Nat} {a : Str} {pn : List (Addr × Obj)} {xe : Value → Shared → Prop} {W : WX} {E : XK} {tb : TE} {p1 p2 : Pos} {bs : List Str}
    (I : Inv X pins σ H s) (L : LamZ X.N X.env.scope scope bs) (hf : s.heap.get? f = some (lob (qOf X) pr bd scope (cloFrom X.env.cells scope.names []) dV pm c' ct)) (hfn : H f = none) (hfr : f ∉ frs X.stack)
    (hbind : ∀ s1 : Shared, (∀ T o, s.heap.get? T = some o → H T = none → T ∉ frs X.stack → s1.heap.get? T = some o) → ∃ binds, binds.map (·.1) = bs ∧ BindsTo s1 (lfn (qOf X) pr bd scope (cloFrom X.env.cells scope.names []) dV pm (.ref c') ct) ⟨[], []⟩ binds)
    (tk : L2.Takes ((cxOf CXg X.prog X.w X.K X.mg X.base Ng qg sg g cdg X.A X.stack s H Eg).tr pn xe) W) (hW : ∀ cls d σ' H', E cls d H' → W cls d σ' H') (hr : Room (k + 1) (X.A.deeper (envOfC qg sg s.heap.objs.size g cdg)))
    (hbody : ∀ (A : Around) (outer : List Env) (s : Shared) (H : Hp), Room k (A.deeper (lamEnv X scope s.heap.objs.size f c')) → PE (lamCx X A outer s H E scope f c') bd tb)
    (hN : Ng[i]? = some a) (hv : Vis sg a) (hd : (a == ("__debug__" : Str)) = false := by decide) (hcd : (a == ("__classdict__" : Str)) = false := by decide) :
    PE ((cxOf CXg X.prog X.w X.K X.mg X.base Ng qg sg g cdg X.A X.stack s H Eg).tr pn xe) (.Call (.Name a p1) [] [] p2) (fun σZ HZ Q => σZ[i]? = some (some (.ref f)) ∧ HZ c' = some (CodeO c' (qOf X)) ∧ tb σ HZ Q) := by
  refine ⟨fun pinsZ sZ σZ HZ Q IZ ⟨hs, hc, ht⟩ => ?_⟩
  refine wpAny_Call_Name_kw (thn ((pe_var (pos := p1) (i := i) hN hv hd hcd).run pinsZ sZ σZ HZ (fun v H1 => v = .ref f ∧ H1 = HZ) IZ ⟨.ref f, hs, rfl, rfl⟩) fun u s1 ⟨v, H1, I1, r1, q1⟩ => ?_)
  obtain ⟨rfl, rfl⟩ := q1
  obtain rfl : u = Value.ref f := r1
  have un : Un (frs X.stack) [] H H1 s.heap s1.heap := I1.base
  have kp0 : ∀ T o, s.heap.get? T = some o → H T = none → T ∉ frs X.stack → s1.heap.get? T = some o := fun T o e n nf => un.keep T o e n nf (by simp)
  have of1 := kp0 f _ hf hfn hfr
  refine PySem.W.callWith_F0 ⟨_, _, _, _, of1⟩ ?_
  obtain ⟨⟨oc, vs, t, hoc, hdc, hvc⟩, _, _⟩ := I1.hok c' _ hc
  obtain ⟨binds, hbs, hB⟩ := hbind s1 kp0
  have rc : codeAny (model X.prog X.w) (X.A.deeper (envOfC qg sg s.heap.objs.size g cdg)) (.call (.ref f) ⟨[], []⟩) (CR (L2.CX X.prog X.w) (envOfC qg sg s.heap.objs.size g cdg :: X.stack) X.prog X.w H1 s1 Q E) s1 := by
    refine PySem.W.kla_callFunE hr.depth of1 rfl L.co L.gen rfl ⟨c', oc, vs, t, rfl, hoc, hdc, hvc⟩ (hB _ _ _ _ ?_)
    refine wpAny_newFunctionEnv L.cel (fun y hy => L.par _ (by rw [← hbs]; exact List.mem_map_of_mem hy)) (fun h₁ hns hsb => ⟨I1.nolimit.fresh _ hsb, ?_⟩) L.kind
    show codeAny _ _ (.expr bd (lamEnv X scope s1.heap.objs.size f c')) _ _
    have kp : ∀ b o, s1.heap.get? b = some o → h₁.get? b = some o := fun b o e => hsb.extBut b o (Nat.ne_of_lt (Heap.lt_size e)) (Heap.get?_push_of_some _ e)
    have J : Inv (lamCx X (X.A.deeper (envOfC qg sg s.heap.objs.size g cdg)) (envOfC qg sg s.heap.objs.size g cdg :: X.stack) s1 H1 E scope f c') [] σ H1 { s1 with heap := h₁, toks := s1.toks + binds.length } := lam_in I L I1.env0 hr.hd un hns kp
    refine PySem.W.kla_codeExpr (wpAny_mono ((hbody _ _ s1 H1 (hr.deeper _)).run [] _ _ H1 Q J ht) (fun v s' ⟨w', H', J', rv, q⟩ => ?_) fun e s' z => z)
    exact ⟨w', H', J'.os, J'.bare, J'.base, J'.hok, rv, q⟩
  have hx : Passes (L2.CX X.prog X.w) ((cxOf CXg X.prog X.w X.K X.mg X.base Ng qg sg g cdg X.A X.stack s H Eg).tr pn xe) E := passes_call tk hW
  refine wpAny_call (codeAny_mono rc fun r s' hq => ?_)
  match r, hq with
  | .error e, hq => exact hx pinsZ σZ H1 s1 e s' I1 hq
  | .ok (.ret u), hq => exact I1.after hq
  | .ok .next, hq => exact hq.elim
  | .ok .brk, hq => exact hq.elim
  | .ok .cont, hq => exact hq.elim
end
/-! ### x(lambda: bd) -/
def tLamY (Pt : Addr) (q : Str) (TT : (XK → Hp → VK → Prop) → Hp → VK → Prop) (t : XK → TE) : TE := fun σ H Q => LamX.TabS H Pt q ∧ ∀ H1, Grow Pt q H H1 → TT (fun E H' Q' => t E σ H' Q') H1 Q
/-- how the defaults are bound -/
def Bnd (pr : Arguments) (bd : Expr) (scope : Scope) (dvs : List V) (bs : List Str) : Prop :=
  (dvs = [] ∧ bs = [] ∧ ∀ (q : Str) (cl : List (Str × Addr)) (pm cd ct : Value), bindArgs (lfn q pr bd scope cl .none pm cd ct) ⟨[], []⟩ = pure []) ∨
  ∃ x : Str, bs = [x] ∧ ∀ (q : Str) (cl : List (Str × Addr)) (pm cd ct u : Value) (T : Addr), ∃ k, bindArgs (lfn q pr bd scope cl (.ref T) pm cd ct) ⟨[], []⟩ = seqItems? (.ref T) >>= k ∧ k (some #[u]) = pure [(x, u)]
section
variable {X : Cx}
theorem pe_lamY {Pt : Addr} {TT : (XK → Hp → VK → Prop) → Hp → VK → Prop} {x a : Str} {g c : Addr} {k : Nat} {pg : Arguments} {bg : List Stmt} {sg : Scope} {fd : FuncData} {Ng : List Str} {dvs : List V} {bs : List Str}
    {pr : Arguments} {bd : Expr} {scope : Scope} {t : XK → TE} {p lpos pos : Pos} (F : FunD X.K x x pg bg sg [] [] g fd) (hg : Gl X x) (hm : X.mg x = some (.ref g)) (hb : L2.Binds X.K fd [a] []) (Sg : FnScope Ng [a] sg) (hNg : Ng[0]? = some a) (hva : Vis sg a)
    (hG : ∀ cdv : Value, GivesTo X Ng x sg g cdv bg a (qOf X) TT) (TB : TabB X.base X.mg c Pt) (hcode : X.env.code = .ref c) (hr : Room (k + 2) X.A) (L : LamZ X.N X.env.scope scope bs) (hdef : Dfl X pr dvs) (hbind : Bnd pr bd scope dvs bs) (hlen : dvs.length = bs.length)
    (hbody : ∀ (A : Around) (outer : List Env) (s : Shared) (H : Hp) (E : XK) (f c' : Addr), Room k (A.deeper (lamEnv X scope s.heap.objs.size f c')) → PE (lamCx X A outer s H E scope f c') bd (t E))
    (hdb : (x == ("__debug__" : Str)) = false := by decide) (hd : (a == ("__debug__" : Str)) = false := by decide) (hcd : (a == ("__classdict__" : Str)) = false := by decide) :
    PE X (.Call (.Name x p) [.Lambda pr bd scope lpos] [] pos) (tLamY Pt (qOf X) TT t) := by
  obtain ⟨oc, od, dV, kV, doc, pm, an, cdv, ct, osl, rfl, lk, hcg, _, _⟩ := F.ex
  refine ⟨fun pins s σ H Q I ⟨hT, h⟩ => ?_⟩
  refine wpAny_Call_Name_kw (ld_glob I hg hm (PySem.W.callWith_K (h₀ := X.base) I.ok.mod.kin F.kp ?_ (by rfl) (by rfl)) hdb)
  show wpAny _ _ (spliced ((false, eval (.Lambda pr bd scope lpos) X.env) :: backTo pos (starEach [] X.env))) _ _ s
  refine Calls.spliced_cons (lam_make I TB hcode hT hdef (L.has I.ok) fun f c' dV' pm' ctv its H1 s' I1 gr hf hdt hvs hfn hfr hco => Calls.spliced_nil ⟨I1.kIn, ?_⟩)
  have rc : codeAny (model X.prog X.w) X.A (.call (.ref g) ⟨[.ref f], []⟩) (CR C8.CX0 X.stack X.prog X.w H1 s' Q C8.E0) s' := by
    refine run_ofS (N := Ng) (ps := [a]) (us := [.ref f]) (vs := [.ref f]) lk hcg Sg hr I1.env0 (hb s' [.ref f] I1.kIn rfl) (.cons rfl .nil) rfl fun hr' => ?_
    have bnd : ∀ s1 : Shared, (∀ T o, s'.heap.get? T = some o → H1 T = none → T ∉ frs X.stack → s1.heap.get? T = some o) → ∃ binds, binds.map (·.1) = bs ∧ BindsTo s1 (lfn (qOf X) pr bd scope (cloFrom X.env.cells scope.names []) dV' pm' (.ref c') ctv) ⟨[], []⟩ binds := fun s1 kp => by
      rcases hbind with ⟨e1, e2, e3⟩ | ⟨y, e1, e2⟩
      · subst e1 e2
        cases hvs
        rcases hdt with ⟨_, z⟩ | ⟨T, o, n, u, z0, _⟩
        · subst z; exact ⟨[], rfl, .of_eq (e3 _ _ _ _ _)⟩
        · cases z0
      · subst e1
        rcases hdt with ⟨z, _⟩ | ⟨T, o, n, u, z0, z1, z2, z3, z4, z5⟩
        · subst z
          cases hvs
          cases hlen
        · subst z0 z1
          obtain ⟨k, w1, w2⟩ := e2 (qOf X) (cloFrom X.env.cells scope.names []) pm' (.ref c') ctv u T
          exact ⟨[(y, u)], rfl, .of_defaults rfl (kp T o z2 z4 z5) z3 w1 w2⟩
    obtain ⟨t', ht', hq'⟩ := hG _ f c' s' H1 Q (fun E H' Q' => t E σ H' Q') (fun W pn xe E p1 p2 tk hW => pe_do (i := 0) I1 L hf hfn hfr bnd tk hW hr' (fun A outer s H hr2 => hbody A outer s H E f c' hr2) hNg hva hd hcd) hco (h H1 gr)
    exact ⟨t', ht'.nox, hq'⟩
  refine wpAny_call (codeAny_mono rc fun r s2 hq => ?_)
  match r, hq with
  | .error e, hq => exact (show False from hq).elim
  | .ok (.ret u), hq => exact I1.after hq
  | .ok .next, hq => exact hq.elim
  | .ok .brk, hq => exact hq.elim
  | .ok .cont, hq => exact hq.elim
end
end LamY

set_option Elab.async false
set_option linter.all false
set_option maxRecDepth 100000
namespace Pv
open PySem PySem.Spec PyProof.Rows L2 LamX
/-! ### x(lambda: y): x a def that calls what it gets, within a try -/
abbrev cE (c : Cc) (E : XK) : Cc := { c with E := E }
/-- what x makes of its lambda: E: what an error of it gives, d: the answer without one -/
def toldX (x : Ex) (ans : Nat → List D → Option D) (d : D) : Ex := fun env S => match x env S with
  | .ok _ S' => .ok ⟨false, d⟩ S'
  | .exc k fs S' => (match ans k fs with
    | some a => .ok ⟨false, a⟩ S'
    | none => .bad)
  | .bad => .bad
theorem grow_step {ρ : List Addr} {P H H1 : Hp} {Pt : Addr} {q : Str} (l : Le P H) (g : LamY.Grow Pt q H H1) (hm : ∀ a z, P a = some (mkT z) → a = Pt ∧ z = q) (hP : ∃ z, P Pt = some (mkT z)) (hX : ∃ ps, H Pt = some (.tbl ps)) : Step ρ P H P H1 := by
  have old : ∀ a u, H a = some u → NTb u → H1 a = some u := fun a u e nt => g.old a u (fun z => by
    obtain ⟨ps, h⟩ := hX
    rw [z, h] at e
    exact ntb_tbl nt ps (Option.some.inj e).symm) e
  refine ⟨fun a u e => ?_, Same.refl P, fun a u e _ nt => old a u e nt, g.fresh, fun _ _ _ q _ _ _ => q, fun _ _ q => q, fun _ _ e => e⟩
  rcases l a u e with ⟨w, nt⟩ | ⟨m, o, w⟩ | ⟨w, w1, _⟩
  · exact .inl ⟨old a u w nt, nt⟩
  · exact .inr (.inl ⟨m, o, old _ _ w rfl⟩)
  · subst w1
    obtain ⟨e1, e2⟩ := hm a w e
    subst e1 e2
    exact .inr (.inr ⟨w, rfl, g.tab⟩)
section
variable {X : Cx} {c : Cc}
/-- Q: the table of X's own code object, marked in the ground -/
structure TabC (X : Cx) (c : Cc) (Pt : Addr) : Prop where
  mark : c.P0 Pt = some (mkT (LamY.qOf X))
  only : ∀ a z, c.P0 a = some (mkT z) → a = Pt
  tbl : ∃ ps, X.H_0 Pt = some (.tbl ps)
theorem sto_grow {K : PySem.W.Frag} {G : Nat → Option (Addr × List Str)} {ρ : List Addr} {P H H1 : Hp} {S : Sto} {Pt : Addr} {q : Str} (s : StoOk K G ρ P H S) (g : LamY.Grow Pt q H H1) (hX : ∃ ps, H Pt = some (.tbl ps)) : StoOk K G ρ P H1 S :=
  ⟨s.len, s.nd, fun n d e => by
    obtain ⟨a, h1, h2, r⟩ := s.at_ n d e
    refine ⟨a, h1, h2, r.mono (Same.refl P) fun u hu => g.old a u (fun z => ?_) hu⟩
    obtain ⟨ps, h⟩ := hX
    have pl := r.plain
    rw [z, h] at pl; exact pl⟩
theorem pd_told {Pt : Addr} {okk : Nat → Prop} {ansV : Nat → V} {dV : V} {ans : Nat → List D → Option D} {d : D} {e : Expr} {x : Ex} (tc : TabC X c Pt) (h : PE X e (LamY.tLamY Pt (LamY.qOf X) (TTas c.xc okk ansV dV) fun E' => TEx (cE c E') x))
    (hd : ∀ P', Rep c.K c.G P' d dV) (ha : ∀ k fs a, ans k fs = some a → fs = [] ∧ okk k ∧ ∀ P', Rep c.K c.G P' a (ansV k)) : PE X e (TEx c (toldX x ans d)) := ⟨fun pins s σ H Q I ⟨P, env, S, st, w⟩ => by
  obtain ⟨ps0, hX0⟩ := tc.tbl
  obtain ⟨more, hX⟩ := I.base.tbls Pt ps0 hX0
  have mP : P Pt = some (mkT (LamY.qOf X)) := st.st.pp _ _ tc.mark
  have only : ∀ a z, P a = some (mkT z) → a = Pt ∧ z = LamY.qOf X := fun a z e => by
    have e1 := tc.only a z (st.st.mrk a z e)
    subst e1
    rw [mP] at e
    cases e
    exact ⟨rfl, rfl⟩
  have tab : LamX.TabS H Pt (LamY.qOf X) := by
    rcases st.le _ _ mP with ⟨q, nt⟩ | ⟨m, _⟩ | ⟨q, q1, q2⟩
    · cases nt
    · exact m.elim
    · cases q1; exact q2
  refine h.run pins s σ H Q I ⟨tab, fun H1 g => ?_⟩
  have sg : Step c.ρ P H P H1 := grow_step st.le g only ⟨_, mP⟩ ⟨_, hX⟩
  have s1 : Stt c P H1 env σ S := st.step sg (sto_grow st.so g ⟨_, hX⟩)
  have sE : ∀ E' : XK, Stt (cE c E') P H1 env σ S := fun E' => stt_E s1
  refine ⟨P, env, S, sE _, ?_⟩
  unfold PX toldX at w
  cases q : x env S with
  | bad => rw [q] at w; exact w.elim
  | ok r S' =>
    rw [q] at w
    exact fun v P' H' sp so rr => w dV P' H' (sg.trans sp) so (RepR.sh (hd P'))
  | exc k fs S' =>
    rw [q] at w
    dsimp only at w
    cases qa : ans k fs with
    | none => rw [qa] at w; exact w.elim
    | some a =>
      rw [qa] at w
      obtain ⟨ef, ok, ra⟩ := ha k fs a qa
      intro C dx P' H' sp so ex
      obtain ⟨eC, hdx⟩ := ex
      subst ef
      exact ⟨k, ok, eC, hdx, w (ansV k) P' H' (sg.trans sp) so (RepR.sh (ra P'))⟩⟩
/-- x(lambda: body) -/
theorem pd_lam {Pt cA : Addr} {x a : Str} {g : Addr} {k : Nat} {pg : Arguments} {bg : List Stmt} {sg : Scope} {fd : FuncData} {Ng : List Str} {dvs : List V} {bs : List Str} {pr : Arguments} {bd : Expr} {scope : Scope} {p lpos pos : Pos} {y : Ex} {okk : Nat → Prop} {ansV : Nat → V} {dV : V} {ans : Nat → List D → Option D} {d : D}
    (tc : TabC X c Pt) (F : FunD X.K x x pg bg sg [] [] g fd) (hg : Gl X x) (hm : X.mg x = some (.ref g)) (hb : L2.Binds X.K fd [a] []) (Sg : FnScope Ng [a] sg) (hNg : Ng[0]? = some a) (hva : Vis sg a) (hG : ∀ cdv : Value, GivesTo X Ng x sg g cdv bg a (LamY.qOf X) (TTas c.xc okk ansV dV))
    (TB : TabB X.base X.mg cA Pt) (hcode : X.env.code = .ref cA) (hr : Room (k + 2) X.A) (L : LamY.LamZ X.N X.env.scope scope bs) (hdef : LamY.Dfl X pr dvs) (hbind : LamY.Bnd pr bd scope dvs bs) (hlen : dvs.length = bs.length)
    (hbody : ∀ (A : Around) (outer : List Env) (s : Shared) (H : Hp) (E' : XK) (f c' : Addr), Room k (A.deeper (lamEnv X scope s.heap.objs.size f c')) → PE (lamCx X A outer s H E' scope f c') bd (TEx (cE c E') y))
    (hd : ∀ P', Rep c.K c.G P' d dV) (ha : ∀ n fs z, ans n fs = some z → fs = [] ∧ okk n ∧ ∀ P', Rep c.K c.G P' z (ansV n)) (h1 : (x == ("__debug__" : Str)) = false := by decide) (h2 : (a == ("__debug__" : Str)) = false := by decide) (h3 : (a == ("__classdict__" : Str)) = false := by decide) :
    PE X (.Call (.Name x p) [.Lambda pr bd scope lpos] [] pos) (TEx c (toldX y ans d)) :=
  pd_told tc (LamY.pe_lamY F hg hm hb Sg hNg hva hG TB hcode hr L hdef hbind hlen hbody h1 h2 h3) hd ha
/-- what the body's calls may let out is taken -/
theorem lam_takes {scope : Scope} {A : Around} {outer : List Env} {s : Shared} {H : Hp} {E' : XK} {f c' : Addr} : Passes (L2.CX X.prog X.w) (lamCx X A outer s H E' scope f c') E' :=
  fun pins σ H' s' e s2 I h => passes_call (X := lamCx X A outer s H E' scope f c') (takes_of rfl rfl rfl rfl) (fun _ _ _ _ h => h) pins σ H' s' e s2 I h
end
end Pv

set_option Elab.async false
set_option linter.all false
set_option maxRecDepth 100000
namespace Pv
open PySem PySem.Spec PyProof.Rows L2 LamX
/-! ### the head's observation, tables and defs that close over __class__ among it -/
abbrev FnS : Type := Option (Str × Str × Arguments × FuncBody × Scope × Addr × List Str × Addr)
def fnS (K : PySem.W.Frag) (p : Str × Option Str) : FnS := match K.lookup (He.fAd K p) with
  | some ⟨_, _, .func fd, _⟩ => some (fd.name, fd.qualname, fd.params, fd.body, fd.scope, fd.globals, fd.closure.map (·.1), fd.builtins)
  | _ => none
structure SupD where
  at_ : Str × Option Str
  qual : Str
  params : Arguments
  body : List Stmt
  scope : Scope
def SupD.val (d : SupD) : FnS := some ("__init__", d.qual, d.params, .stmts d.body, d.scope, mainGlobals, ["__class__"], builtinsNs)
structure SaysQ (fa : List He.Fa) (fn : List He.DefD) (sp : List SupD) (tf : List He.Defn) (xt : PySem.W.Frag → Bool) (h : Heap) (K : PySem.W.Frag) : Prop where
  d : He.SaysD fa fn K
  s : sp.map (fun d => fnS K d.at_) = sp.map SupD.val
  x : xt K = true
  hd : ∀ p ∈ tf, PySem.W.codeHdIn K (He.cT K p).1 (He.cT K p).2 = true
  out : ∀ p ∈ tf, K.lookup (He.cT K p).2 = none
  empty : ∀ p ∈ tf, h.get? (He.cT K p).2 = some { cls := .none, data := .fields #[] }
/-- the objects reached, and the statics' table -/
def asQ (g : Addr → Option Obj) (n : Nat) : List Addr := He.asD g n ++ [cStatics]
abbrev AlQ : Type := (He.AlD × Bool) × List FnS
def obG (n : Nat) (fa : List He.Fa) (fn : List He.DefD) (sp : List SupD) (tf : List He.Defn) (xt : PySem.W.Frag → Bool) (g : Addr → Option Obj) : AlQ :=
  ((He.obsD fa fn (He.frT g (asQ g n)), xt (He.frT g (asQ g n)) && He.tabsB g tf (He.frT g (asQ g n))), sp.map fun d => fnS (He.frT g (asQ g n)) d.at_)
def valQ (fn : List He.DefD) (sp : List SupD) : AlQ := ((He.valD fn, true), sp.map SupD.val)
theorem saysQ_of {n : Nat} {fa : List He.Fa} {fn : List He.DefD} {sp : List SupD} {tf : List He.Defn} {xt : PySem.W.Frag → Bool} {h : Heap} (e : obG n fa fn sp tf xt h.get? = valQ fn sp) : SaysQ fa fn sp tf xt h (He.frT h.get? (asQ h.get? n)) := by
  have e1 : He.obsD fa fn (He.frT h.get? (asQ h.get? n)) = He.valD fn := congrArg (fun z : AlQ => z.1.1) e
  have e2 : (xt (He.frT h.get? (asQ h.get? n)) && He.tabsB h.get? tf (He.frT h.get? (asQ h.get? n))) = true := congrArg (fun z : AlQ => z.1.2) e
  obtain ⟨h1, h2⟩ := Bool.and_eq_true_iff.mp e2
  have key : ∀ p ∈ tf, PySem.W.codeHdIn (He.frT h.get? (asQ h.get? n)) (He.cT (He.frT h.get? (asQ h.get? n)) p).1 (He.cT (He.frT h.get? (asQ h.get? n)) p).2 = true ∧ ∃ o, h.get? (He.cT (He.frT h.get? (asQ h.get? n)) p).2 = some o ∧ He.emptyTab o = true := fun p hp => by
    obtain ⟨h3, h4⟩ := Bool.and_eq_true_iff.mp (List.all_eq_true.mp h2 p hp)
    refine ⟨h3, ?_⟩
    cases q : h.get? (He.cT (He.frT h.get? (asQ h.get? n)) p).2 with
    | none => rw [q] at h4; cases h4
    | some o => rw [q] at h4; exact ⟨o, rfl, h4⟩
  exact ⟨e1, congrArg (fun z : AlQ => z.2) e, h1, fun p hp => (key p hp).1, fun p hp => by
    obtain ⟨_, o, q, z⟩ := key p hp
    exact He.frT_none q z, fun p hp => by
    obtain ⟨_, o, q, z⟩ := key p hp
    rw [q, He.emptyTab_eq z]⟩
def hookQ (n : Nat) (fa : List He.Fa) (fn : List He.DefD) (sp : List SupD) (tf : List He.Defn) (xt : PySem.W.Frag → Bool) : PySem.W.Hook where
  α := AlQ
  obs := fun s => obG n fa fn sp tf xt s.heap.get?
  val := fun _ => valQ fn sp
  says := fun _ h => ∃ K : PySem.W.Frag, K.In h ∧ SaysQ fa fn sp tf xt h K
  of := fun _ _ e => ⟨_, He.frT_in, saysQ_of e⟩
  keeps := fun _ _ _ ⟨K, hK, c⟩ k => ⟨K, PySem.W.Frag.In.keeps hK k, ⟨c.d, c.s, c.x, c.hd, c.out, fun p hp => k _ _ (c.empty p hp)⟩⟩
def obQ (n : Nat) (fa : List He.Fa) (fn : List He.DefD) (sp : List SupD) (tf : List He.Defn) (xt : PySem.W.Frag → Bool) (s : PySem.W.SharedT) : AlQ := obG n fa fn sp tf xt (HandSHeadRun.getT s)
theorem obQ_eq {n : Nat} {fa : List He.Fa} {fn : List He.DefD} {sp : List SupD} {tf : List He.Defn} {xt : PySem.W.Frag → Bool} (s : PySem.W.SharedT) : obQ n fa fn sp tf xt s = (hookQ n fa fn sp tf xt).obs s.abs := by
  have e : HandSHeadRun.getT s = s.abs.heap.get? := funext (HandSHeadRun.getT_eq s)
  unfold obQ
  rw [e] <;> rfl
/-! ### the law's def with lambdas in it -/
def spL (K : PySem.W.Frag) (T : List (Addr × Str)) (b : Sx) (m : Nat) : Sp := fun vs H Q E => ∃ (a : Addr) (ns : List Int), vs = [.ref a] ∧ SqL K H a (ns.map V.int) ∧ (∀ p ∈ T, H p.1 = some (.tbl #[])) ∧ (∃ S', runF b m [.sh (.ro (scrD ns))] [] = .ok ⟨false, .bl true⟩ S') ∧ ∀ H', Q (.bl true) H'
theorem fn_law {P : Program} {w : World} {K : PySem.W.Frag} {mg : Str → Option Value} {base : Heap} {G : Nat → Option (Addr × List Str)} {xc : Nat → Value} {T : List (Addr × Str)} {x qual p : Str} {params : Arguments} {body : List Stmt} {scope : Scope} {f : Addr} {fd : FuncData} {N : List Str} {k m : Nat} {b : Sx}
    (F : FunD K x qual params body scope [] [] f fd) (Sc : FnScope N [p] scope) (hm : N.length = m) (nd : (T.map (·.1)).Nodup)
    (hb : ∀ (A : Around) (outer : List Env) (s : Shared) (H : Hp) (E : XK) (P0 : Hp), Room k (A.deeper (envOfC qual scope s.heap.objs.size f fd.code)) → (∀ p ∈ T, P0 p.1 = some (mkT p.2) ∧ H p.1 = some (.tbl #[])) → (∀ a z, P0 a = some (mkT z) → a ∈ T.map (·.1)) →
      PSs (XC P w K mg base N qual scope f fd.code A outer s H E) body (TSx ⟨K, G, xc, [], P0, H, E⟩ b)) :
    FnOk P w K mg base (L2.CX P w) (k + 1) f fd [p] (spL K T b m) := by
  obtain ⟨oc, od, dV, kV, doc, pm, an, cdv, ct, osl, rfl, lk, hcd, _, _⟩ := F.ex
  refine fn_of lk hcd Sc (fun vs H Q E ⟨a, ns, e, _⟩ => by rw [e]; rfl) fun A outer s H vs Q E hr ⟨a, ns, ev, hS, tb, ⟨S', hw⟩, hQ⟩ => ?_
  subst ev
  have tabs : Tabs T H := fun p hp => TabS.nil (tb p hp)
  obtain ⟨P1, le, sq, mk⟩ := ground hS tabs nd
  -- no mark but the tables'
  let P2 : Hp := fun b => match P1 b with
    | some (.xd z) => if b ∈ T.map (·.1) then some (.xd z) else none
    | o => o
  have p21 : ∀ {b u}, P2 b = some u → P1 b = some u := fun {b u} e => by
    have e2 : (match P1 b with | some (.xd z) => if b ∈ T.map (·.1) then some (.xd z) else none | o => o) = some u := e
    split at e2
    · rename_i z q
      split at e2
      · rw [q]; exact e2
      · cases e2
    · exact e2
  have p12 : ∀ {b u}, P1 b = some u → (∀ z, u ≠ .xd z) → P2 b = some u := fun {b u} e nx => by
    show (match P1 b with | some (.xd z) => if b ∈ T.map (·.1) then some (.xd z) else none | o => o) = some u
    rw [e]
    cases u with
    | xd z => exact absurd rfl (nx z)
    | _ => rfl
  have le2 : Le P2 H := fun b u e => le b u (p21 e)
  have sq2 : SqL K P2 a (ns.map V.int) := by
    rcases sq with (q | ⟨o, q⟩) | q
    · exact .inl (.inl (p12 q fun _ z => nomatch z))
    · exact .inl (.inr ⟨o, p12 q fun _ z => nomatch z⟩)
    · exact .inr q
  have mk2 : ∀ p ∈ T, P2 p.1 = some (mkT p.2) := fun p hp => by
    show (match P1 p.1 with | some (.xd z) => if p.1 ∈ T.map (·.1) then some (.xd z) else none | o => o) = some (mkT p.2)
    rw [mk p hp]
    show (if p.1 ∈ T.map (·.1) then some (mkT p.2) else none) = _
    rw [if_pos (List.mem_map_of_mem hp)]
  have only : ∀ b z, P2 b = some (mkT z) → b ∈ T.map (·.1) := fun b z e => by
    have e1 := p21 e
    have e2 : (match P1 b with | some (.xd z) => if b ∈ T.map (·.1) then some (.xd z) else none | o => o) = some (mkT z) := e
    rw [e1] at e2
    by_cases h : b ∈ T.map (·.1)
    · exact h
    · have e3 : (if b ∈ T.map (·.1) then some (mkT z) else none) = some (mkT z) := e2
      rw [if_neg h] at e3; cases e3
  refine ⟨_, hb A outer s H E P2 hr (fun p hp => ⟨mk2 p hp, tb p hp⟩) only, ?_⟩
  have so : StoOk K G [] P2 H [] := ⟨rfl, List.nodup_nil, fun n d e => by simp at e⟩
  have h1 : 1 ≤ N.length := by
    have := congrArg List.length Sc.pre
    rw [List.length_take] at this
    simp only [List.length_cons, List.length_nil] at this
    omega
  have st := start_ok (xc := xc) (E := E) (N := N) (as := [.sh (.ro (scrD ns))]) (vs := [.ref a]) le2 so (.cons (show ArgOk K G [] P2 (.sh (.ro (scrD ns))) (.ref a) from .ro sq2 (scr_rep ns)) .nil) h1
  have px : PX ⟨K, G, xc, [], P2, H, E⟩ P2 H Q (runF b m [.sh (.ro (scrD ns))] []) := by
    rw [hw]
    intro v P' H' sp so rr
    cases rr
    exact hQ H'
  refine ⟨P2, _, [], st, ?_⟩
  rw [hm]
  refine post_mono (post_bind.mp px) (fun fl S1 q => ?_) fun _ _ _ q => q
  cases fl with
  | nx env' => exact fun P' H' σ' e st => q .non P' H' st.st st.so (RepR.sh .non)
  | ret r => exact q
/-- a law with tables -/
theorem walk_Q {l : PySem.W.OpenLaw} {n k : Nat} {q : Program} {loose : List Str} {XP : (Str → Option Value) → Heap → Prop} {YP : World → Heap → Prop} {d : DefRec} {x : Str} (hn : l.most = some n) (hn2 : n ≤ sizeLine) (hdf : d.params.defaults = []) (hr : Room k callerA)
    (F : ∀ (w : World) (mg : Str → Option Value) (fa : Addr) (h : Heap), YP w h → h.Ns mainGlobals mg → mg d.name = some (.ref fa) → ∃ (K : PySem.W.Frag) (fd : FuncData) (cs : List (Addr × Addr)) (sp : Sp), K.In h ∧ (∀ p ∈ cs, h.get? p.2 = some { cls := .none, data := .fields #[] }) ∧ (∀ p ∈ cs, K.lookup p.2 = none) ∧ (∀ p ∈ cs, PySem.W.CodeHd h p.1 p.2) ∧
      (∀ (s : Shared) (u : Value), BindsTo s fd ⟨[u], []⟩ [(x, u)]) ∧ (∀ (H : Hp) (a : Addr) (ns : List Int), ns.length ≤ n → (∀ p ∈ cs, H p.2 = some (.tbl #[])) → SqL K H a (ns.map V.int) → sp [.ref a] H (fun v _ => v = .bl true) fun _ _ _ => False) ∧
      ∀ base : Heap, K.In base → base.Ns mainGlobals mg → (∀ p ∈ cs, TabB base mg p.1 p.2) → FnOk l.prog w K mg base (L2.CX l.prog w) k fa fd [x] sp) :
    PySem.W.WalkO q loose XP YP l.row.toRowW d [] (fun f vs => PySem.call f vs) :=
  LamX.walk_ofTsE (CX := fun w => L2.CX l.prog w) hn hn2 hdf hr (fun w mg fa h Y G hm => by
    obtain ⟨K, fd, cs, sp, h1, h2, h3, h4, h5, h6, h7⟩ := F w mg fa h Y G hm
    exact ⟨K, h1, fd, cs, sp, h2, h3, h4, h5, fun H a ns hl _ => h6 H a ns hl, h7⟩) fun w H s e s' => no_out H s e s'
end Pv

set_option Elab.async false
set_option linter.all false
set_option maxRecDepth 100000
/-! an own error over ValueError whose __init__ says super().__init__(..), then stores its fields -/
namespace SupY
open PySem PySem.Spec PyProof.Rows PySem.W PySem.Calls
abbrev eo (C t : Addr) (d : Option Addr) : Obj := { cls := .ref C, dict := d, data := .fields #[.ref t, .none, .none, .none, .bool false, .none] }
/-- what the module says of such a class and its __init__ -/
structure SupC (prog : Program) (K : PySem.W.Frag) (mg : Str → Option Value) (C : Addr) (qual : Str) (pr : Arguments) (body : List Stmt) (scope : Scope) : Prop where
  o : L2.OexC K C
  init : ∃ (fI cda cc : Addr) (oc : Value) (od : Option Addr) (dV kV doc pm : Value) (an : Option Addr) (ct : Value) (osl : Array (Option Value)), findIn K (.ref C) "__init__" = some (some (.ref fI)) ∧ typeIn K (.ref fI) = some (.type "function") ∧
    K.lookup fI = some ⟨oc, od, .func (ksFn "__init__" qual pr body scope dV kV doc pm an (.ref cda) ct cc), osl⟩ ∧ codeIn K (.ref cda) qual = true ∧ (∃ cl cld csl, K.lookup cc = some ⟨cl, cld, .cell (some (.ref C)), csl⟩) ∧
    (∃ ccl cdd ccs vs file tf, K.lookup cda = some ⟨ccl, cdd, .fields vs, ccs⟩ ∧ vs[2]? = some (.str file tf) ∧ ((prog.main.file : Str) == file) = true) ∧
    ∀ us : List Value, us.length + 1 = (pr.posonlyargs ++ pr.args).length → bindArgs (ksFn "__init__" qual pr body scope dV kV doc pm an (.ref cda) ct cc) ⟨us, []⟩ = bindArgs (ksFn "__init__" qual pr body scope dV kV doc pm an (.ref cda) ct cc) ⟨us, []⟩
  sup : ks_superIn K C C "__init__" = some (some (.builtin "ValueError.__init__"))
  sub : subIn K (.ref C) (.type "ValueError") = some true
  mro : mroIn K C (.ref C) = some true
  tp : nsIn K cStatics "thirdparty.any" = some Option.none
  ms : mg "super" = Option.none
section
variable {prog : Program} {w : World} {A : Around} {E : Value → Shared → Prop} {K : PySem.W.Frag} {mg : Str → Option Value} {h0 hp : Heap} {g : Array GenState} {d : Drawn} {t : Nat} {os : OsState} {C fI cda cc L e t0 : Addr} {qual : Str} {scope : Scope} {body : List Stmt}
/-- all but e stands as before -/
def But (e : Addr) (h h' : Heap) : Prop := ∀ b o, b ≠ e → h.get? b = some o → h'.get? b = some o
theorem But.trans {h1 h2 h3 : Heap} (a : But e h1 h2) (b : But e h2 h3) : But e h1 h3 := fun c o n q => b c o n (a c o n q)
theorem But.old {h1 h2 : Heap} (k0 : ∀ b o, h0.get? b = some o → h1.get? b = some o) (n0 : h0.get? e = Option.none) (a : But e h1 h2) : ∀ b o, h0.get? b = some o → h2.get? b = some o := fun b o q => a b o (fun z => by rw [z, n0] at q; cases q) (k0 b o q)
theorem super_stmt {m : Str → Option Value} {oc : Value} {od : Option Addr} {osl : Array (Option Value)} {fd : FuncData} {ar : Arg} {ccl cl : Value} {cdd cld : Option Addr} {ccs csl : Array (Option Value)} {vs : Array Value} {file : Str} {tf : Tok} {a1 : Expr} {as : List Expr} {p0 p1 p2 p3 p4 : Pos} {pl : Sem Bool} {us : List Value} {Q : Flow → Shared → Prop}
    (M0 : L2.Mod K mg h0) (k0 : ∀ b o, h0.get? b = some o → hp.get? b = some o) (n0 : h0.get? e = Option.none) (T : L2.OexC K C) (sup : ks_superIn K C C "__init__" = some (some (.builtin "ValueError.__init__"))) (sub : subIn K (.ref C) (.type "ValueError") = some true) (mro : mroIn K C (.ref C) = some true)
    (tp : nsIn K cStatics "thirdparty.any" = some Option.none) (ms : mg "super" = Option.none) (lf : K.lookup fI = some ⟨oc, od, .func fd, osl⟩) (hpar : (fd.params.posonlyargs ++ fd.params.args).head? = some ar) (lc : K.lookup cda = some ⟨ccl, cdd, .fields vs, ccs⟩) (hvs : vs[2]? = some (.str file tf)) (hfile : ((prog.main.file : Str) == file) = true)
    (lcc : K.lookup cc = some ⟨cl, cld, .cell (some (.ref C)), csl⟩) (hks : scope.names.lookup ("super" : Str) = some .globalImplicit) (hkc : scope.names.lookup ("__class__" : Str) = some .free) (hka : scope.names.lookup ar.arg = some .local) (hk : scope.kind = .function) (htop : (prog.main.scope.names.lookup ("super" : Str)).isSome = false)
    (he : hp.get? e = some (eo C t0 Option.none)) (hns : hp.Ns L m) (hm : m ar.arg = some (.ref e)) (hLe : L ≠ e)
    (hargs : ∀ (s1 : Shared) (Q' : List Value → Shared → Prop), (∃ m', s1.heap.Ns L m' ∧ m' = m) → Q' us s1 → wpAny (model prog w) A (spliced (backTo p3 (starEach (a1 :: as) (ksEnv qual scope L fI (.ref cda) cc)))) Q' E s1) (hl : us.length ≤ sizeLine)
    (hev : eval (.Call (.Attribute (.Call (.Name "super" p0) [] [] p1) "__init__" p2) (a1 :: as) [] p3) (ksEnv qual scope L fI (.ref cda) cc) = (do
      let ov ← attributeBase (.Call (.Name "super" p0) [] [] p1) "__init__" (ksEnv qual scope L fI (.ref cda) cc) (eval (.Call (.Name "super" p0) [] [] p1) (ksEnv qual scope L fI (.ref cda) cc))
      standAt p2.atName
      let (f, first) ← holding [ov] (getMethod ov "__init__" pl)
      callWith p3 f first (backTo p3 (starEach (a1 :: as) (ksEnv qual scope L fI (.ref cda) cc))) []))
    (hst : starEach (a1 :: as) (ksEnv qual scope L fI (.ref cda) cc) = (false, eval a1 (ksEnv qual scope L fI (.ref cda) cc)) :: starEach as (ksEnv qual scope L fI (.ref cda) cc)) (hpl : (backTo p3 (starEach as (ksEnv qual scope L fI (.ref cda) cc))).any (·.1) = false)
    (hi : interactive (ksEnv qual scope L fI (.ref cda) cc) = false) (hsw : swapsWith (.Call (.Attribute (.Call (.Name "super" p0) [] [] p1) "__init__" p2) (a1 :: as) [] p3) Option.none p4.line (ksEnv qual scope L fI (.ref cda) cc) = pure false)
    (hq : ∀ (h' : Heap) (t1 : Addr) (tk : Nat), But e hp h' → h'.get? e = some (eo C t1 Option.none) → Q .next ⟨h', g, d, tk, os⟩) :
    _root_.PySem.wpAt (model prog w) A (.func body (ksEnv qual scope L fI (.ref cda) cc)) (exec (.Expr (.Call (.Attribute (.Call (.Name "super" p0) [] [] p1) "__init__" p2) (a1 :: as) [] p3) p4) (ksEnv qual scope L fI (.ref cda) cc)) Q E ⟨hp, g, d, t, os⟩ := by
  have X : K.In hp := M0.kin.keeps k0
  obtain ⟨nm, q, N, bs, bm, sn, sb, ab, col, dd, c0, c1, c2, c3, c5, hC0, hbm⟩ := T.cls
  have hcl : clsIn K C = some { name := nm, bases := bs, mro := .ref C :: bm, ns := N, qualname := q, hasDict := true, slotNames := sn, subclasses := sb, abstract := ab, collection := col, hasDel := false } := by unfold clsIn; rw [hC0] <;> rfl
  have hC := X _ _ hC0
  have xC : e ≠ C := fun z => by
    have h1 := M0.kin _ _ hC0
    rw [← z, n0] at h1; cases h1
  refine ks_wpAt_Expr_any ?_ hi hsw
  refine ks_wpAt_MethodCall (pl := pl) ?_ hev
  refine ks_wpAt_super_base (env := ksEnv qual scope L fI (.ref cda) cc) hks hkc (by decide) rfl (X _ _ lf) rfl hpar rfl (X _ _ lc) rfl hvs hfile htop ?_
  obtain ⟨mb, b1, b2⟩ := M0.blt
  refine ks_loadName_global hk hks (loadGlobal_builtin (env := ksEnv qual scope L fI (.ref cda) cc) (M0.glob.keeps k0) ms (b1.keeps k0) ((b2 _ (by decide)).trans (by decide +kernel : bootBuiltins "super" = some (.type "super"))) ⟨rfl, ?_⟩)
  refine wpAny_loadName_free hk hkc rfl ⟨_, X _ _ lcc, rfl⟩ (wpAny_loadName_local hk hka hns hm (ks_wpAny_isType_cls hC rfl ⟨rfl, ?_⟩))
  refine ks_wpAny_call_super hC rfl he rfl (fun c z => nomatch z) (looks_mroIn X mro) (fun h1 e1 u1 => ?_)
  have k1 : ∀ b o, h0.get? b = some o → h1.get? b = some o := fun b o z => u1 b o (k0 b o z)
  have X1 : K.In h1 := M0.kin.keeps k1
  have he1 := u1 _ _ he
  have hI : Looks (model prog w) h1 (isInstance (.ref e) (.type "ValueError")) true := Looks.andThen (fun A Q E s k z => wpAny_typeOf_ref (k _ _ he1) z) (looks_subIn X1 sub)
  have hm1 : Looks (model prog w) h1 (mroOf (.ref C)) (.ref C :: bm) := fun A Q E s k z => wpAny_bind ((looks_clsIn X1 hcl) A _ E s k (wpAny_pure z))
  have hal : alongIn K "__init__" (((Value.ref C :: bm).dropWhile (· != .ref C)).drop 1) = some (some (.builtin "ValueError.__init__")) := by
    unfold ks_superIn at sup
    rw [hcl] at sup
    exact sup
  refine kxs_getMethod kxs_ValueError e1 (looks_opaque X1 tp) hm1 rfl X1 hal hI xC (by decide) ?_
  have g2 : ∀ b o, h1.get? b = some o → (h1.push (kxs_mw "ValueError.__init__" e)).get? b = some o := fun b o z => Heap.get?_push_of_some _ z
  have eu : (h1.push (kxs_mw "ValueError.__init__" e)).get? h1.objs.size = some (kxs_mw "ValueError.__init__" e) := Heap.get?_push_at rfl rfl
  rw [hst]
  refine kxs_callWith (i := "ValueError.__init__") (x := e) (by show (false || (backTo p3 (starEach as (ksEnv qual scope L fI (.ref cda) cc))).any (·.1)) = false; rw [hpl]; rfl) (evalArgs_plain ?_)
  have hargs' := hargs ⟨h1.push (kxs_mw "ValueError.__init__" e), g, d, t + 1, os⟩ (fun vs s1 => KxsAt "ValueError.__init__" h1.objs.size e s1.heap ∧ wpAny (model prog w) A (call (.ref h1.objs.size) vs) (fun _ => Q .next) E s1) ⟨m, hns.keeps fun b o z => g2 b o (u1 b o z), rfl⟩
  rw [hst] at hargs'
  refine hargs' ⟨eu, ?_⟩
  have he2 := g2 _ _ he1
  have X2 : K.In (h1.push (kxs_mw "ValueError.__init__" e)) := M0.kin.keeps fun b o z => g2 b o (k1 b o z)
  refine wpAny_call (codeAny_of_tree ?_)
  show wpAny _ A.in1 (callAny (.ref h1.objs.size) ⟨us, []⟩) _ _ _
  simp only [callAny]; apply wpAny_bind; refine wpAny_load eu ?_
  simp only [kxs_mw, show (Value.type "method-wrapper" == Value.type "method" || Value.type "method-wrapper" == Value.type "builtin_function_or_method" || Value.type "method-wrapper" == Value.type "method-wrapper") = true by decide, if_true]
  refine KFB.if_so (by decide) (wpAny_bind (check_bound_init F.excBase_ValueError.toExcCallFacts (X2 _ _ hC0) he2 rfl (wpAny_bind (wpAny_pure (wpAny_pure ⟨plainId_quiet F.excBase_ValueError.init.plain _, codeAny_builtin F.excBase_ValueError.initEntry ?_⟩)))))
  refine exc_init_tree (cls := .ref C) (t0 := t0) (dv := Option.none) (c2 := .none) (c3 := .none) (b4 := .bool false) he2 hl fun h' z1 z2 z3 => ?_
  exact hq h' _ _ (fun b o nb z => z1 b o nb (g2 b o (u1 b o z))) z2
end
end SupY
namespace SupY
open PySem PySem.Spec PyProof.Rows PySem.W PySem.Calls
section
variable {prog : Program} {w : World} {A : Around} {E : Value → Shared → Prop} {K : PySem.W.Frag} {hp : Heap} {g : Array GenState} {d : Drawn} {t : Nat} {os : OsState} {C L e t0 dx : Addr} {env : Env} {m m0 : Str → Option Value} {f sl : Str} {u : Value} {p1 p2 p3 p4 : Pos}
/-- self.f = f, the first one -/
theorem store_one {Q : Flow → Shared → Prop} (T : L2.OexC K C) (X : K.In hp) (hL : env.locals = L) (hk : env.scope.kind = .function) (k1 : env.kindOf f = some .local) (k2 : env.kindOf sl = some .local) (d1 : (f == ("__debug__" : Str)) = false) (d2 : (sl == ("__debug__" : Str)) = false) (he : hp.get? e = some (eo C t0 Option.none)) (hns : hp.Ns L m) (h1 : m f = some u) (h2 : m sl = some (.ref e))
    (hno : findIn K (.ref C) f = some Option.none) (hs : swapsWith (.Name f p3) (some (.Attribute (.Name sl p1) f p2)) p4.line env = pure false)
    (hq : ∀ (h' : Heap) (dx : Addr) (tk : Nat), But e hp h' → hp.objs.size ≤ dx → dx ≠ e → h'.get? e = some (eo C t0 (some dx)) → h'.Ns1 dx (fun y => if y = f then some u else Option.none) → Q .next ⟨h', g, d, tk, os⟩) :
    wpAny (model prog w) A (exec (.Assign [.Attribute (.Name sl p1) f p2] (.Name f p3) p4) env) Q E ⟨hp, g, d, t, os⟩ := by
  obtain ⟨nm, q, N, bs, bm, sn, sb, ab, col, dd, c0, c1, c2, c3, c5, hC0, hbm⟩ := T.cls
  have hcl : clsIn K C = some { name := nm, bases := bs, mro := .ref C :: bm, ns := N, qualname := q, hasDict := true, slotNames := sn, subclasses := sb, abstract := ab, collection := col, hasDel := false } := by unfold clsIn; rw [hC0] <;> rfl
  subst hL
  refine plainObj_wpAny_Assign_Attribute (ESX.ldL hns h1 (ESX.ldL hns h2 ?_ hk k2 d2) hk k1 d1) hs
  refine set_plain X (ox := eo C t0 Option.none) (od := Option.none) ⟨he, rfl, rfl, trivial⟩ T.sa ?_
  refine PySem.HandSPX.exc_osa X he hcl (show PySem.HandSPX.refsVE (.ref C :: bm) = true from hbm) rfl hno fun h' tk' dx z1 z2 z3 z4 z5 => ?_
  exact hq h' dx tk' z1 z2 z3 z4 z5
/-- .. a further one -/
theorem store_more {ns : List Str} {Q : Flow → Shared → Prop} (T : L2.OexC K C) (X : K.In hp) (hL : env.locals = L) (hk : env.scope.kind = .function) (k1 : env.kindOf f = some .local) (k2 : env.kindOf sl = some .local) (d1 : (f == ("__debug__" : Str)) = false) (d2 : (sl == ("__debug__" : Str)) = false) (he : hp.get? e = some (eo C t0 (some dx))) (hd : hp.Ns1 dx m0) (hw : Within m0 ns) (hz : ns.length ≤ 1000) (hns : hp.Ns L m) (h1 : m f = some u) (h2 : m sl = some (.ref e))
    (hno : findIn K (.ref C) f = some Option.none) (hs : swapsWith (.Name f p3) (some (.Attribute (.Name sl p1) f p2)) p4.line env = pure false)
    (hq : ∀ (h' : Heap) (tk : Nat), But dx hp h' → h'.Ns1 dx (fun y => if y = f then some u else m0 y) → Q .next ⟨h', g, d, tk, os⟩) :
    wpAny (model prog w) A (exec (.Assign [.Attribute (.Name sl p1) f p2] (.Name f p3) p4) env) Q E ⟨hp, g, d, t, os⟩ := by
  obtain ⟨nm, q, N, bs, bm, sn, sb, ab, col, dd, c0, c1, c2, c3, c5, hC0, hbm⟩ := T.cls
  have hcl : clsIn K C = some { name := nm, bases := bs, mro := .ref C :: bm, ns := N, qualname := q, hasDict := true, slotNames := sn, subclasses := sb, abstract := ab, collection := col, hasDel := false } := by unfold clsIn; rw [hC0] <;> rfl
  subst hL
  obtain ⟨oD, _, _, hoD, _, _⟩ := hd.count hw
  refine plainObj_wpAny_Assign_Attribute (ESX.ldL hns h1 (ESX.ldL hns h2 ?_ hk k2 d2) hk k1 d1) hs
  refine set_plain X (ox := eo C t0 (some dx)) (od := some oD) ⟨he, rfl, rfl, hoD⟩ T.sa ?_
  exact PySem.OEX.osa_old X he hd hw hz hcl (show PySem.HandSPX.refsVE (.ref C :: bm) = true from hbm) rfl hno fun h' tk' z1 z2 => hq h' tk' z1 z2
end
end SupY

set_option Elab.async false
set_option linter.all false
set_option maxRecDepth 100000
namespace SupY
open PySem PySem.Spec PyProof.Rows PySem.W PySem.Calls
/-- behind the __init__: the fields stand in the error's own dict -/
structure Done (K : PySem.W.Frag) (C e : Addr) (mA : Str → Option Value) (hp h' : Heap) : Prop where
  but : But e hp h'
  at_ : ∃ t1 dx, h'.get? e = some (eo C t1 (some dx)) ∧ hp.objs.size ≤ dx ∧ dx ≠ e ∧ h'.Ns1 dx mA
section
variable {prog : Program} {w : World} {A : Around} {K : PySem.W.Frag} {mg : Str → Option Value} {h0 hp : Heap} {g : Array GenState} {d : Drawn} {t : Nat} {os : OsState} {C fI cda cc e t0 : Addr} {qual : Str} {pr : Arguments} {scope : Scope} {R : Result → Shared → Prop} {dV kV doc pm ct oc : Value} {an od : Option Addr} {osl : Array (Option Value)}
/-- what is known of the function object -/
structure InitK (prog : Program) (K : PySem.W.Frag) (C fI cda cc : Addr) (fd : FuncData) (qual : Str) : Prop where
  lf : ∃ oc od osl, K.lookup fI = some ⟨oc, od, .func fd, osl⟩
  code : codeIn K (.ref cda) qual = true
  cell : ∃ cl cld csl, K.lookup cc = some ⟨cl, cld, .cell (some (.ref C)), csl⟩
  file : ∃ ccl cdd ccs vs file tf, K.lookup cda = some ⟨ccl, cdd, .fields vs, ccs⟩ ∧ vs[2]? = some (.str file tf) ∧ ((prog.main.file : Str) == file) = true
/-- what the class says -/
structure SupK (K : PySem.W.Frag) (mg : Str → Option Value) (C : Addr) : Prop where
  o : L2.OexC K C
  sup : ks_superIn K C C "__init__" = some (some (.builtin "ValueError.__init__"))
  sub : subIn K (.ref C) (.type "ValueError") = some true
  mro : mroIn K C (.ref C) = some true
  tp : nsIn K cStatics "thirdparty.any" = some Option.none
  ms : mg "super" = Option.none
theorem fresh_of {a : Addr} (n : h0.get? e = Option.none) (k : ∀ b o, h0.get? b = some o → hp.get? b = some o) {h' : Heap} (b : But e hp h') : ∀ c o, h0.get? c = some o → h'.get? c = some o := b.old k n
/-- def __init__(self, f): super().__init__(f); self.f = f -/
theorem init1 {f : Str} {u : Value} {p0 p1 p2 p3 p4 p5 p6 p7 p8 p9 : Pos} {pl : Env → Sem Bool} (M0 : L2.Mod K mg h0) (k0 : ∀ b o, h0.get? b = some o → hp.get? b = some o) (n0 : h0.get? e = Option.none) (S : SupK K mg C)
    (I : InitK prog K C fI cda cc (ksFn "__init__" qual pr [.Expr (.Call (.Attribute (.Call (.Name "super" p0) [] [] p1) "__init__" p2) [.Name f p3] [] p4) p5, .Assign [.Attribute (.Name "self" p6) f p7] (.Name f p8) p9] scope dV kV doc pm an (.ref cda) ct cc) qual)
    (hr : A.depth < recursionLimit) (he : hp.get? e = some (eo C t0 Option.none)) (hno : findIn K (.ref C) f = some Option.none)
    (hbind : ∀ s : Shared, BindsTo s (ksFn "__init__" qual pr [.Expr (.Call (.Attribute (.Call (.Name "super" p0) [] [] p1) "__init__" p2) [.Name f p3] [] p4) p5, .Assign [.Attribute (.Name "self" p6) f p7] (.Name f p8) p9] scope dV kV doc pm an (.ref cda) ct cc) ⟨[.ref e, u], []⟩ [("self", .ref e), (f, u)])
    (hpar : ((pr.posonlyargs ++ pr.args).head?).map (·.arg) = some "self") (hks : scope.names.lookup ("super" : Str) = some .globalImplicit) (hkc : scope.names.lookup ("__class__" : Str) = some .free) (hka : scope.names.lookup ("self" : Str) = some .local) (hkf : scope.names.lookup f = some .local) (hk : scope.kind = .function) (hco : scope.isCoroutine = false) (hgen : scope.isGenerator = false)
    (hcel : ∀ x ∈ scope.names, x.2 ≠ .cell) (htop : (prog.main.scope.names.lookup ("super" : Str)).isSome = false) (hfs : ("self" : Str) ≠ f) (hdb : (f == ("__debug__" : Str)) = false)
    (hev : ∀ L : Addr, eval (.Call (.Attribute (.Call (.Name "super" p0) [] [] p1) "__init__" p2) [.Name f p3] [] p4) (ksEnv qual scope L fI (.ref cda) cc) = (do
      let ov ← attributeBase (.Call (.Name "super" p0) [] [] p1) "__init__" (ksEnv qual scope L fI (.ref cda) cc) (eval (.Call (.Name "super" p0) [] [] p1) (ksEnv qual scope L fI (.ref cda) cc))
      standAt p2.atName
      let (z, first) ← holding [ov] (getMethod ov "__init__" (pl (ksEnv qual scope L fI (.ref cda) cc)))
      callWith p4 z first (backTo p4 (starEach [.Name f p3] (ksEnv qual scope L fI (.ref cda) cc))) []))
    (hst : ∀ L : Addr, starEach [.Name f p3] (ksEnv qual scope L fI (.ref cda) cc) = (false, eval (.Name f p3) (ksEnv qual scope L fI (.ref cda) cc)) :: starEach [] (ksEnv qual scope L fI (.ref cda) cc))
    (hi : ∀ L : Addr, interactive (ksEnv qual scope L fI (.ref cda) cc) = false) (hsw : ∀ L : Addr, swapsWith (.Call (.Attribute (.Call (.Name "super" p0) [] [] p1) "__init__" p2) [.Name f p3] [] p4) Option.none p5.line (ksEnv qual scope L fI (.ref cda) cc) = pure false)
    (hs2 : ∀ L : Addr, swapsWith (.Name f p8) (some (.Attribute (.Name "self" p6) f p7)) p9.line (ksEnv qual scope L fI (.ref cda) cc) = pure false)
    (hq : ∀ (h' : Heap) (tk : Nat), Done K C e (fun y => if y = f then some u else Option.none) hp h' → R (.ok (.ret .none)) ⟨h', g, d, tk, os⟩) :
    codeAny (model prog w) A (.call (.ref fI) ⟨[.ref e, u], []⟩) R ⟨hp, g, d, t, os⟩ := by
  obtain ⟨oc, od, osl, lf⟩ := I.lf
  obtain ⟨cl, cld, csl, lcc⟩ := I.cell
  obtain ⟨ccl, cdd, ccs, vs, file, tf, lc, hvs, hfile⟩ := I.file
  have X : K.In hp := M0.kin.keeps k0
  obtain ⟨ar, hp1, hp2⟩ := Option.map_eq_some_iff.mp hpar
  refine ks_codeAny_call_defAt hr (X _ _ lf) rfl (M0.nolimit.keeps k0) (codeRec_of X I.code) rfl (hbind _) hcel (fun x hx => ?_) (fun h1 hns k1 => ?_) hco hgen hk
  · rcases List.mem_cons.mp hx with z | z
    · rw [z]; exact hka
    · rcases List.mem_cons.mp z with z | z
      · rw [z]; exact hkf
      · cases z
  have hL : hp.objs.size ≠ e := Nat.ne_of_gt (Heap.lt_size he)
  have kk : ∀ b o, h0.get? b = some o → h1.get? b = some o := fun b o z => k1 b o (k0 b o z)
  have ms : (fun x => List.lookup x ([(("self" : Str), Value.ref e), (f, u)] : List (Str × Value)).reverse) ("self" : Str) = some (.ref e) := by
    have ne : (("self" : Str) == f) = false := by simpa using hfs
    show List.lookup ("self" : Str) [(f, u), (("self" : Str), Value.ref e)] = _
    simp [List.lookup, ne]
  have mf : (fun x => List.lookup x ([(("self" : Str), Value.ref e), (f, u)] : List (Str × Value)).reverse) f = some u := by
    show List.lookup f [(f, u), (("self" : Str), Value.ref e)] = _
    simp [List.lookup]
  show _root_.PySem.wpAt _ _ (.func _ (ksEnv qual scope hp.objs.size fI (.ref cda) cc)) (execs _ (ksEnv qual scope hp.objs.size fI (.ref cda) cc)) _ _ _
  refine ks_wpAt_execs_cons (super_stmt (e := e) (C := C) (t0 := t0) (ar := ar) (us := [u]) M0 kk n0 S.o S.sup S.sub S.mro S.tp S.ms lf hp1 lc hvs hfile lcc hks hkc (by rw [hp2]; exact hka) hk htop (k1 _ _ he) hns (by rw [hp2]; exact ms) hL ?_ (by show 1 ≤ sizeLine; rw [sizeLine_eq]; decide) (hev _) (hst _) rfl (hi _) (hsw _) fun h2 t1 tk b2 e2 => ?_)
  · intro s1 Q' ⟨m', hn', em⟩ q
    subst em
    rw [hst]
    exact Calls.spliced_cons (ESX.ldL hn' mf (Calls.spliced_nil q) hk hkf hdb)
  have nL2 : h2.Ns hp.objs.size (fun x => List.lookup x ([(("self" : Str), Value.ref e), (f, u)] : List (Str × Value)).reverse) := by
    obtain ⟨oL, es, ep, z, r⟩ := hns
    exact ⟨oL, es, ep, b2 _ _ hL z, r⟩
  refine ks_wpAt_execs_cons (wpAt_of_wpAny (store_one (C := C) (e := e) (t0 := t1) (m := fun x => List.lookup x ([(("self" : Str), Value.ref e), (f, u)] : List (Str × Value)).reverse) S.o (M0.kin.keeps (b2.old kk n0)) rfl hk hkf hka hdb (by decide) e2 nL2 mf ms hno (hs2 _) fun h3 dx tk3 b3 d1 d2 e3 n3 => ?_))
  show _root_.PySem.wpAt _ _ _ (execs [] _) _ _ _
  refine wpAt_of_wpAny (wpAny_execs_nil ?_)
  have b1 : But e hp h1 := fun b o _ z => k1 b o z
  refine hq h3 tk3 ⟨(b1.trans b2).trans b3, t1, dx, e3, Nat.le_trans ?_ d1, d2, n3⟩
  have l1 : hp.objs.size < h1.objs.size := hns.lt
  have l2 : hp.objs.size < h2.objs.size := nL2.lt
  exact Nat.le_of_lt l2
end
end SupY

set_option Elab.async false
set_option linter.all false
set_option maxRecDepth 100000
namespace SupY
open PySem PySem.Spec PyProof.Rows L2
section
variable {X : Cx} {pins : List (Addr × Obj)} {σ : L2.St} {H1 : Hp} {hp hp2 h' : Heap} {g : Array GenState} {d d2 : Drawn} {t t2 : Nat} {os : OsState} {C a : Addr} {fs : List (Str × V)} {mA : Str → Option Value} {Q : XK}
/-- the new error, let go: its dict stands as an error's dict -/
theorem done_at (I : Inv X pins σ H1 ⟨hp, g, d, t, os⟩) (ha : hp.objs.size ≤ a) (hz : hp.objs.size ≤ hp2.objs.size) (k : ∀ b o, hp.get? b = some o → hp2.get? b = some o) (D : Done X.K C a mA hp2 h') (r : ∀ f, RelO (fs.lookup f) (mA f)) :
    ∃ (t1 dx : Addr) (G : Heap), H1 dx = none ∧ Inv X pins σ (upd H1 dx (.xd fs)) ⟨G, g, d2, t2, os⟩ ∧ (∀ b o, G.get? b = some o → h'.get? b = some o) ∧ G.get? a = none ∧ h'.get? a = some (eo C t1 (some dx)) ∧ (upd H1 dx (.xd fs)) a = none := by
  obtain ⟨bt, t1, dx, e1, e2, e3, n3⟩ := D
  have n1 : H1 a = none := I.hok.fresh ha
  have nd : H1 dx = none := I.hok.fresh (Nat.le_trans hz e2)
  obtain ⟨G, g1, g2⟩ := restrict h' fun b => decide (b ≠ a)
  have gk : ∀ b, b ≠ a → G.get? b = h'.get? b := fun b hb => g1 b (decide_eq_true hb)
  have ge : G.get? a = none := g2 a (by simp)
  have na : ∀ {b : Addr} {o : Obj}, hp.get? b = some o → b ≠ a := fun {b o} z => Nat.ne_of_lt (Nat.lt_of_lt_of_le (Heap.lt_size z) ha)
  have ndx : ∀ {b : Addr} {o : Obj}, hp.get? b = some o → b ≠ dx := fun {b o} z => Nat.ne_of_lt (Nat.lt_of_lt_of_le (Heap.lt_size z) (Nat.le_trans hz e2))
  have kG : ∀ b o, hp.get? b = some o → G.get? b = some o := fun b o z => by
    rw [gk b (na z)]
    exact bt b o (na z) (k b o z)
  have U : Un X.fs [] H1 (upd H1 dx (.xd fs)) hp G :=
    ⟨fun b o z _ _ _ => kG b o z, fun b o z _ _ _ => ⟨o.slots, kG b o z⟩, fun b o z n _ => by rw [upd_ne (ndx z)]; exact n, fun b o z _ => ⟨o, kG b o z⟩, fun b xs z => by rw [upd_ne (ne_of_none z nd)]; exact z,
      fun b o v z => by rw [upd_ne (ne_of_none z nd)]; exact z, fun b ps z => ⟨#[], by rw [upd_ne (ne_of_none z nd), z]; simp⟩⟩
  have J : Inv X pins σ (upd H1 dx (.xd fs)) ⟨G, g, d, t2, os⟩ := I.un (t' := t2) U fun b o z => by
    by_cases hb : b = dx
    · subst hb
      rw [upd_same] at z
      cases z
      exact ⟨mA, n3.at fun o y => (gk _ e3).trans y, r⟩
    · rw [upd_ne hb] at z
      exact (I.hok b o z).stay (fun c v _ y => kG c v y) (fun c hc => by rw [upd_ne (ne_of_none hc nd)]; exact hc) (fun c xs hc => by rw [upd_ne (ne_of_none hc nd)]; exact hc)
  have J2 : Inv X pins σ (upd H1 dx (.xd fs)) ⟨G, g, d2, t2, os⟩ := ⟨J.ok, J.os, J.bare, J.base, J.loc, J.cell, J.free, J.freeC, J.pin, J.hok, J.len⟩
  refine ⟨t1, dx, G, nd, J2, fun b o z => ?_, ge, e1, ?_⟩
  · by_cases hb : b = a
    · rw [hb, ge] at z; cases z
    · exact (gk b hb).symm.trans z
  · rw [upd_ne (Ne.symm e3)]; exact n1
/-- what C(e) is asked: the error's dict holds its field -/
def tErr (C : Addr) (f : Str) (te : TE) : L2.St → Hp → XK → Prop := fun σ H Q => te σ H fun v H1 => ∀ dx, H1 dx = none → Q (.ref C) (some dx) (upd H1 dx (.xd [(f, v)]))
/-- the call of such a class, up to its end -/
theorem call_sup {e1 : Expr} {te : TE} {x : Str} {fI : Addr} {p pos : Pos} {f : Str} {s : Shared} {H : Hp} {Post : V → Value → Shared → Prop} (S : SupK X.K X.mg C) (iC : PySem.W.findIn X.K (.ref C) "__init__" = some (some (.ref fI))) (tI : PySem.W.typeIn X.K (.ref fI) = some (.type "function"))
    (hg : Gl X x) (hm : X.mg x = some (.ref C)) (hdb : (x == ("__debug__" : Str)) = false) (he : PE X e1 te) (hst : starEach [e1] X.env = (false, eval e1 X.env) :: starEach [] X.env) (hpl : (backTo pos (starEach [] X.env)).any (·.1) = false) (I : Inv X pins σ H s)
    (hinit : ∀ (A' : Around) (h0 hq : Heap) (e : Addr) (t0 : Addr) (u : Value) (g : Array GenState) (d : Drawn) (t : Nat) (os : OsState) (R : Result → Shared → Prop), A'.depth < recursionLimit → L2.Mod X.K X.mg h0 → (∀ b o, h0.get? b = some o → hq.get? b = some o) → h0.get? e = none → hq.get? e = some (eo C t0 none) →
      (∀ (h' : Heap) (tk : Nat), Done X.K C e (fun y => if y = f then some u else none) hq h' → R (.ok (.ret .none)) ⟨h', g, d, tk, os⟩) → codeAny (model X.prog X.w) A' (.call (.ref fI) ⟨[.ref e, u], []⟩) R ⟨hq, g, d, t, os⟩)
    (hr : ∀ us, (X.A.under (.builtin "type.__call__" ⟨.ref C :: us, []⟩)).depth < recursionLimit) {Q : VK} (h : te σ H Q)
    (fin : ∀ (v : V) (u : Value) (H1 : Hp) (hp : Heap) (g : Array GenState) (d : Drawn) (t : Nat) (os : OsState) (h' : Heap) (tk : Nat), Inv X pins σ H1 ⟨hp, g, d, t, os⟩ → RelV v u → Q v H1 →
      Done X.K C (hp.objs.size + 1) (fun y => if y = f then some u else none) ((hp.push (PySem.W.kdv_tup [u])).push (PySem.HandSPX.excO C hp.objs.size)) h' → Post v (.ref (hp.objs.size + 1)) ⟨h', g, d, tk, os⟩) :
    wpAny (model X.prog X.w) X.A (eval (.Call (.Name x p) [e1] [] pos) X.env) (fun u s' => ∃ v, Post v u s') X.xe s := by
  obtain ⟨nm, q, N, bs, bm, sn, sub, ab, col, dd, k0, k1, k2, k3, k5, hC, hbm⟩ := S.o.cls
  have ha : PA X [e1] (tCons te tNil) := pa_cons he pa_nil hst
  refine wpAny_Call_Name_kw (ld_glob I hg hm ?_ hdb)
  refine PySem.W.callWith_K (h₀ := X.base) I.ok.mod.kin S.o.kC (thn (ha.run pos pins s σ H (fun vs H1 => match vs with | [v] => Q v H1 | _ => False) I (show te σ H fun v H1 => Q v H1 from h)) fun us s1 hh => ?_) hst hpl
  obtain ⟨vs, H1, I1, r1, q1⟩ := hh
  match vs, r1, q1 with
  | [], _, q1 => exact q1.elim
  | _ :: _ :: _, _, q1 => exact q1.elim
  | [v], r1, q1 =>
    refine ⟨I1.kIn, ?_⟩
    cases r1 with
    | @cons _ u _ ur ra rn =>
      cases rn
      show wpAny _ _ (call (.ref C) [u]) _ _ _
      obtain ⟨hp, g, dr, tk, os⟩ := s1
      have kk : ∀ b o, hp.get? b = some o → ((hp.push (PySem.W.kdv_tup [u])).push (PySem.HandSPX.excO C hp.objs.size)).get? b = some o := fun b o z => Heap.get?_push_of_some _ (Heap.get?_push_of_some _ z)
      have hget : ((hp.push (PySem.W.kdv_tup [u])).push (PySem.HandSPX.excO C hp.objs.size)).get? (hp.objs.size + 1) = some (PySem.HandSPX.excO C hp.objs.size) := by heap_get
      have n0 : X.base.get? (hp.objs.size + 1) = none := by
        cases z : X.base.get? (hp.objs.size + 1) with
        | none => rfl
        | some o =>
          have := Heap.lt_size (I1.bk _ _ z)
          exact absurd this (by show ¬ hp.objs.size + 1 < hp.objs.size; omega)
      refine wpAny_call (PySem.HandSPX.call_own F.excBase_ValueError (fun Y => PySem.HandSPX.refsVE_contains Y bm hbm) (I1.kIn _ _ hC) (PySem.W.looks_findIn I1.kIn iC) (fun self => PySem.W.bind_fn I1.kIn self tI) (by show 1 ≤ sizeLine; rw [sizeLine_eq]; decide) ?_)
      refine hinit _ X.base _ (hp.objs.size + 1) hp.objs.size u g dr tk os _ (hr [u]) I1.ok.mod (fun b o z => kk b o (I1.bk b o z)) n0 hget fun h' tk' D => ?_
      exact ⟨rfl, v, fin v u H1 hp g dr tk os h' tk' I1 ra q1 D⟩
end
end SupY
namespace SupY
open PySem PySem.Spec PyProof.Rows L2
section
variable {X : Cx} {C : Addr} {e1 : Expr} {te : TE} {x : Str} {fI : Addr} {p pos : Pos} {f : Str}
/-- what is known of the __init__ of such a class (one field) -/
def Init1 (X : Cx) (C fI : Addr) (f : Str) : Prop := ∀ (A' : Around) (h0 hq : Heap) (e : Addr) (t0 : Addr) (u : Value) (g : Array GenState) (d : Drawn) (t : Nat) (os : OsState) (R : Result → Shared → Prop), A'.depth < recursionLimit → L2.Mod X.K X.mg h0 → (∀ b o, h0.get? b = some o → hq.get? b = some o) → h0.get? e = none → hq.get? e = some (eo C t0 none) →
  (∀ (h' : Heap) (tk : Nat), Done X.K C e (fun y => if y = f then some u else none) hq h' → R (.ok (.ret .none)) ⟨h', g, d, tk, os⟩) → codeAny (model X.prog X.w) A' (.call (.ref fI) ⟨[.ref e, u], []⟩) R ⟨hq, g, d, t, os⟩
theorem rel1 {v : V} {u : Value} (r : RelV v u) : ∀ z : Str, RelO (([(f, v)] : List (Str × V)).lookup z) (if z = f then some u else none) := relO_put (fs := []) r fun g => True.intro
theorem pmk_sup (S : SupK X.K X.mg C) (iC : PySem.W.findIn X.K (.ref C) "__init__" = some (some (.ref fI))) (tI : PySem.W.typeIn X.K (.ref fI) = some (.type "function")) (hin : Init1 X C fI f) (hr : ∀ us, (X.A.under (.builtin "type.__call__" ⟨.ref C :: us, []⟩)).depth < recursionLimit)
    (hg : Gl X x) (hm : X.mg x = some (.ref C)) (he : PE X e1 te) (hdb : (x == ("__debug__" : Str)) = false) (hst : starEach [e1] X.env = (false, eval e1 X.env) :: starEach [] X.env) (hpl : (backTo pos (starEach [] X.env)).any (·.1) = false) : PMk X (.Call (.Name x p) [e1] [] pos) (tErr C f te) := by
  intro pins s σ H Q I h
  refine wpAny_mono (call_sup (Post := fun v u s' => MkP X pins σ Q u s') S iC tI hg hm hdb he hst hpl I hin hr h fun v u H1 hp g d t os h' tk I1 ra q D => ?_) (fun u s' ⟨v, z⟩ => z) fun _ _ z => z
  have sz : hp.objs.size ≤ ((hp.push (PySem.W.kdv_tup [u])).push (PySem.HandSPX.excO C hp.objs.size)).objs.size := by rw [Heap.size_push, Heap.size_push]; omega
  obtain ⟨t1, dx, G, nd, J, kG, ge, hoe, na⟩ := done_at (d2 := d) (t2 := tk) I1 (Nat.le_succ _) sz (fun b o z => Heap.get?_push_of_some _ (Heap.get?_push_of_some _ z)) D (rel1 ra)
  exact ⟨_, _, _, ⟨G, g, d, tk, os⟩, _, .ref C, some dx, rfl, J, kG, ge, hoe, ⟨rfl, rfl⟩, rfl, rfl, na, rfl, J.bare, raises_own S.o.exC S.o.tyC, q dx nd⟩
theorem pmkN_sup (S : SupK X.K X.mg C) (iC : PySem.W.findIn X.K (.ref C) "__init__" = some (some (.ref fI))) (tI : PySem.W.typeIn X.K (.ref fI) = some (.type "function")) (hin : Init1 X C fI f) (hr : ∀ us, (X.A.under (.builtin "type.__call__" ⟨.ref C :: us, []⟩)).depth < recursionLimit)
    (hg : Gl X x) (hm : X.mg x = some (.ref C)) (he : PE X e1 te) (hdb : (x == ("__debug__" : Str)) = false) (hst : starEach [e1] X.env = (false, eval e1 X.env) :: starEach [] X.env) (hpl : (backTo pos (starEach [] X.env)).any (·.1) = false) : L2N.PMk X (.Call (.Name x p) [e1] [] pos) (tErr C f te) := by
  intro pins s σ H Q I h
  refine wpAny_mono (call_sup (Post := fun v u s' => L2N.MkP X pins σ Q u s') S iC tI hg hm hdb he hst hpl I hin hr h fun v u H1 hp g d t os h' tk I1 ra q D => ?_) (fun u s' ⟨v, z⟩ => z) fun _ _ z => z
  have sz : hp.objs.size ≤ ((hp.push (PySem.W.kdv_tup [u])).push (PySem.HandSPX.excO C hp.objs.size)).objs.size := by rw [Heap.size_push, Heap.size_push]; omega
  obtain ⟨t1, dx, G, nd, J, kG, ge, hoe, na⟩ := done_at (d2 := d) (t2 := tk) I1 (Nat.le_succ _) sz (fun b o z => Heap.get?_push_of_some _ (Heap.get?_push_of_some _ z)) D (rel1 ra)
  exact ⟨_, _, _, ⟨G, g, d, tk, os⟩, _, .ref C, some dx, rfl, J, kG, ge, hoe, ⟨rfl, rfl, fun vs e => by cases e; rfl⟩, rfl, rfl, na, rfl, J.bare, raises_own S.o.exC S.o.tyC, q dx nd⟩
end
end SupY

set_option Elab.async false
set_option linter.all false
set_option maxRecDepth 100000
/-! raise X() from e, in the suite of except C as e -/
namespace FromY
open PySem PySem.Spec PyProof.Rows HotX
/-- the heap behind «from e»: field 3 is the cause, field 4 is True -/
def from1 (h : Heap) (a x1 : Addr) : Heap := (h.update a (Obj.mapFields (·.setIfInBounds 3 (.ref x1)))).update a (Obj.mapFields (·.setIfInBounds 4 (.bool true)))
theorem from1_at {h : Heap} {a x1 : Addr} {oe : Obj} {vs : Array Value} (ha : h.get? a = some oe) (hd : oe.data = .fields vs) :
    (from1 h a x1).get? a = some ((oe.mapFields (·.setIfInBounds 3 (.ref x1))).mapFields (·.setIfInBounds 4 (.bool true))) ∧ ((oe.mapFields (·.setIfInBounds 3 (.ref x1))).mapFields (·.setIfInBounds 4 (.bool true))).data = .fields ((vs.setIfInBounds 3 (.ref x1)).setIfInBounds 4 (.bool true)) := by
  have d3 := Obj.data_mapFields hd (·.setIfInBounds 3 (.ref x1))
  have a3 := Heap.get?_update_self (Obj.mapFields (·.setIfInBounds 3 (.ref x1))) ha (Obj.isFreed_of_fields d3)
  have d4 := Obj.data_mapFields d3 (·.setIfInBounds 4 (.bool true))
  exact ⟨Heap.get?_update_self (Obj.mapFields (·.setIfInBounds 4 (.bool true))) a3 (Obj.isFreed_of_fields d4), d4⟩
theorem from1_other {h : Heap} {a b x1 : Addr} (hne : a ≠ b) : (from1 h a x1).get? b = h.get? b := by
  unfold from1
  rw [Heap.get?_update_other _ _ hne]; exact Heap.get?_update_other _ _ hne
theorem made_from {prog : Program} {w : World} {A : Around} {E : Value → Shared → Prop} {env : Env} {s : Shared} {x c : Sem Value} {Q : Flow → Shared → Prop} {x1 : Addr}
    (h : wpAny (model prog w) A x (fun v s₁ => ∃ a oe vs cls o1 v1, v = .ref a ∧ s₁.heap.get? a = some oe ∧ oe.cls = cls ∧ oe.data = .fields vs ∧ vs[1]? = some .none ∧ 4 < vs.size ∧ x1 ≠ a ∧ HotAt A x1 s₁.heap ∧ s₁.heap.get? x1 = some o1 ∧ o1.data = .fields v1 ∧
      PySem.W.Looks (model prog w) s₁.heap (isSubtype o1.cls (.type "BaseException")) true ∧ PySem.W.Looks (model prog w) s₁.heap (isSubtype cls (.type "BaseException")) true ∧ PySem.W.Looks (model prog w) (from1 s₁.heap a x1) (typeOf cls) (.type "type") ∧
      (∀ Q' : Value → Shared → Prop, Q' (.ref x1) s₁ → wpAny (model prog w) A c Q' E s₁) ∧ E (.ref a) { s₁ with heap := (from1 s₁.heap a x1).update a (Obj.mapFields (·.setIfInBounds 2 (.ref x1))) }) E s) :
    wpAny (model prog w) A (raiseStmt env (some x) (some c)) Q E s := by
  unfold raiseStmt; dsimp only
  refine wpAny_bind (wpAny_mono h (fun v s₁ h₁ => ?_) fun _ _ z => z)
  obtain ⟨a, oe, vs, cls, o1, v1, rfl, ha, hcls, hd, h1, hi, hne, hot, hx1, hd1, L0, L1, L3, hcs, hE⟩ := h₁
  have LT : PySem.W.Looks (model prog w) s₁.heap (typeOf (.ref a)) cls := fun A Q E s k q => wpAny_typeOf_ref (k _ _ ha) (by rw [hcls]; exact q)
  have LI : PySem.W.Looks (model prog w) s₁.heap (isInstance (.ref a) (.type "BaseException")) true := LT.andThen L1
  have LT1 : PySem.W.Looks (model prog w) s₁.heap (typeOf (.ref x1)) o1.cls := fun A Q E s k q => wpAny_typeOf_ref (k _ _ hx1) q
  have LI1 : PySem.W.Looks (model prog w) s₁.heap (isInstance (.ref x1) (.type "BaseException")) true := LT1.andThen L0
  have nty : ∀ {b : Addr} {ob : Obj} {us : Array Value} {hh : Heap} {Q' : Bool → Shared → Prop}, hh.get? b = some ob → ob.data = .fields us → Q' false { s₁ with heap := hh } → wpAny (model prog w) A (isType (.ref b)) Q' E { s₁ with heap := hh } := by
    intro b ob us hh Q' e1 e2 hq
    simp only [isType, loadHead]
    refine wpAny_bind (wpAny_loadPart e1 ?_)
    rw [e2]; exact wpAny_pure hq
  have d3 := Obj.data_mapFields hd (·.setIfInBounds 3 (.ref x1))
  have a3 := Heap.get?_update_self (Obj.mapFields (·.setIfInBounds 3 (.ref x1))) ha (Obj.isFreed_of_fields d3)
  obtain ⟨ha4, hd4⟩ := from1_at (x1 := x1) ha hd
  have s3 : 3 < vs.size := by omega
  have s4 : 4 < (vs.setIfInBounds 3 (Value.ref x1)).size := by rw [set_size]; exact hi
  have s2 : 2 < ((vs.setIfInBounds 3 (Value.ref x1)).setIfInBounds 4 (Value.bool true)).size := by rw [set_size, set_size]; omega
  have h14 : ((vs.setIfInBounds 3 (Value.ref x1)).setIfInBounds 4 (Value.bool true))[1]? = some Value.none := set_other (by decide) (set_other (by decide) h1)
  have hcls4 : ((oe.mapFields (·.setIfInBounds 3 (.ref x1))).mapFields (·.setIfInBounds 4 (.bool true))).cls = cls := by rw [Obj.cls_mapFields, Obj.cls_mapFields]; exact hcls
  have LT4 : PySem.W.Looks (model prog w) (from1 s₁.heap a x1) (typeOf (.ref a)) cls := fun A Q E s k q => wpAny_typeOf_ref (k _ _ ha4) (by rw [hcls4]; exact q)
  have hot4 : HotAt A x1 (from1 s₁.heap a x1) := by
    obtain ⟨q1, o, vs', q2, q3, q4⟩ := hot
    exact ⟨q1, o, vs', by rw [from1_other (Ne.symm hne)]; exact q2, q3, q4⟩
  have rest : wpAny (model prog w) A (do
      let b ← isType (.ref a)
      if b = true then do
        let e ← holding [.ref a] (raisedFor (.ref a) (.ref a))
        setFlight e none
        raiseNew e
      else do
        let e ← raisedInstance (.ref a)
        setFlight e none
        raiseNew e : Sem Flow) Q E { s₁ with heap := from1 s₁.heap a x1 } := by
    refine wpAny_bind (nty ha4 hd4 ?_)
    simp only [Bool.false_eq_true, if_false]
    unfold raisedInstance
    refine wpAny_bind (wpAny_bind (LT4.here (wpAny_bind (L3.here ?_))))
    rw [if_pos (beq_self_eq_true _)]; refine wpAny_pure ?_
    unfold setFlight
    refine wpAny_bind (wpAny_bind (wpAny_field ha4 hd4 h14 ?_))
    rw [if_neg (by decide)]; refine wpAny_pure ?_
    exact raiseNew_hot hot4 hne ha4 hd4 s2 hE
  refine wpAny_bind (wpAny_holding (hcs _ (wpAny_bind (wpAny_pure ?_)))); dsimp only
  refine wpAny_bind (wpAny_holding ?_); unfold excFromValue isExcClass
  refine wpAny_bind (wpAny_bind (nty ha hd ?_)); simp only [Bool.false_eq_true, if_false]
  refine wpAny_pure ?_; simp only [Bool.false_eq_true, if_false]
  refine wpAny_bind (LI.here ?_); simp only [if_true]
  refine wpAny_pure ?_
  have nn : ¬ ((Value.ref x1 == Value.none) = true) := by simp
  first
  | rw [if_neg nn]
  | (show wpAny _ _ (if (Value.ref x1 == Value.none) = true then _ else _) _ _ _; rw [if_neg nn])
  | simp only [nn, if_false]
  have tail : wpAny (model prog w) A (do
      setField (.ref a) 3 (.ref x1)
      setField (.ref a) 4 (.bool true)
      let b ← isType (.ref a)
      if b = true then do
        let e ← holding [.ref a] (raisedFor (.ref a) (.ref a))
        setFlight e none
        raiseNew e
      else do
        let e ← raisedInstance (.ref a)
        setFlight e none
        raiseNew e : Sem Flow) Q E s₁ := wpAny_bind (wpAny_setField ha hd s3 (wpAny_bind (wpAny_setField a3 d3 s4 rest)))
  refine wpAny_bind (wpAny_holding (wpAny_bind (wpAny_bind (nty hx1 hd1 ?_)))); simp only [Bool.false_eq_true, if_false]
  refine wpAny_pure ?_; simp only [Bool.false_eq_true, if_false]
  refine wpAny_bind (LI1.here ?_); simp only [if_true]
  exact wpAny_pure tail
end FromY
namespace FromY
open PySem PySem.Spec PyProof.Rows L2 HotX
section
variable {X : Cx} {pins : List (Addr × Obj)} {σ : L2.St} {H : Hp} {s sI : Shared}
theorem inv_as {s1 : Shared} (I : Inv X pins σ H sI) (k : ∀ b o, sI.heap.get? b = some o → s1.heap.get? b = some o) (ho : s1.os = sI.os) (hb : AllBare s1.gens) : Inv X pins σ H s1 := by
  have J := I.kept (h' := s1.heap) (t' := s1.toks) k
  exact ⟨J.ok, ho.trans I.os, hb, J.base, J.loc, J.cell, J.free, J.freeC, J.pin, J.hok, J.len⟩
/-- a name of the def is read: nothing changes -/
theorem read_var {i : Nat} {x : Str} {pos : Pos} {a : Addr} {Q : Value → Shared → Prop} {E : Value → Shared → Prop} {A : Around} {M : Model} (I : Inv X pins σ H s) (hN : X.N[i]? = some x) (hv : Vis X.env.scope x) (hd : (x == ("__debug__" : Str)) = false) (hcd : (x == ("__classdict__" : Str)) = false) (e : σ[i]? = some (some (.ref a))) (q : Q (.ref a) s) : wpAny M A (eval (.Name x pos) X.env) Q E s := by
  obtain ⟨m, hn, hl⟩ := I.loc
  obtain ⟨u, r, l⟩ := hl i x _ hN e hv
  obtain rfl : u = Value.ref a := r
  rcases l with ⟨hk, hm⟩ | ⟨hk | hk, c, hc, hcell⟩
  · exact wpAny_Name (wpAny_loadName_local I.ok.kind hk hn hm q) hd
  · exact wpAny_Name (wpAny_loadName_cell I.ok.kind hk hc hcell q) hd
  · exact wpAny_Name (wpAny_loadName_free I.ok.kind hk hc hcell q hcd) hd
end
/-- raise X() from n, where n is the error that is handled -/
theorem ps_raise_from {X : Cx} {W : WX} {e : Expr} {t : L2.St → Hp → XK → Prop} {i : Nat} {n : Str} {np pos : Pos} {a : Addr} {oe : Obj} {cls : Value} (hp : L2H.Hot1 X.A (a, oe)) (hm : (a, oe) ∈ X.pn) (hc : oe.cls = cls) (rc : Raises X cls) (tk : L2.Takes X W) (he : L2H.PMk5 X e t) (hN : X.N[i]? = some n) (hv : Vis X.env.scope n) (hd : (n == ("__debug__" : Str)) = false) (hcd : (n == ("__classdict__" : Str)) = false)
    (hk : ∀ σ H Q, t σ H Q → σ[i]? = some (some (.ref a))) : PS X (.Raise (some e) (some (.Name n np)) pos) (fun _ σ H => t σ H fun cls d H' => W cls d σ H') := by
  refine ⟨fun pins s σ H D I h => ?_⟩
  obtain ⟨hh, v1, e1, c1⟩ := hp
  have hh : X.A.handled = some (.ref a) := hh
  have e1 : oe.data = .fields v1 := e1
  show wpAny _ _ (do standAt pos; raiseStmt X.env (some (do let v ← eval e X.env; standAt pos; pure v)) (some (do let v ← eval (.Name n np) X.env; standAt pos; pure v))) _ _ _
  refine wpAny_bind (wpAny_standAt (made_from (x1 := a) (wpAny_bind (wpAny_mono (he pins s σ H _ I h) (fun u s1 hu => wpAny_bind (wpAny_standAt (wpAny_pure ?_))) fun _ _ z => z))))
  obtain ⟨⟨b, ob, vs, sI, H', cl, d, rfl, J, k, hne, hb, hz, hdt, h1, na, os, ag, r, q⟩, h5⟩ := hu
  have hi : 4 < vs.size := h5 b ob vs rfl hb hdt
  have other : ∀ c o, sI.heap.get? c = some o → b ≠ c := fun c o z y => by rw [← y, hne] at z; cases z
  have k4 : ∀ c u, sI.heap.get? c = some u → (from1 s1.heap b a).get? c = some u := fun c u z => by
    rw [from1_other (other c u z)]
    exact k c u z
  obtain ⟨r1, _⟩ := r (model X.prog X.w) s1.heap (J.kIn.keeps k)
  obtain ⟨_, r2⟩ := r (model X.prog X.w) (from1 s1.heap b a) (J.kIn.keeps k4)
  obtain ⟨r3, _⟩ := rc (model X.prog X.w) s1.heap (J.kIn.keeps k)
  have P1 := (J.pin (a, oe) (List.mem_append_left _ hm)).1
  have P2 : s1.heap.get? a = some oe := k _ _ P1
  have nab : a ≠ b := (other a oe P1).symm
  obtain ⟨ha4, hd4⟩ := from1_at (x1 := a) hb hdt
  have h12 : (((vs.setIfInBounds 3 (Value.ref a)).setIfInBounds 4 (Value.bool true)).setIfInBounds 2 (Value.ref a))[1]? = some Value.none := set_other (by decide) (set_other (by decide) (set_other (by decide) h1))
  refine ⟨b, ob, vs, cl, oe, v1, rfl, hb, hz.1, hdt, h1, hi, nab, ⟨hh, oe, v1, P2, e1, c1⟩, P2, e1, by rw [hc]; exact r3, r1, r2, fun Q' q' => wpAny_bind (read_var (inv_as J k os ag) hN hv hd hcd (hk σ H _ h) (wpAny_bind (wpAny_standAt (wpAny_pure q')))), tk _ _ (XE.new J (fun c u z => ?_) hne (Heap.get?_update_self _ ha4 (Obj.isFreed_of_fields (Obj.data_mapFields hd4 _)))
    ⟨by rw [Obj.cls_mapFields, Obj.cls_mapFields, Obj.cls_mapFields]; exact hz.1, by rw [HandSPX.dict_mapFields, HandSPX.dict_mapFields, HandSPX.dict_mapFields]; exact hz.2.1⟩ (Obj.data_mapFields hd4 _) h12 na os ag q)⟩
  show ((from1 s1.heap b a).update b (Obj.mapFields (·.setIfInBounds 2 (.ref a)))).get? c = some u
  rw [Heap.get?_update_other _ _ (other c u z)]
  exact k4 c u z
end FromY

set_option Elab.async false
set_option linter.all false
set_option maxRecDepth 100000
/-! try: body except C as n: suite, where the suite ends by an error of its own -/
namespace FromY
open PySem PySem.Spec PyProof.Rows L2 HotX
/-- no end but an error -/
abbrev endX : Ends := { nx := fun _ _ => False, rt := fun _ _ => False }
/-- the suite's context: what leaves it is noted, the name is unbound, then it is passed on -/
abbrev xeS (X : Cx) (n : Str) (a : Addr) (pos : Pos) : Value → Shared → Prop := fun x s₃ =>
  wpAny (model X.prog X.w) (X.A.mark (some (.ref a))) (noteFrame x X.env) (fun _ s₄ => wpAny (model X.prog X.w) (X.A.mark (some (.ref a))) (do bindName X.env n .none; unbindBehindTheSuite X.env n pos)
    (fun _ s₅ => wpAny (model X.prog X.w) (X.A.mark (some (.ref a))) (passOn "try.except-as" x X.env : Sem Flow) (fun _ _ => False) (notedBy (model X.prog X.w) (X.A.mark (some (.ref a))) X.env (cameBackBy (model X.prog X.w) X.A X.env X.xe)) s₅)
    (fun y s₅ => wpAny (model X.prog X.w) (X.A.mark (some (.ref a))) (setFlight x none) (fun _ s₆ => notedBy (model X.prog X.w) (X.A.mark (some (.ref a))) X.env (cameBackBy (model X.prog X.w) X.A X.env X.xe) y s₆) (notedBy (model X.prog X.w) (X.A.mark (some (.ref a))) X.env (cameBackBy (model X.prog X.w) X.A X.env X.xe)) s₅) s₄)
    (notedBy (model X.prog X.w) (X.A.mark (some (.ref a))) X.env (cameBackBy (model X.prog X.w) X.A X.env X.xe)) s₃
abbrev suiteF (X : Cx) (n : Str) (a : Addr) (pos : Pos) (pn : List (Addr × Obj)) : Cx := { X with A := X.A.mark (some (.ref a)), calm := false, pn := pn, xe := xeS X n a pos }
section
variable {X : Cx} {pins : List (Addr × Obj)} {σ : L2.St} {H : Hp} {s sI : Shared} {n : Str} {a : Addr} {pos : Pos}
theorem suiteF_of {pn pn' : List (Addr × Obj)} (I : Inv (X.suite a pn) pn' σ H s) : Inv (suiteF X n a pos pn) pn' σ H s := Inv.unwish (X := suiteF X n a pos pn) (E := fun _ _ => False) I
theorem unsuiteF {q : Addr × Obj} {pn' : List (Addr × Obj)} (I : Inv (suiteF X n a pos (q :: (X.pn ++ pins))) pn' σ H s) (ok : X.Ok) : Inv X pins σ H s :=
  Inv.unsuite (X := X) (a := a) (q := q) (pn' := pn') (show Inv (X.suite a (q :: (X.pn ++ pins))) pn' σ H s from I.wish fun _ _ => False) ok
/-- the frame's dict is written: the state without the error -/
theorem inv_less {G : Heap} {i : Nat} {m : Str → Option Value} {v : Option Value} (I : Inv X pins σ H sI) (J : Inv X pins σ H s) (hN : X.N.Nodup) (hi : X.N[i]? = some n) (up : sI.heap.UpToSlots s.heap)
    (hm : s.heap.Ns X.env.locals m) (hlk : ∀ (j : Nat) (x : Str) (w : V), X.N[j]? = some x → σ[j]? = some (some w) → Vis X.env.scope x → ∃ u, RelV w u ∧ Look X.env s.heap m x u) (hG : ∀ b, b ≠ X.env.locals → G.get? b = sI.heap.get? b) (hn : G.Ns X.env.locals (fun x => if x = n then v else m x)) :
    Inv X pins (σ.set i none) H { sI with heap := G } := by
  have neL : ∀ b o, X.s_0.heap.get? b = some o → b ≠ X.env.locals := fun b o e => Nat.ne_of_lt (Nat.lt_of_lt_of_le (Heap.lt_size e) I.ok.above)
  have cellG : ∀ {y : Str} {c : Addr} {u : Option Value}, X.env.cells.lookup y = some c → sI.heap.IsCell c u → G.IsCell c u := fun {y c u} e w => by
    obtain ⟨o, z, d⟩ := w
    exact ⟨o, (hG c (I.cne y c e)).trans z, d⟩
  refine ⟨I.ok, I.os, I.bare, ⟨fun b o e n hb hx => ?_, fun b o e n hb hx => ?_, I.base.free, fun b o e hx => ?_, I.base.tups, I.base.frzs, I.base.tbls⟩, ⟨_, hn, fun j y w e1 e2 e3 => ?_⟩, fun y c e => ?_, I.free, I.freeC, fun p hp => ?_, fun b ob e => ?_, by simpa using I.len⟩
  · exact (hG b (neL b o e)).trans (I.base.keep b o e n hb hx)
  · obtain ⟨sl, z⟩ := I.base.slot b o e n hb hx
    exact ⟨sl, (hG b (neL b o e)).trans z⟩
  · obtain ⟨o', z⟩ := I.base.there b o e hx
    exact ⟨o', (hG b (neL b o e)).trans z⟩
  · by_cases hj : j = i
    · subst hj
      exfalso
      by_cases hlt : j < σ.length
      · rw [List.getElem?_set_self hlt] at e2; cases e2
      · rw [List.getElem?_eq_none (by simpa using hlt)] at e2; cases e2
    · rw [List.getElem?_set_ne (Ne.symm hj)] at e2
      obtain ⟨u, r, q⟩ := hlk j y w e1 e2 e3
      refine ⟨u, r, ?_⟩
      rcases q with ⟨k, z⟩ | ⟨k, c, e, z⟩
      · have ny : y ≠ n := fun e => hj (nodup_ix hN e1 (e ▸ hi))
        exact .inl ⟨k, (if_neg ny).trans z⟩
      · refine .inr ⟨k, c, e, ?_⟩
        obtain ⟨u2, o2, z2, d2⟩ := I.cell y c e
        obtain ⟨sl, z3⟩ := up c o2 z2 fun vs y => by rw [d2] at y; cases y
        obtain ⟨o, z, d⟩ := z
        rw [z3] at z
        cases z
        exact cellG e ⟨o2, z2, d⟩
  · obtain ⟨w, z⟩ := I.cell y c e
    exact ⟨w, cellG e z⟩
  · obtain ⟨e, n, ne, nf, d⟩ := I.pin p hp
    exact ⟨(hG p.1 ne).trans e, n, ne, nf, d⟩
  · refine (I.hok b ob e).stay (fun c w' hc q => (hG c ?_).trans q) (fun _ q => q) fun _ _ q => q
    intro z
    subst z
    rcases hc with hc | hc
    · rw [← hc, I.free] at e; cases e
    · rw [I.free] at hc; cases hc
end
end FromY
namespace FromY
open PySem PySem.Spec PyProof.Rows L2 HotX
section
variable {X : Cx} {pins : List (Addr × Obj)} {n x : Str} {a : Addr} {pos pos' np : Pos} {i : Nat} {Wout : WX} {c : Value} {tb : WX → TS} {ts : Addr → Value → Option Addr → TS} {body suite : List Stmt} {b₀ : Stmt}
theorem held_at {B h h' : Heap} {l : List Env} {e : Addr} {Z : Obj → Prop} {L : Addr} (hl : L ∈ frs l) (hd : HandSPX.HeldZ B l e Z L h) (hb : ∀ b, b ≠ L → h'.get? b = h.get? b) (hL : ∃ o, h'.get? L = some o ∧ ∀ vs, o.data ≠ .fields vs) : HandSPX.HeldZ B l e Z L h' := by
  obtain ⟨k1, k2, k3, oe, vs, T, oT, ts, e1, e2, e3, e4, e5, e6, e7, e8, e9⟩ := hd
  have noL : B.get? L = none := (k3.mem hl).1
  obtain ⟨_, oL, eL, dL⟩ := k3.mem hl
  have ff : ∀ l : List Env, h.FunFrames B l → h'.FunFrames B l := by
    intro l
    induction l with
    | nil => intro _; trivial
    | cons en l ih =>
      intro ⟨w1, ⟨L', o, w2, w3, w4, w5⟩, w6⟩
      refine ⟨w1, ?_, ih w6⟩
      by_cases z : L' = L
      · subst z
        obtain ⟨o', z1, z2⟩ := hL
        exact ⟨L', o', w2, w3, z1, z2⟩
      · exact ⟨L', o, w2, w3, (hb _ z).trans w4, w5⟩
  have ne : e ≠ L := fun z => by rw [← z, e1] at eL; cases eL; exact dL _ e3
  have nT : T ≠ L := fun z => by rw [← z, e7] at eL; cases eL; exact dL _ e8
  exact ⟨fun b o z => (hb b (fun y => by rw [y, noL] at z; cases z)).trans (k1 b o z), k2, ff l k3, oe, vs, T, oT, ts, (hb e ne).trans e1, e2, e3, e4, e5, e6, (hb T nT).trans e7, e8, e9⟩
theorem takes_suite (ok : X.Ok) (hs : X.stack = X.env :: X.outer) (hf : X.env.frame = some X.env.locals) (hN : X.N.Nodup) (hi : X.N[i]? = some n) (hln : X.env.kindOf n = some .local) (tk : L2.Takes X Wout) (hpa : PassesOwnAt (model X.prog X.w) (X.A.mark (some (.ref a))) X.A X.env X.xe) {q : Addr × Obj} :
    L2.Takes (suiteF X n a pos (q :: (X.pn ++ pins))) fun cls d σ H => Wout cls d (σ.set i none) H := by
  intro u s' ⟨e, B, sI, pn, σ, H, cls, d, eu, I', nb, up, sky, na, os, ag, w⟩
  subst eu
  have I : Inv X pins σ H sI := unsuiteF I' ok
  have hfr : (X.A.mark (some (.ref a))).frames = some (X.env :: X.outer) := by
    have := ok.frames
    rw [hs] at this
    exact this
  have sky' : Sky B (X.env :: X.outer) e (Zc cls d) X.env.locals s'.heap := by rw [← hs]; exact sky
  have mem : X.env.locals ∈ frs (X.env :: X.outer) := List.mem_filterMap.mpr ⟨X.env, List.mem_cons_self, hf⟩
  have go : ∀ h3, HandSPX.HeldZ B (X.env :: X.outer) e (Zc cls d) X.env.locals h3 → s'.heap.UpToSlots h3 → wpAny (model X.prog X.w) (X.A.mark (some (.ref a))) (do bindName X.env n .none; unbindBehindTheSuite X.env n pos)
      (fun _ s₅ => wpAny (model X.prog X.w) (X.A.mark (some (.ref a))) (passOn "try.except-as" (.ref e) X.env : Sem Flow) (fun _ _ => False) (notedBy (model X.prog X.w) (X.A.mark (some (.ref a))) X.env (cameBackBy (model X.prog X.w) X.A X.env X.xe)) s₅)
      (fun y s₅ => wpAny (model X.prog X.w) (X.A.mark (some (.ref a))) (setFlight (.ref e) none) (fun _ s₆ => notedBy (model X.prog X.w) (X.A.mark (some (.ref a))) X.env (cameBackBy (model X.prog X.w) X.A X.env X.xe) y s₆) (notedBy (model X.prog X.w) (X.A.mark (some (.ref a))) X.env (cameBackBy (model X.prog X.w) X.A X.env X.xe)) s₅) { s' with heap := h3 } := fun h3 hh up3 => by
    have J3 : Inv X pins σ H { s' with heap := h3 } := I.landed nb hh.1 (up.trans up3) os ag
    obtain ⟨m, hn, hlk⟩ := id J3.loc
    have hcls : (X.env.scope.kind == .class || (X.env.scope.kind == .module && X.env.locals != X.env.globals)) = false := by rw [ok.kind]; rfl
    refine wpAny_nameGoes_keeps (s := { s' with heap := h3 }) hln hn hcls fun h5 v hn' hsb => ?_
    obtain ⟨oL, es, ep, z1, z2, z3⟩ := id hn'
    have h5e : ∀ b, b ≠ X.env.locals → h5.get? b = h3.get? b := fun b hb => hsb.2 b hb
    have hh5 : HandSPX.HeldZ B (X.env :: X.outer) e (Zc cls d) X.env.locals h5 := held_at mem hh h5e ⟨oL, z1, fun vs y => by rw [z2] at y; cases y⟩
    obtain ⟨k1, k2, k3, oe, vs, T, oT, ts', he, hz, hd, h1, hr⟩ := id hh5
    unfold PySem.passOn; refine wpAny_bind (wpAny_field he hd h1 ?_)
    rw [if_neg (show ¬ ((Value.ref T == Value.none) = true) from by simp)]
    have fin : wpAny (model X.prog X.w) (X.A.mark (some (.ref a))) (setFlight (.ref e) X.env.frame) (fun _ s4 => wpAny (model X.prog X.w) (X.A.mark (some (.ref a))) (throw (.ref e) : Sem Flow) (fun _ _ => False) (notedBy (model X.prog X.w) (X.A.mark (some (.ref a))) X.env (cameBackBy (model X.prog X.w) X.A X.env X.xe)) s4) (notedBy (model X.prog X.w) (X.A.mark (some (.ref a))) X.env (cameBackBy (model X.prog X.w) X.A X.env X.xe)) { s' with heap := h5, toks := s'.toks + 1 } := by
      rw [hf]
      refine HandSPX.setFlight_onZ hh5 fun h6 hh6 up6 => wpAny_throw (hpa _ _ (tk _ _ ?_))
      have lL : ∃ o0, sI.heap.get? X.env.locals = some o0 := by
        obtain ⟨m0, hn0, _⟩ := I.loc
        obtain ⟨o0, _, _, w0, _⟩ := hn0
        exact ⟨o0, w0⟩
      obtain ⟨o0, w0⟩ := lL
      have nfr : oL.isFreed = false := (Heap.get?_some_iff.mp z1).2
      have gL : (sI.heap.update X.env.locals (fun _ => oL)).get? X.env.locals = some oL := Heap.get?_update_self (fun _ => oL) w0 nfr
      have gO : ∀ b, b ≠ X.env.locals → (sI.heap.update X.env.locals (fun _ => oL)).get? b = sI.heap.get? b := fun b hb => Heap.get?_update_other _ _ (Ne.symm hb)
      have J := inv_less (s := { s' with heap := h3 }) I J3 hN hi (up.trans up3) hn hlk gO ⟨oL, es, ep, gL, z2, z3⟩
      refine ⟨e, B, { sI with heap := sI.heap.update X.env.locals (fun _ => oL) }, pins, σ.set i none, H, cls, d, rfl, J, fun b o z hb => ?_, fun b o z nz => ?_, .inr (.inr (by rw [hs]; exact hh6)), na, os, ag, w⟩
      · have nb1 : b ≠ X.env.locals := fun y => hb (by rw [y, hs]; exact mem)
        exact nb b o ((gO b nb1).symm.trans z) hb
      · by_cases hb : b = X.env.locals
        · subst hb
          rw [gL] at z
          cases z
          exact up6 _ _ z1 nz
        · obtain ⟨sl, y⟩ := (up.trans up3) b o ((gO b hb).symm.trans z) nz
          obtain ⟨sl2, y2⟩ := up6 b _ ((h5e b hb).trans y) nz
          exact ⟨sl2, y2⟩
    first
      | exact wpAny_bind (wpAny_pure (wpAny_bind fin))
      | exact wpAny_bind fin
  show wpAny (model X.prog X.w) (X.A.mark (some (.ref a))) (noteFrame (.ref e) X.env) _ _ _
  rcases sky' with ⟨hB, hn, hl, oe, vs, he, hz, hd, h1⟩ | fl | hh
  · exact HandSPX.look_newZ Zc.steady hfr hl hf he hB hn hd h1 hz fun h3 hh up3 => go h3 hh up3
  · exact HandSPX.looks_onZ Zc.steady hfr hf fl fun h3 hh up3 => go h3 hh up3
  · exact HandSPX.againZ hf hh.2.2.2 (go s'.heap hh (Heap.UpToSlots.refl _))
end
end FromY
namespace FromY
open PySem PySem.Spec PyProof.Rows L2 HotX
/-- what the clause asks of an error of the body: it takes it, and the suite ends by an error -/
def wHot (K : PySem.W.Frag) (c : Value) (i : Nat) (ts : Addr → Value → Option Addr → TS) : WX := fun cls d σ H => PySem.W.exmOne K cls c = some true ∧ ∀ a, H a = none → ts a cls d endX (σ.set i (some (.ref a))) H
section
variable {X : Cx} {n x : Str} {pos pos' np : Pos} {i : Nat} {Wout : WX} {c : Value} {tb : WX → TS} {ts : Addr → Value → Option Addr → TS} {body suite : List Stmt} {b₀ : Stmt}
theorem ps_try_from (hs : X.stack = X.env :: X.outer) (hf : X.env.frame = some X.env.locals) (hN : X.N.Nodup) (hi : X.N[i]? = some n) (hln : X.env.kindOf n = some .local) (hc : Names X x c) (hpa : ∀ hd : Option Value, PassesOwnAt (model X.prog X.w) (X.A.mark hd) X.A X.env X.xe) (tk : L2.Takes X Wout)
    (hb : ∀ (W : WX) (pn : List (Addr × Obj)) (xe : Value → Shared → Prop), L2N.Takes (X.tr pn xe) W → PassesOwn (model X.prog X.w) X.A X.env xe → PSs (X.tr pn xe) body (tb W))
    (hsu : ∀ (a : Addr) (oe : Obj) (cls : Value) (d : Option Addr) (pn : List (Addr × Obj)), L2N.Zn cls d oe → L2H.Hot1 (X.A.mark (some (.ref a))) (a, oe) → L2.Takes (suiteF X n a pos' ((a, oe) :: pn)) (fun cls d σ H => Wout cls d (σ.set i none) H) → PSs (suiteF X n a pos' ((a, oe) :: pn)) (b₀ :: suite) (ts a cls d)) :
    PS X (.Try body [.ExceptHandler (some (.Name x np)) (some n) (b₀ :: suite) pos'] [] [] pos) (fun D σ H => tb (wHot X.K c i ts) D σ H) := by
  refine ⟨fun pins s σ H D I h => ?_⟩
  have ok := I.ok
  have hfr : X.A.frames = some (X.env :: X.outer) := by rw [ok.frames, hs]
  refine wpAny_Try_except (wpAny_mono ((hb (wHot X.K c i ts) (X.pn ++ pins) (fun e s₁ => wpAny (model X.prog X.w) X.A (noteFrame e X.env) (fun _ s₂ => wpAny (model X.prog X.w) X.A (setFlight e none) (fun _ s₃ =>
    wpAny (model X.prog X.w) X.A (handleBy e X.env [.ExceptHandler (some (.Name x np)) (some n) (b₀ :: suite) pos']) (SP X pins D) X.xe s₃) X.xe s₂) X.xe s₁) (fun u s' xx => ?_) PassesOwn.looking).run [] s σ H D (I.toTry _) h) (fun f s1 hsp => ?_) (fun e s1 z => z))
  · obtain ⟨a, B, sI, pins', σ', H', cls, d, rfl, J', nb, up, sky, na, os, ag, hb1, hyes⟩ := xx
    have J : Inv X pins σ' H' sI := J'.ofTry ok
    have sky' : L2.Sky B (X.env :: X.outer) a (L2N.Zn cls d) X.env.locals s'.heap := by rw [← hs]; exact sky
    show wpAny (model X.prog X.w) X.A (noteFrame (.ref a) X.env) _ _ _
    refine L2N.Sky.land L2N.Zn.steady hfr hf sky' fun h3 fl3 up3 => ?_
    have J3 : Inv X pins σ' H' { s' with heap := h3 } := J.landed nb fl3.1 (up.trans up3) os ag
    obtain ⟨o3, v3, he3, hz3, hd3⟩ := fl3.there
    have nfr : a ∉ frs (X.env :: X.outer) := fun hm => by
      obtain ⟨_, o', e', hnf⟩ := fl3.2.2.1.mem hm
      rw [he3] at e'; cases e'; exact hnf _ hd3
    have nL : a ≠ X.env.locals := fun z => nfr (List.mem_filterMap.mpr ⟨X.env, List.mem_cons_self, by rw [hf, z]⟩)
    have nF : a ∉ X.fs := fun hm => by
      obtain ⟨e, he, q⟩ := List.mem_filterMap.mp hm
      exact nfr (List.mem_filterMap.mpr ⟨e, List.mem_cons_of_mem _ he, q⟩)
    have S3 := J3.suite he3 hd3 na nL nF
    refine wpAny_handleBy_cons (codeAny_handlers_test ?_) (by intro q; cases q)
    have LT : PySem.W.Looks (model X.prog X.w) h3 (typeOf (.ref a)) cls := fun A Q E s k q => wpAny_typeOf_ref (k _ _ he3) (by rw [hz3.1]; exact q)
    have LM := PySem.W.exm_one (M := model X.prog X.w) (J3.kIn) LT hb1
    have test : ∀ {Q : Value → Shared → Prop} {E : Value → Shared → Prop}, Q c { s' with heap := h3 } → wpAny (model X.prog X.w) (X.A.mark (some (.ref a))) (eval (.Name x np) X.env) Q E { s' with heap := h3 } := fun {Q E} q => by
      obtain ⟨hg, hdbg, hm | ⟨hm, hv, hnn⟩⟩ := hc
      · exact ld_glob (X := X.suite a ((a, o3) :: (X.pn ++ pins))) S3 hg hm q hdbg
      · exact ld_blt (X := X.suite a ((a, o3) :: (X.pn ++ pins))) S3 hg hm hv q hnn hdbg
    refine test (LM.here (codeAny_handlers_suite_as ?_))
    refine HandSPX.lands_againZ fl3 fun h4 fl4 up4 => ?_
    have J4 : Inv X pins σ' H' { s' with heap := h4 } := J.landed nb fl4.1 ((up.trans up3).trans up4) os ag
    obtain ⟨o4, v4, he4, hz4, hd4⟩ := fl4.there
    have S4 := J4.suite he4 hd4 na nL nF
    refine store_ok (X := X.suite a ((a, o4) :: (X.pn ++ pins))) (v := .ref a) S4 hN hi (.inl hln) rfl (fun s5 S5 => ?_) (.inr hln)
    have hot : L2H.Hot1 (X.A.mark (some (.ref a))) (a, o4) := ⟨rfl, v4, hd4, hz4.2.2 v4 hd4⟩
    have tkS := takes_suite (pins := pins) (q := (a, o4)) (pos := pos') ok hs hf hN hi hln tk (hpa (some (.ref a)))
    refine wpAny_mono ((hsu a o4 cls d (X.pn ++ pins) hz4 hot tkS).run [] s5 _ H' endX (suiteF_of S5) (hyes a na)) (fun f s6 hsp => ?_) (fun e6 s6 z => z)
    cases f with
    | next => obtain ⟨_, _, _, q6⟩ := hsp; exact q6.elim
    | brk => obtain ⟨_, _, _, q6⟩ := hsp; exact q6.elim
    | cont => obtain ⟨_, _, _, q6⟩ := hsp; exact q6.elim
    | ret u => obtain ⟨_, _, _, _, _, q6⟩ := hsp; exact q6.elim
  · cases f with
    | next =>
      obtain ⟨σ', H', J', q⟩ := hsp
      exact wpAny_execs_nil ⟨σ', H', J'.ofTry ok, q⟩
    | brk => obtain ⟨σ', H', J', q⟩ := hsp; exact ⟨σ', H', J'.ofTry ok, q⟩
    | cont => obtain ⟨σ', H', J', q⟩ := hsp; exact ⟨σ', H', J'.ofTry ok, q⟩
    | ret u => obtain ⟨v, σ', H', J', r, q⟩ := hsp; exact ⟨v, σ', H', J'.ofTry ok, r, q⟩
end
end FromY

set_option Elab.async false
set_option linter.all false
set_option maxRecDepth 100000
namespace Pv
open PySem PySem.Spec PyProof.Rows L2
/-! ### raise X(e), X with one field -/
structure ErrK (P : Program) (K : PySem.W.Frag) (mg : Str → Option Value) (x : Str) (C : Addr) (f : Str) : Prop where
  at_ : mg x = some (.ref C)
  S : SupY.SupK K mg C
  init : ∃ fI : Addr, PySem.W.findIn K (.ref C) "__init__" = some (some (.ref fI)) ∧ PySem.W.typeIn K (.ref fI) = some (.type "function") ∧ ∀ X : Cx, X.prog = P → X.K = K → X.mg = mg → SupY.Init1 X C fI f
def raiseV (n : Nat) (x : Ex) : Sx := fun env S => (x env S).bind fun r S => .exc n [r.d] S
section
variable {X : Cx} {c : Cc} {x : Str} {C : Addr} {f : Str} {e1 : Expr} {y : Ex} {p pos pos' : Pos} {n : Nat}
theorem under_room {k : Nat} {A : Around} (r : Room (k + 1) A) (C : Addr) (us : List Value) : (A.under (.builtin "type.__call__" ⟨.ref C :: us, []⟩)).depth < recursionLimit := (r.make C us []).depth
theorem raiseV_top {D : Ends} {σ : L2.St} {H : Hp} (hx : c.xc n = .ref C) (h : TSx c (raiseV n y) D σ H) : SupY.tErr C f (TEx c y) σ H fun cls d H' => c.E cls d H' := by
  obtain ⟨P, env, S, s, w⟩ := h
  refine te_in s w fun r S1 v P1 H1 st1 s1 rp1 h1 => fun dx nd => ?_
  refine h1 (.ref C) (some dx) P1 (upd H1 dx (.xd [(f, v)])) ((s.st.trans st1).trans (Step.alloc s1.le nd)) (s1.so.alloc s1.le nd) ⟨hx.symm, dx, [(f, v)], rfl, upd_same, .cons rp1 .nil⟩
theorem sx_raise1 {k : Nat} (hc : X.calm = true) (tk : L2.Takes X fun cls d _ H => c.E cls d H) (E : ErrK X.prog X.K X.mg x C f) (hx : c.xc n = .ref C) (hr : Room (k + 1) X.A) (hg : Gl X x) (hdb : (x == ("__debug__" : Str)) = false) (he : PE X e1 (TEx c y)) (hst : starEach [e1] X.env = (false, eval e1 X.env) :: starEach [] X.env) (hpl : (backTo pos (starEach [] X.env)).any (·.1) = false) :
    PS X (.Raise (some (.Call (.Name x p) [e1] [] pos)) none pos') (TSx c (raiseV n y)) := by
  obtain ⟨fI, i1, i2, i3⟩ := E.init
  exact ps_imp (L2.ps_raise hc tk (SupY.pmk_sup E.S i1 i2 (i3 X rfl rfl rfl) (under_room hr C) hg E.at_ he hdb hst hpl)) fun D σ H h => raiseV_top hx h
theorem sx_raise1N {k : Nat} (hc : X.calm = true) (tk : L2N.Takes X fun cls d _ H => c.E cls d H) (E : ErrK X.prog X.K X.mg x C f) (hx : c.xc n = .ref C) (hr : Room (k + 1) X.A) (hg : Gl X x) (hdb : (x == ("__debug__" : Str)) = false) (he : PE X e1 (TEx c y)) (hst : starEach [e1] X.env = (false, eval e1 X.env) :: starEach [] X.env) (hpl : (backTo pos (starEach [] X.env)).any (·.1) = false) :
    PS X (.Raise (some (.Call (.Name x p) [e1] [] pos)) none pos') (TSx c (raiseV n y)) := by
  obtain ⟨fI, i1, i2, i3⟩ := E.init
  exact ps_imp (L2N.ps_raise hc tk (SupY.pmkN_sup E.S i1 i2 (i3 X rfl rfl rfl) (under_room hr C) hg E.at_ he hdb hst hpl)) fun D σ H h => raiseV_top hx h
/-! ### try: b except C as n: raise Y() from n -/
def tryF (b : Sx) (m : Nat → Option Bool) (y : Nat) : Sx := fun env S => match b env S with
  | .exc n fs S1 => (match m n with
    | some true => .exc y [] S1
    | _ => .bad)
  | .ok fl S1 => .ok fl S1
  | .bad => .bad
theorem mk5_zero {X : Cx} {x : Str} {C : Addr} {p pos : Pos} {i : Nat} {a : Addr} (k : ExcK X.K X.mg x C) (hg : Gl X x) (hdb : (x == ("__debug__" : Str)) = false) : L2H.PMk5 X (.Call (.Name x p) [] [] pos) fun σ H Q => σ[i]? = some (some (.ref a)) ∧ Q (.ref C) none H := fun pins s σ H Q I ⟨_, w⟩ => by
  refine wpAny_Call_Name_kw (ld_glob I hg k.at_ (PySem.W.callWith_K0 I.kIn k.keep ?_) hdb)
  obtain ⟨b1, b2, b3, b4, b5, b6, b7, b8, b9, c1, c2, c3, c4, c5, c6, c7, m1, o1, o2, o3, o4⟩ := exc_obj I.kIn k.cls
  have r : Raises X (.ref C) := raises_own k.base k.meta_
  exact wpAny_call_exc_subT PySem.F.excBase_ValueError o4 o1 o2 o3 (fun h2 e2 made => L2H.mk_of5 I made r w (I.hok.gone made.new)) (Nat.zero_le _)
theorem sx_try_from {n : Str} {cV : Value} {Y : Addr} {yn : Str} {y i : Nat} {body : List Stmt} {np q1 q2 q3 q4 pos pos' : Pos} {b : Sx} {m : Nat → Option Bool} (hs : X.stack = X.env :: X.outer) (hf : X.env.frame = some X.env.locals) (hN : X.N.Nodup) (hi : X.N[i]? = some n) (hln : X.env.kindOf n = some .local) (hv : Vis X.env.scope n) (hd1 : (n == ("__debug__" : Str)) = false) (hd2 : (n == ("__classdict__" : Str)) = false) (hc : Names X x cV) (hpa : ∀ hd : Option Value, PassesOwnAt (model X.prog X.w) (X.A.mark hd) X.A X.env X.xe) (tk : L2.Takes X fun cls d _ H => c.E cls d H)
    (hm : ∀ k q, m k = some q → PySem.W.exmOne X.K (c.xc k) cV = some q ∧ Raises X (c.xc k)) (ky : ExcK X.K X.mg yn Y) (hy : c.xc y = .ref Y) (hgy : Gl X yn) (hdy : (yn == ("__debug__" : Str)) = false)
    (hb : ∀ (E' : XK) (pn : List (Addr × Obj)) (xe : Value → Shared → Prop), L2N.Takes (X.tr pn xe) (fun cls d _ H => E' cls d H) → PassesOwn (model X.prog X.w) X.A X.env xe → PSs (X.tr pn xe) body (TSx { c with E := E' } b)) :
    PS X (.Try body [.ExceptHandler (some (.Name x np)) (some n) [.Raise (some (.Call (.Name yn q1) [] [] q2)) (some (.Name n q3)) q4] pos'] [] [] pos) (TSx c (tryF b m y)) := by
  have takesL : ∀ {X' : Cx} {W : WX}, X'.N = X.N → L2N.Takes X' W → L2N.Takes X' fun cls d _ H => wishL X.N.length W cls d H := fun {X' W} hn tk2 u s' ⟨a, B, sI, pins, σ, H, cls, d, e, I, nb, up, sky, na, os, ag, w⟩ =>
    tk2 u s' ⟨a, B, sI, pins, σ, H, cls, d, e, I, nb, up, sky, na, os, ag, w σ (by rw [I.len, hn])⟩
  have main := FromY.ps_try_from (X := X) (body := body) (suite := []) (b₀ := .Raise (some (.Call (.Name yn q1) [] [] q2)) (some (.Name n q3)) q4) (np := np) (pos := pos) (pos' := pos') (tb := fun W => TSx { c with E := wishL X.N.length W } b)
    (ts := fun a cls d D σ H => ∃ k, cls = c.xc k ∧ m k = some true ∧ σ[i]? = some (some (.ref a)) ∧ c.E (.ref Y) none H) (Wout := fun cls d _ H => c.E cls d H) hs hf hN hi hln hc hpa tk
    (fun W pn xe tk2 po => hb _ pn xe (takesL rfl tk2) po)
    (fun a oe cls d pn hz hot tkS => ⟨fun pins s σ H D I ⟨k, ek, mk, e1, w⟩ => by
      subst ek
      exact (pss_one (FromY.ps_raise_from (X := FromY.suiteF X n a pos' ((a, oe) :: pn)) (i := i) (np := q3) (pos := q4) (t := fun σ H Q => σ[i]? = some (some (.ref a)) ∧ Q (.ref Y) none H) hot List.mem_cons_self hz.1 (hm k true mk).2 tkS (mk5_zero (X := FromY.suiteF X n a pos' ((a, oe) :: pn)) (i := i) (a := a) ky hgy hdy) hi hv hd1 hd2 fun _ _ _ h => h.1)).run pins s σ H D I ⟨e1, w⟩⟩)
  refine ⟨fun pins s σ H D I w => main.run pins s σ H D I ?_⟩
  obtain ⟨P, env, S, st, w⟩ := w
  have hlen : σ.length = X.N.length := I.len
  refine ⟨P, env, S, stt_E st, ?_⟩
  unfold PF tryF at w
  cases q : b env S with
  | ok fl S1 =>
    rw [q] at w
    show QF _ P D fl S1
    cases fl with
    | nx env' => exact fun P' H' σ' e s' => w P' H' σ' e (by have z := stt_E (E' := c.E) s'; exact z)
    | ret r => exact w
  | bad => rw [q] at w; exact w.elim
  | exc k fs S1 =>
    rw [q] at w
    dsimp only at w
    intro C d P' H' sp so ex σ' hl
    obtain ⟨eC, _⟩ := ex
    subst eC
    cases qm : m k with
    | none => rw [qm] at w; exact w.elim
    | some v =>
      rw [qm] at w
      cases v with
      | false => exact w.elim
      | true =>
        refine ⟨(hm k true qm).1, fun a ha => ⟨k, rfl, qm, ?_, w (.ref Y) none P' H' sp so ⟨hy.symm, rfl⟩⟩⟩
        rw [List.getElem?_set_self (by rw [hl]; exact (List.getElem?_eq_some_iff.mp hi).1)]
end
/-! ### defs whose errors have no context -/
structure CalleeN (P : Program) (w : World) (K : PySem.W.Frag) (mg : Str → Option Value) (base : Heap) (G : Nat → Option (Addr × List Str)) (xc : Nat → Value) (k : Nat) (nm : Str) (n : Nat) (cf : List Arg → Sto → Out R) : Prop where
  ex : ∃ (f : Addr) (fd : FuncData) (ps : List Str), FnOk P w K mg base (L2N.CX P w) k f fd ps (spF K G xc n cf) ∧ mg nm = some (.ref f) ∧ PySem.W.keepIn K (.ref f) = true ∧ Binds K fd ps []
section
variable {X : Cx} {c : Cc} {nm : Str} {e : Expr} {es : List Expr} {p pos : Pos}
theorem pd_callN {k n : Nat} {l : Ax} {cf : Nat → List Arg → Sto → Out R} (i : Nat) (hK : X.K = c.K) (C : CalleeN X.prog X.w X.K X.mg X.base c.G c.xc k nm n (cf i)) (hr : Room k X.A) (px : Passes (L2N.CX X.prog X.w) X c.E) (hg : Gl X nm) (hdb : (nm == ("__debug__" : Str)) = false) (ha : PA X (e :: es) (TAx c l)) (hl : LenA l n)
    (he : starEach (e :: es) X.env = (false, eval e X.env) :: starEach es X.env) (hpl : (backTo pos (starEach es X.env)).any (·.1) = false) : PE X (.Call (.Name nm p) (e :: es) [] pos) (TEx c (callX cf i l)) := by
  obtain ⟨f, fd, ps, F, hm, hk, hb⟩ := C.ex
  exact pe_imp (pe_call F hr hg hm hk hb .nil px ha hdb he hpl) (by rw [hK]; exact call_top fun P H env σ S as S1 _ h => hl env S as S1 h)
end
section
variable {P : Program} {w : World} {K : PySem.W.Frag} {mg : Str → Option Value} {base : Heap} {x qual : Str} {params : Arguments} {body : List Stmt} {scope : Scope} {dvs : List V} {kws : List (Str × V)} {f : Addr} {fd : FuncData} {N ps : List Str} {k : Nat}
abbrev XN (P : Program) (w : World) (K : PySem.W.Frag) (mg : Str → Option Value) (base : Heap) (N : List Str) (qual : Str) (scope : Scope) (f : Addr) (cd : Value) (A : Around) (outer : List Env) (s : Shared) (H : Hp) (E : XK) : Cx := cxOf (L2N.CX P w) P w K mg base N qual scope f cd A outer s H E
theorem fn_okN {G : Nat → Option (Addr × List Str)} {xc : Nat → Value} {b : Sx} {m n : Nat} (F : FunD K x qual params body scope dvs kws f fd) (Sc : FnScope N ps scope) (hm : N.length = m) (hn : ps.length = n)
    (hb : ∀ (cdv : Value) (A : Around) (outer : List Env) (s : Shared) (H : Hp) (E : XK) (ρ : List Addr) (P0 : Hp), Room k (A.deeper (envOfC qual scope s.heap.objs.size f cdv)) → PSs (XN P w K mg base N qual scope f cdv A outer s H E) body (TSx ⟨K, G, xc, ρ, P0, H, E⟩ b)) :
    FnOk P w K mg base (L2N.CX P w) (k + 1) f fd ps (spF K G xc n (runF b m)) := by
  refine F.ok Sc (fun vs H Q E ⟨ρ, P0, S, as, le, so, ra, hl, px⟩ => hl.trans hn.symm) fun cdv A outer s H vs Q E hr ⟨ρ, P0, S, as, le, so, ra, hl, px⟩ => ?_
  have hl2 : vs.length ≤ N.length := by
    have := congrArg List.length Sc.pre
    rw [List.length_take] at this
    omega
  refine ⟨TSx ⟨K, G, xc, ρ, P0, H, E⟩ b, hb cdv A outer s H E ρ P0 hr, P0, as.map Arg.sl ++ List.replicate (N.length - as.length) .un, S, start_ok le so ra hl2, ?_⟩
  rw [hm]
  refine post_mono (post_bind.mp (show PX ⟨K, G, xc, ρ, P0, H, E⟩ P0 H Q (runF b m as S) from px)) (fun fl S1 q => ?_) fun _ _ _ q => q
  cases fl with
  | nx env' => exact fun P' H' σ' e st => q .non P' H' st.st st.so (RepR.sh .non)
  | ret r => exact q
theorem fn_badN {G : Nat → Option (Addr × List Str)} {xc : Nat → Value} {n : Nat} (F : FunD K x qual params body scope dvs kws f fd) (Sc : FnScope N ps scope) (hn : ps.length = n) : FnOk P w K mg base (L2N.CX P w) 1 f fd ps (spF K G xc n fun _ _ => .bad) :=
  F.ok Sc (fun vs H Q E ⟨ρ, P0, S, as, le, so, ra, hl, px⟩ => hl.trans hn.symm) fun cdv A outer s H vs Q E hr ⟨ρ, P0, S, as, le, so, ra, hl, px⟩ => px.elim
theorem calleeN_mk {G : Nat → Option (Addr × List Str)} {xc : Nat → Value} {n : Nat} {cf : List Pv.Arg → Sto → Out R} (F : FunD K x qual params body scope dvs kws f fd) (hm : mg x = some (.ref f)) (b : Binds K fd ps []) (ok : FnOk P w K mg base (L2N.CX P w) k f fd ps (spF K G xc n cf)) : CalleeN P w K mg base G xc k x n cf := ⟨f, fd, ps, ok, hm, F.kp, b⟩
theorem xn_takes {qual : Str} {cdv : Value} {A : Around} {outer : List Env} {s : Shared} {H : Hp} {E : XK} : Passes (L2N.CX P w) (XN P w K mg base N qual scope f cdv A outer s H E) E :=
  fun pins σ H' s' e s2 I h => L2N.passes_call (X := XN P w K mg base N qual scope f cdv A outer s H E) (L2N.takes_of rfl rfl rfl rfl) (fun _ _ _ _ h => h) pins σ H' s' e s2 I h
/-- .. within a try's body -/
theorem tr_takesN {X : Cx} {E' : XK} {pn : List (Addr × Obj)} {xe : Value → Shared → Prop} (tk : L2N.Takes (X.tr pn xe) fun cls d _ H => E' cls d H) : Passes (L2N.CX X.prog X.w) (X.tr pn xe) E' :=
  fun pins σ H' s' e s2 I h => L2N.passes_call (X := X.tr pn xe) tk (fun _ _ _ _ h => h) pins σ H' s' e s2 I h
end
end Pv

set_option Elab.async false
set_option linter.all false
set_option maxRecDepth 100000
namespace Pv
open PySem PySem.Spec PyProof.Rows L2 LamX
/-- all that the law's def needs of a def that calls its lambda within a try -/
structure ToldD (X : Cx) (K : PySem.W.Frag) (Gc : Nat → Option (Addr × List Str)) (xc : Nat → Value) (x a : Str) (g : Addr) (pg : Arguments) (bg : List Stmt) (sg : Scope) (fd : FuncData) (Ng : List Str) (okk : Nat → Prop) (ansV : Nat → V) (dV : V) (ans : Nat → List D → Option D) (d : D) : Prop where
  F : FunD X.K x x pg bg sg [] [] g fd
  m : X.mg x = some (.ref g)
  b : L2.Binds X.K fd [a] []
  G : ∀ cdv : Value, GivesTo X Ng x sg g cdv bg a (LamY.qOf X) (TTas xc okk ansV dV)
  hd : ∀ P', Rep K Gc P' d dV
  ha : ∀ n fs z, ans n fs = some z → fs = [] ∧ okk n ∧ ∀ P', Rep K Gc P' z (ansV n)
theorem TabC.at_ {X : Cx} {c : Cc} {Pt : Addr} (t : TabC X c Pt) {ρ : List Addr} {P0 H0 : Hp} (sm : Same c.P0 P0) (mk : ∀ a q, P0 a = some (mkT q) → c.P0 a = some (mkT q)) : TabC X (c.at_ ρ P0 H0) Pt :=
  ⟨sm _ _ t.mark, fun a z e => t.only a z (mk a z e), t.tbl⟩
section
variable {P : Program} {w : World} {K : PySem.W.Frag} {mg : Str → Option Value} {base : Heap} {f : Addr} {N : List Str}
theorem xn_own {qual : Str} {scope : Scope} {cdv : Value} {A : Around} {outer : List Env} {s : Shared} {H : Hp} {E : XK} : PassesOwn (model P w) (XN P w K mg base N qual scope f cdv A outer s H E).A (XN P w K mg base N qual scope f cdv A outer s H E).env (XN P w K mg base N qual scope f cdv A outer s H E).xe := passes_of rfl
end
end Pv

set_option Elab.async false
set_option linter.all false
set_option maxRecDepth 100000
namespace SupY
open PySem PySem.Spec PyProof.Rows L2
/-! ### what the head says of an error class with its own __init__ -/
def oexB (K : PySem.W.Frag) (C : Addr) : Bool := match K.lookup C with
  | some ⟨.type "type", _, .cls cd, sl⟩ => (match cd.mro, sl.toList with
    | .ref C' :: bm, [_, _, _, _, some (.builtin n), _] => C' == C && (n == "ValueError.__new__" && (!cd.hasDel && (cd.hasDict && PySem.HandSPX.refsVE bm)))
    | _, _ => false)
  | _ => false
theorem oexB_ok {K : PySem.W.Frag} {C : Addr} (q : oexB K C = true) : ∃ nm q N bs bm sn sub ab col dd k0 k1 k2 k3 k5, K.lookup C = some (excClassObj nm q C N bs bm true sn sub ab col dd k0 k1 k2 k3 k5 "ValueError.__new__") ∧ PySem.HandSPX.refsVE bm = true := by
  unfold oexB at q
  split at q
  · rename_i dd cd sl ho
    split at q
    · rename_i C' bm k0 k1 k2 k3 n k5 hm hs
      simp only [Bool.and_eq_true, beq_iff_eq, Bool.not_eq_true'] at q
      obtain ⟨rfl, rfl, hdel, hdc, ht⟩ := q
      obtain ⟨nm, bs, mro, ns, qn, hd, sn, sub, ab, col, del⟩ := cd
      dsimp only at hm hdel hdc
      subst hm hdel hdc
      obtain ⟨sl⟩ := sl
      dsimp only at hs
      subst hs
      exact ⟨nm, qn, ns, bs, bm, sn, sub, ab, col, dd, k0, k1, k2, k3, k5, ho, ht⟩
    · cases q
  · cases q
def supB (x f : Str) (K : PySem.W.Frag) : Bool := oexB K (He.ga K x) && (decide (PySem.W.findIn K (.ref (He.ga K x)) "__setattr__" = some (some (.builtin "object.__setattr__"))) && (decide (PySem.W.subIn K (.ref (He.ga K x)) (.type "BaseException") = some true) && (decide (PySem.W.typeIn K (.ref (He.ga K x)) = some (.type "type")) && (PySem.W.keepIn K (.ref (He.ga K x)) &&
  (decide (PySem.W.ks_superIn K (He.ga K x) (He.ga K x) "__init__" = some (some (.builtin "ValueError.__init__"))) && (decide (PySem.W.subIn K (.ref (He.ga K x)) (.type "ValueError") = some true) && (decide (PySem.W.mroIn K (He.ga K x) (.ref (He.ga K x)) = some true) && (decide (PySem.W.nsIn K cStatics "thirdparty.any" = some none) && decide (PySem.W.findIn K (.ref (He.ga K x)) f = some none)))))))))
theorem supB_ok {x f : Str} {K : PySem.W.Frag} {mg : Str → Option Value} (h : supB x f K = true) (hm : mg "super" = none) : SupK K mg (He.ga K x) ∧ PySem.W.findIn K (.ref (He.ga K x)) f = some none := by
  simp only [supB, Bool.and_eq_true, decide_eq_true_eq] at h
  obtain ⟨h1, h2, h3, h4, h5, h6, h7, h8, h9, h10⟩ := h
  exact ⟨⟨⟨oexB_ok h1, h2, h3, h4, h5⟩, h6, h7, h8, h9, hm⟩, h10⟩
def inB (file : Str) (x qual : Str) (K : PySem.W.Frag) : Bool := decide (PySem.W.findIn K (.ref (He.ga K x)) "__init__" = some (some (.ref (He.ma K (He.ga K x) "__init__")))) && (decide (PySem.W.typeIn K (.ref (He.ma K (He.ga K x) "__init__")) = some (.type "function")) &&
  (match K.lookup (He.ma K (He.ga K x) "__init__") with
  | some ⟨_, _, .func fd, _⟩ => (match fd.defaults, fd.code, fd.closure with
    | .none, .ref cda, [(_, cc)] => PySem.W.codeIn K (.ref cda) qual && ((match K.lookup cc with
        | some ⟨_, _, .cell (some (.ref D)), _⟩ => D == He.ga K x
        | _ => false) && (match K.lookup cda with
        | some ⟨_, _, .fields vs, _⟩ => (match vs[2]? with
          | some (Value.str fl _) => file == fl
          | _ => false)
        | _ => false))
    | _, _, _ => false)
  | _ => false))
theorem inB_ok {prog : Program} {x qual : Str} {pr : Arguments} {body : List Stmt} {scope : Scope} {K : PySem.W.Frag} (h : inB prog.main.file x qual K = true) (e : Pv.fnS K (x, some "__init__") = Pv.SupD.val ⟨(x, some "__init__"), qual, pr, body, scope⟩) :
    ∃ (fI cda cc : Addr) (kV doc pm : Value) (an : Option Addr) (ct : Value), PySem.W.findIn K (.ref (He.ga K x)) "__init__" = some (some (.ref fI)) ∧ PySem.W.typeIn K (.ref fI) = some (.type "function") ∧ InitK prog K (He.ga K x) fI cda cc (PySem.W.ksFn "__init__" qual pr body scope .none kV doc pm an (.ref cda) ct cc) qual := by
  simp only [inB, Bool.and_eq_true, decide_eq_true_eq] at h
  obtain ⟨h1, h2, h3⟩ := h
  have e2 : (match K.lookup (He.ma K (He.ga K x) "__init__") with
    | some ⟨_, _, .func fd, _⟩ => some (fd.name, fd.qualname, fd.params, fd.body, fd.scope, fd.globals, fd.closure.map (·.1), fd.builtins)
    | _ => none : Pv.FnS) = (some (("__init__" : Str), qual, pr, FuncBody.stmts body, scope, mainGlobals, [("__class__" : Str)], builtinsNs) : Pv.FnS) := e
  cases q : K.lookup (He.ma K (He.ga K x) "__init__") with
  | none => rw [q] at h3; cases h3
  | some o =>
    obtain ⟨oc, od, dt, osl⟩ := o
    rw [q] at h3 e2
    cases dt with
    | func fd =>
      obtain ⟨n1, n2, n3, n4, n5, n6, n7, n8, n9, n10, n11, n12, n13, n14, n15⟩ := fd
      dsimp only at h3 e2
      simp only [Option.some.injEq, Prod.mk.injEq] at e2
      obtain ⟨a1, a2, a3, a4, a5, a6, a7, a8⟩ := e2
      split at h3
      · rename_i cda y cc
        simp only [Bool.and_eq_true] at h3
        obtain ⟨b1, b2, b3⟩ := h3
        simp only [List.map_cons, List.map_nil, List.cons.injEq, and_true] at a7
        subst a1 a2 a3 a4 a5 a6 a7 a8
        refine ⟨_, cda, cc, n9, n10, n11, n12, n14, h1, h2, ⟨⟨oc, od, osl, q⟩, b1, ?_, ?_⟩⟩
        · split at b2
          · rename_i ho
            have ed := beq_iff_eq.mp b2
            subst ed
            exact ⟨_, _, _, ho⟩
          · cases b2
        · split at b3
          · rename_i ho
            split at b3
            · rename_i hv
              exact ⟨_, _, _, _, _, _, ho, hv, b3⟩
            · cases b3
          · cases b3
      · cases h3
    | _ => cases h3
end SupY
namespace Pv
open PySem PySem.Spec PyProof.Rows L2 LamX
/-! ### a if isinstance(e, Y) else b, in the suite -/
theorem pe_ifE {X : Cx} {t a b : Expr} {pos : Pos} {i : Nat} {w : Option V} {v : Bool} {va vb : V} (ht : PE X t fun σ H Q => σ[i]? = some w ∧ Q (.bl v) H) (ha : PE X a fun _ H Q => Q va H) (hb : PE X b fun σ H Q => σ[i]? = some w ∧ Q vb H)
    (hn : ∀ whole, isTrue t X.env whole = (do let v ← whole; standAt t.pos; holding [v] (truthy v)) := by intro _; rfl) : PE X (.IfExp t a b pos) fun σ H Q => σ[i]? = some w ∧ Q (if v = true then va else vb) H :=
  pe_imp (pe_ifExp (pt_val ht hn) ha hb) fun σ H Q ⟨e, q⟩ => ⟨e, v, rfl, by
    cases v with
    | true => exact q
    | false => exact ⟨e, q⟩⟩
/-! ### what the head says of the classes of errors -/
def kitB (x y : Str) (b : Bool) (K : PySem.W.Frag) : Bool := decide (PySem.W.kitOne K (.ref (He.ga K x)) (.ref (He.ga K y)) = some b)
theorem kitB_ok {x y : Str} {b : Bool} {K : PySem.W.Frag} (h : kitB x y b K = true) : PySem.W.kitOne K (.ref (He.ga K x)) (.ref (He.ga K y)) = some b := of_decide_eq_true h
def exmB (x y : Str) (b : Bool) (K : PySem.W.Frag) : Bool := decide (PySem.W.exmOne K (.ref (He.ga K x)) (.ref (He.ga K y)) = some b)
theorem exmB_ok {x y : Str} {b : Bool} {K : PySem.W.Frag} (h : exmB x y b K = true) : PySem.W.exmOne K (.ref (He.ga K x)) (.ref (He.ga K y)) = some b := of_decide_eq_true h
def excCB (x : Str) (K : PySem.W.Frag) : Bool :=
  decide (PySem.W.findIn K (.ref (He.ga K x)) "__getattribute__" = some (some (.builtin "BaseException.__getattribute__"))) && (decide (PySem.W.findIn K (.ref (He.ga K x)) "__getattr__" = some none) && (decide (PySem.W.subIn K (.ref (He.ga K x)) (.type "BaseException") = some true) && (PySem.W.hasDictIn K (He.ga K x) &&
    (decide (PySem.W.findIn K (.ref (He.ga K x)) "__class__" = some (some (.builtin "object.__class__"))) && (decide (PySem.W.specialIn K (.builtin "object.__class__") "__get__" = some (some (.builtin "getset_descriptor.__get__"))) && (decide (PySem.W.takesIn K (.builtin "object.__class__") = some true) && decide (PySem.W.mroIn K (He.ga K x) (.type "object") = some true)))))))
theorem excCB_ok {x : Str} {K : PySem.W.Frag} (h : excCB x K = true) : ExcC K (He.ga K x) := by
  obtain ⟨h1, h⟩ := Bool.and_eq_true_iff.mp h
  obtain ⟨h2, h⟩ := Bool.and_eq_true_iff.mp h
  obtain ⟨h3, h⟩ := Bool.and_eq_true_iff.mp h
  obtain ⟨h4, h⟩ := Bool.and_eq_true_iff.mp h
  obtain ⟨h5, h⟩ := Bool.and_eq_true_iff.mp h
  obtain ⟨h6, h⟩ := Bool.and_eq_true_iff.mp h
  obtain ⟨h7, h8⟩ := Bool.and_eq_true_iff.mp h
  exact ⟨of_decide_eq_true h1, of_decide_eq_true h2, of_decide_eq_true h3, h4, of_decide_eq_true h5, of_decide_eq_true h6, of_decide_eq_true h7, of_decide_eq_true h8⟩
end Pv

set_option Elab.async false
set_option linter.all false
set_option maxRecDepth 100000
namespace Pv
open PySem PySem.Spec PyProof.Rows L2
/-! ### words joined by a space, and cut again -/
abbrev spcW : Str := Str.ofString " "
theorem sp_tl : TL.tl spcW = [32] := by decide +kernel
theorem joinL_le (l : List (List Nat)) : (TL.joinL [32] l).length ≤ (l.map fun w => w.length + 1).sum := by
  induction l with
  | nil => exact Nat.zero_le _
  | cons p l ih =>
    cases l with
    | nil => show p.length ≤ _; simp
    | cons q r =>
      show (p ++ ([32] ++ TL.joinL [32] (q :: r))).length ≤ _
      rw [List.length_append, List.length_append, List.map_cons, List.sum_cons]
      simp only [List.length_singleton]
      omega
theorem cat_assoc (a b c : Str) : a ++ b ++ c = a ++ (b ++ c) := TL.ext_tl (by simp only [TL.tl_append, List.append_assoc])
theorem join_app (y : Str) : ∀ (ws vs : List Str), ws ≠ [] → vs ≠ [] → Str.join y (ws ++ vs) = Str.join y ws ++ y ++ Str.join y vs
  | [], _, h, _ => absurd rfl h
  | [w], [], _, h => absurd rfl h
  | [w], v :: vs, _, _ => rfl
  | w :: x :: r, vs, _, h => by
    have ih := join_app y (x :: r) vs (by simp) h
    show w ++ y ++ Str.join y (x :: r ++ vs) = w ++ y ++ Str.join y (x :: r) ++ y ++ Str.join y vs
    rw [ih]
    simp only [cat_assoc]
theorem sum_le {α : Type} (f : α → Nat) (b : Nat) : ∀ l : List α, (∀ x ∈ l, f x ≤ b) → (l.map f).sum ≤ l.length * b
  | [], _ => by simp
  | x :: l, h => by
    have ih := sum_le f b l fun z hz => h z (List.mem_cons_of_mem _ hz)
    have hx := h x List.mem_cons_self
    rw [List.map_cons, List.sum_cons, List.length_cons, Nat.add_mul, Nat.one_mul]
    omega
theorem join_len {ws : List Str} {b : Nat} (h : ∀ w ∈ ws, w.length ≤ b) : (Txt.join spcW ws).length ≤ ws.length * (b + 1) := by
  have e : TL.tl (Txt.join spcW ws) = TL.joinL [32] (ws.map TL.tl) := by rw [TL.join_eq, TL.tl_join, sp_tl]
  have e1 : (Txt.join spcW ws).length = (TL.tl (Txt.join spcW ws)).length := (Array.length_toList (xs := (Txt.join spcW ws).cps)).symm
  rw [e1, e]
  refine Nat.le_trans (joinL_le _) ?_
  rw [List.map_map]
  refine sum_le _ _ ws fun w hw => ?_
  show (TL.tl w).length + 1 ≤ b + 1
  have : (TL.tl w).length = w.length := Array.length_toList
  have := h w hw
  omega
theorem split_join (ws : List Str) (h0 : ws ≠ []) (h : ∀ w ∈ ws, 32 ∉ TL.tl w) : Txt.split (Txt.join spcW ws) spcW = ws := TL.split_join sp_tl (by decide +kernel) h0 h
theorem mem_joinL : ∀ (l : List (List Nat)) (k : Nat), k ∈ TL.joinL [32] l → (∃ w ∈ l, k ∈ w) ∨ k = 32
  | [], k, h => nomatch h
  | [p], k, h => .inl ⟨p, List.mem_singleton.mpr rfl, h⟩
  | p :: q :: r, k, h => by
    have h2 : k ∈ p ++ ([32] ++ TL.joinL [32] (q :: r)) := h
    rcases List.mem_append.mp h2 with z | z
    · exact .inl ⟨p, List.mem_cons_self, z⟩
    · rcases List.mem_append.mp z with y | y
      · exact .inr (List.mem_singleton.mp y)
      · rcases mem_joinL (q :: r) k y with ⟨w, hw, hk⟩ | e
        · exact .inl ⟨w, List.mem_cons_of_mem _ hw, hk⟩
        · exact .inr e
theorem mem_join (ws : List Str) (k : Nat) (h : k ∈ TL.tl (Txt.join spcW ws)) : (∃ w ∈ ws, k ∈ TL.tl w) ∨ k = 32 := by
  have e : TL.tl (Txt.join spcW ws) = TL.joinL [32] (ws.map TL.tl) := by rw [TL.join_eq, TL.tl_join, sp_tl]
  rw [e] at h
  rcases mem_joinL _ _ h with ⟨w, hw, hk⟩ | z
  · obtain ⟨v, hv, rfl⟩ := List.mem_map.mp hw
    exact .inl ⟨v, hv, hk⟩
  · exact .inr z
theorem ok_str (a : Str) (h : ∀ k ∈ TL.tl a, k < 0x110000) : okD (.str a) = true := by
  have e : a.cps.all (· < 0x110000) = true := by
    rw [← Array.all_toList]
    exact List.all_eq_true.mpr fun k hk => decide_eq_true (h k hk)
  show (true && (PyData.strOk a && decide (PyData.depth (.str a) ≤ 64))) = true
  unfold PyData.strOk
  rw [e]
  rfl
theorem ne_str (a : Str) (h : ∀ k ∈ TL.tl a, k < 0x110000) : neD (.str a) (.str a) = some ff' := by
  have e : PyData.eqv (D.py (.str a)) (D.py (.str a)) = true := by
    show (a == a) = true
    exact beq_self_eq_true a
  show (if (okD (.str a) && okD (.str a)) = true then some (bR (!PyData.eqv (D.py (.str a)) (D.py (.str a)))) else none) = _
  rw [e, ok_str a h]
  rfl
/-! ### more running rules -/
section
variable {env env1 : SEnv} {S S1 S2 : Sto} {a b : Sx} {x y t : Ex} {r : R} {n : Nat} {fs : List D}
theorem s_exc (h : a env S = .exc n fs S1) : seqS a b env S = .exc n fs S1 := by unfold seqS; rw [h]; rfl
theorem e_exx (h : x env S = .exc n fs S1) : exS x env S = .exc n fs S1 := by unfold exS; rw [h]; rfl
theorem f_exc {as : List Pv.Arg} {m : Nat} (h : a (as.map Arg.sl ++ List.replicate (m - as.length) .un) S = .exc n fs S1) : runF a m as S = .exc n fs S1 := by unfold runF; rw [h]; rfl
theorem t_ok {m : Nat → Option Bool} {y : Nat} {fl : Fl} (h : b env S = .ok fl S1) : tryF b m y env S = .ok fl S1 := by unfold tryF; rw [h]
theorem t_exc {m : Nat → Option Bool} {y : Nat} (h : b env S = .exc n fs S1) (hm : m n = some true) : tryF b m y env S = .exc y [] S1 := by unfold tryF; rw [h]; simp only [hm]
theorem told_exc {ans : Nat → List D → Option D} {d z : D} (h : x env S = .exc n fs S1) (ha : ans n fs = some z) : toldX x ans d env S = .ok ⟨false, z⟩ S1 := by unfold toldX; rw [h]; simp only [ha]
theorem told_ok {ans : Nat → List D → Option D} {d : D} (h : x env S = .ok r S1) : toldX x ans d env S = .ok ⟨false, d⟩ S1 := by unfold toldX; rw [h]
theorem fo_exc {tg : Tx} {d : D} {ds : List D} (h : tg env d = some env1) (h2 : b env1 S = .exc n fs S1) : forL tg b (d :: ds) env S = .exc n fs S1 := by unfold forL; rw [h]; simp only [h2, Out.bind]
theorem e_forx {tg : Tx} {it : Ix} {ds : List D} (h : it env S = .ok ds S1) (h2 : forL tg b ds env S1 = .exc n fs S2) : forS tg it b env S = .exc n fs S2 := by unfold forS; rw [h]; simp only [Out.bind, h2]
theorem i_x (h : t env S = .ok tt' S1) (h2 : a env S1 = .exc n fs S2) : ifS t a b env S = .exc n fs S2 := i_t h h2
theorem rv_exc (h : x env S = .ok r S1) : raiseV n x env S = .exc n [r.d] S1 := by unfold raiseV; rw [h]; rfl
theorem e_val {l : List D} (h : x env S = .ok r S1) (hl : seqD r.d = some l) : iVal x env S = .ok l S1 := by unfold iVal; rw [h]; simp only [Out.bind, hl]
end
theorem comp_ints2 {tg : Tx} {t e : Ex} {env : SEnv} (P Q : Int → Prop) (turn : ∀ (x : Int) (row : D), P x → RowOk row → ∃ env1 v row', tg env (.int x) = some env1 ∧ t env1 [row] = .ok ⟨false, .bl true⟩ [row] ∧ e env1 [row] = .ok ⟨false, .int v⟩ [row'] ∧ Q v ∧ RowOk row') :
    ∀ (xs : List Int) (row : D), (∀ x ∈ xs, P x) → RowOk row → ∃ (ys : List Int) (row' : D), compL tg t e env (xs.map D.int) [row] = .ok (ys.map D.int) [row'] ∧ ys.length = xs.length ∧ (∀ y ∈ ys, Q y) ∧ RowOk row'
  | [], row, _, r => ⟨[], row, rfl, rfl, (fun x h => nomatch h), r⟩
  | d :: ds, row, hp, r => by
    obtain ⟨env1, v, row', h1, h2, h3, h4, h5⟩ := turn d row (hp d List.mem_cons_self) r
    obtain ⟨xs, row2, g1, g2, g3, g4⟩ := comp_ints2 P Q turn ds row' (fun x hx => hp x (List.mem_cons_of_mem _ hx)) h5
    refine ⟨v :: xs, row2, ?_, congrArg (· + 1) g2, fun x hx => ?_, g4⟩
    · show compL tg t e env (D.int d :: ds.map D.int) [row] = _
      unfold compL
      rw [h1]
      simp only [h2, nox, Out.bind, h3, g1]
      rfl
    · rcases List.mem_cons.mp hx with q | q
      · rw [q]; exact h4
      · exact g3 x q
/-- a game that is one -/
theorem needGame2 {i : Nat} {r1 r2 : Sx} {sz : List (Int × Int)} {cf : Nat → List Pv.Arg → Sto → Out R} {S : Sto} (hc : ∀ (x : Int) (S : Sto), cf i [.sh (.int x)] S = .ok tt' S) (xs : List Int) (hl : op1 (kninD (tbI sz)) (b1V lenD 0) [.sh (nD xs), .un] S = .ok ff' S) (hn : xs.length < 1000) (h : ∀ x ∈ xs, -1000 ≤ x ∧ x ≤ 1000) :
    runF (seqS (ifS (orX (notX (isIX ["tuple"] (var 0))) (op1 (kninD (tbI sz)) (b1V lenD 0))) r1 skip)
    (forS (tName 1) (iRg1 (lcons (b1V lenD 0) lnil)) (ifS (orX (notX (callX cf i (aval (subV 0 (var 1)) anil))) (op2 gtD (op1 absD (subV 0 (var 1))) (con (.int 1000)))) r2 skip))) 2 [.sh (nD xs)] S = .ok ⟨false, .non⟩ S := by
  have hw : (-line : Int) ≤ (xs.length : Int) ∧ (xs.length : Int) ≤ line := by unfold line; omega
  have it : iRg1 (lcons (b1V lenD 0) lnil) [.sh (nD xs), .un] S = .ok ((List.range xs.length).map fun (i : Nat) => D.int i) S := by
    have e : lenD (nD xs) = some ⟨false, .int xs.length⟩ := by rw [nD, len_tup, List.length_map]
    simp [iRg1, lcons, lnil, b1V, peek, sget, e, Out.bind, hw]
  obtain ⟨env', _, he⟩ := for_inv (tg := tName 1) (S := S) (b := ifS (orX (notX (callX cf i (aval (subV 0 (var 1)) anil))) (op2 gtD (op1 absD (subV 0 (var 1))) (con (.int 1000)))) r2 skip) (fun env => sget env 0 = .sh (nD xs) ∧ env.length = 2) ((List.range xs.length).map fun (i : Nat) => D.int i) (fun d hd env he => by
    obtain ⟨k, hk, rfl⟩ := List.mem_map.mp hd
    rw [List.mem_range] at hk
    match env, he with
    | [s0, s1], ⟨h0, _⟩ =>
      obtain rfl : s0 = .sh (nD xs) := h0
      refine ⟨[.sh (nD xs), .sh (.int k)], [.sh (nD xs), .sh (.int k)], rfl, ?_, rfl, rfl⟩
      have e0 : subV 0 (var 1) [.sh (nD xs), .sh (.int k)] S = .ok ⟨false, .int xs[k]⟩ S := by
        have e : atD (nD xs) (.int k) = some ⟨false, .int xs[k]⟩ := by rw [nD, at_tup, atI_ints hk]; rfl
        simp [subV, var, peek, sget, Out.bind, e]
      exact i_f (or_f (not_t (x_call (a_val e0 rfl) (hc _ _))) (e_2 (e_1 e0 rfl) rfl (gt_abs (h _ (List.getElem_mem hk))))) rfl) [.sh (nD xs), .un] ⟨rfl, rfl⟩
  exact f_nx (m := 2) (as := [.sh (nD xs)]) (s_nx (i_f (or_f (not_t rfl) hl) rfl) (e_for it he))
/-- a row of a wrong length -/
theorem needGame_len {n : Nat} {q : D} {r2 : Sx} {sz : List (Int × Int)} {S : Sto} (ds : List D) (hl : op1 (kninD (tbI sz)) (b1V lenD 0) [.sh (.tup ds), .un] S = .ok tt' S) :
    runF (seqS (ifS (orX (notX (isIX ["tuple"] (var 0))) (op1 (kninD (tbI sz)) (b1V lenD 0))) (raiseV n (con q)) skip) r2) 2 [.sh (.tup ds)] S = .exc n [q] S :=
  f_exc (as := [.sh (.tup ds)]) (s_exc (i_x (or_f (not_t rfl) hl) (rv_exc (r := ⟨false, q⟩) rfl)))
theorem it_len {S : Sto} (t : D) (n : Nat) (e : lenD t = some ⟨false, .int n⟩) (hw : (-line : Int) ≤ (n : Int) ∧ (n : Int) ≤ line) (s1 : Sl) : iRg1 (lcons (b1V lenD 0) lnil) [.sh t, s1] S = .ok ((List.range n).map fun (i : Nat) => D.int i) S := by
  simp [iRg1, lcons, lnil, b1V, peek, sget, e, Out.bind, hw]
theorem atI_head (d : D) (ds : List D) : atI (d :: ds) 0 = some d := by
  unfold atI ixN
  simp
/-- a row whose first is no number of a game -/
theorem needGame_0 {i n : Nat} {r1 : Sx} {sz : List (Int × Int)} {cf : Nat → List Pv.Arg → Sto → Out R} {S : Sto} (d : D) (ds : List D) (hl : op1 (kninD (tbI sz)) (b1V lenD 0) [.sh (.tup (d :: ds)), .un] S = .ok ff' S) (hn : ds.length < 1000)
    (hb : orX (notX (callX cf i (aval (con d) anil))) (op2 gtD (op1 absD (con d)) (con (.int 1000))) [.sh (.tup (d :: ds)), .sh (.int 0)] S = .ok tt' S) :
    runF (seqS (ifS (orX (notX (isIX ["tuple"] (var 0))) (op1 (kninD (tbI sz)) (b1V lenD 0))) r1 skip)
    (forS (tName 1) (iRg1 (lcons (b1V lenD 0) lnil)) (ifS (orX (notX (callX cf i (aval (subV 0 (var 1)) anil))) (op2 gtD (op1 absD (subV 0 (var 1))) (con (.int 1000)))) (raiseV n (var 1)) skip))) 2 [.sh (.tup (d :: ds))] S = .exc n [.int 0] S := by
  have hw : (-line : Int) ≤ (((d :: ds).length : Nat) : Int) ∧ (((d :: ds).length : Nat) : Int) ≤ line := by unfold line; rw [List.length_cons]; omega
  have it := it_len (S := S) (.tup (d :: ds)) (d :: ds).length (len_tup _) hw .un
  rw [List.length_cons, List.range_succ_eq_map, List.map_cons] at it
  have e0 : ∀ S, subV 0 (var 1) [.sh (.tup (d :: ds)), .sh (.int 0)] S = .ok ⟨false, d⟩ S := fun S => by
    have e : atD (.tup (d :: ds)) (.int 0) = some ⟨false, d⟩ := by rw [at_tup, atI_head]; rfl
    exact sub_of (d := .tup (d :: ds)) (r1 := ⟨false, .int 0⟩) rfl rfl e
  have cd : ∀ S, con d [.sh (.tup (d :: ds)), .sh (.int 0)] S = .ok ⟨false, d⟩ S := fun S => rfl
  have ee : orX (notX (callX cf i (aval (subV 0 (var 1)) anil))) (op2 gtD (op1 absD (subV 0 (var 1))) (con (.int 1000))) [.sh (.tup (d :: ds)), .sh (.int 0)] S = .ok tt' S := by
    rw [← hb]
    simp only [orX, notX, callX, aval, op2, op1, e0, cd]
  exact f_exc (as := [.sh (.tup (d :: ds))]) ((s_nx (i_f (or_f (not_t rfl) hl) rfl) (e_forx it (fo_exc (env1 := [.sh (.tup (d :: ds)), .sh (.int 0)]) rfl (i_x ee (rv_exc (r := ⟨false, .int 0⟩) rfl))))))
/-- the words of some numbers, joined -/
def Wd (x : Int) : Str := Str.ofString (toString x)
theorem strs_wd (ys : List Int) : strsOf (ys.map fun y => D.str (Wd y)) = some (ys.map Wd) := by
  induction ys with
  | nil => rfl
  | cons y ys ih => show (strsOf _).map _ = _; rw [ih]; rfl
theorem join_wd {i : Nat} {it : Ix} {env : SEnv} {S : Sto} {ys : List Int} (hi : i < env.length) (h : it env S = .ok (ys.map D.int) S) (hy : ∀ y ∈ ys, y.natAbs.log2 < 1920 ∧ (Wd y).length ≤ 6) (hl : ys.length ≤ 20) : joinX (con (.str (Str.ofString " "))) (compX [i] (tName i) it (con (.bl true)) (b1V strOfD i)) env S = .ok ⟨false, .str (Txt.join spcW (ys.map Wd))⟩ S := by
  have e : compX [i] (tName i) it (con (.bl true)) (b1V strOfD i) env S = .ok ⟨true, .lst (ys.map fun y => D.str (Wd y))⟩ S := e_comp h (by rw [List.length_map]; unfold line; omega) (comp_fn D.int (fun y => D.str (Wd y)) ys fun y hm => by
    refine ⟨_, rfl, rfl, false, ?_⟩
    have g : peek ((clr env [i]).set i (.sh (.int y))) S i = some (.int y) := by
      have : i < (clr env [i]).length := by simpa [clr] using hi
      simp [peek, sget, List.getElem?_set, this]
    unfold b1V
    simp only [g, strOfD, if_pos (hy y hm).1]
    rfl)
  have hs : ((ys.map Wd).map (·.length)).sum + (ys.map Wd).length * spcW.length ≤ 16777216 := by
    have h1 := sum_le (·.length) 6 (ys.map Wd) fun w hw => by
      obtain ⟨y, hy2, rfl⟩ := List.mem_map.mp hw
      exact (hy y hy2).2
    rw [List.length_map] at h1 ⊢
    have h2 : spcW.length = 1 := by decide +kernel
    rw [h2]
    omega
  unfold joinX
  simp only [con, Out.bind, e, seqD, strs_wd]
  rw [if_pos hs]
end Pv

set_option Elab.async false
set_option linter.all false
set_option maxRecDepth 100000
set_option maxHeartbeats 0
namespace Lk08
open PySem PySem.Spec PyProof.Rows L2 Pv
abbrev boot_bool2 := @PyProof.Rows.boot_bool
abbrev fuel : Nat := Pv.fu
def steps : Nat := 12000
def deep : Nat := 12
def Gx : Nat → Option (Addr × List Str) := fun _ => none
def Xx (K : PySem.W.Frag) : Nat → Value
  | 0 => .ref (He.ga K "ShareError")
  | 1 => .ref (He.ga K "BadGame")
  | 2 => .ref (He.ga K "NotText")
  | 3 => .ref (He.ga K "InvalidText")
  | _ => .none
/-! ### tables and tuples of the modules -/
def ti_SIZES : List (Int × Int) := [(3, 2), (7, 3), (15, 4)]
abbrev t_SIZES : List (Key × D) := tbI ti_SIZES
/-! ### the text: where each def stands -/
def top (i : Nat) : Stmt := PySem.Challenge.pw_worthshares_k08_whole_texts.main.body.getD i (.Pass ⟨0, 0, 0, 0⟩)
abbrev st0 : Stmt := top 8
abbrev N0 : List Str := ["value"]
abbrev A0 : List Str := ["value"]
theorem sc0 : FnScope N0 A0 (defScope st0) := ⟨rfl, rfl, rfl, by decide +kernel, rfl, by decide +kernel, by decide +kernel⟩
abbrev st1 : Stmt := top 9
abbrev N1 : List Str := ["game", "index"]
abbrev A1 : List Str := ["game"]
theorem sc1 : FnScope N1 A1 (defScope st1) := ⟨rfl, rfl, rfl, by decide +kernel, rfl, by decide +kernel, by decide +kernel⟩
abbrev st2 : Stmt := top 12
abbrev N2 : List Str := ["text"]
abbrev A2 : List Str := ["text"]
theorem sc2 : FnScope N2 A2 (defScope st2) := ⟨rfl, rfl, rfl, by decide +kernel, rfl, by decide +kernel, by decide +kernel⟩
abbrev st3 : Stmt := top 13
abbrev N3 : List Str := ["word", "rest", "sign"]
abbrev A3 : List Str := ["word"]
theorem sc3 : FnScope N3 A3 (defScope st3) := ⟨rfl, rfl, rfl, by decide +kernel, rfl, by decide +kernel, by decide +kernel⟩
abbrev st4 : Stmt := top 14
abbrev N4 : List Str := ["game", "own"]
abbrev A4 : List Str := ["game"]
theorem sc4 : FnScope N4 A4 (defScope st4) := ⟨rfl, rfl, rfl, by decide +kernel, rfl, by decide +kernel, by decide +kernel⟩
abbrev st5 : Stmt := top 15
abbrev N5 : List Str := ["text", "found", "e", "word"]
abbrev A5 : List Str := ["text"]
theorem sc5 : FnScope N5 A5 (defScope st5) := ⟨rfl, rfl, rfl, by decide +kernel, rfl, by decide +kernel, by decide +kernel⟩
abbrev st6 : Stmt := top 17
abbrev N6 : List Str := ["_law_row", "_law_many", "_law_found", "_law_cell"]
abbrev A6 : List Str := ["_law_row", "_law_many"]
theorem sc6 : FnScope N6 A6 (defScope st6) := ⟨rfl, rfl, rfl, by decide +kernel, rfl, by decide +kernel, by decide +kernel⟩
abbrev st7 : Stmt := top 18
abbrev N7 : List Str := ["_law_row", "_law_kinds"]
abbrev A7 : List Str := ["_law_row", "_law_kinds"]
theorem sc7 : FnScope N7 A7 (defScope st7) := ⟨rfl, rfl, rfl, by decide +kernel, rfl, by decide +kernel, by decide +kernel⟩
abbrev st8 : Stmt := top 19
abbrev N8 : List Str := ["_law_found", "_law_due", "_law_k"]
abbrev A8 : List Str := ["_law_found", "_law_due"]
theorem sc8 : FnScope N8 A8 (defScope st8) := ⟨rfl, rfl, rfl, by decide +kernel, rfl, by decide +kernel, by decide +kernel⟩
abbrev st9 : Stmt := top 20
abbrev N9 : List Str := ["_law_many", "_law_found", "_law_size", "_law_layer", "_law_turn", "_law_longer", "_law_one", "_law_person"]
abbrev A9 : List Str := ["_law_many"]
theorem sc9 : FnScope N9 A9 (defScope st9) := ⟨rfl, rfl, rfl, by decide +kernel, rfl, by decide +kernel, by decide +kernel⟩
abbrev st10 : Stmt := top 21
abbrev N10 : List Str := ["_law_game_here", "_law_many", "_law_found"]
abbrev A10 : List Str := ["_law_game_here", "_law_many"]
theorem sc10 : FnScope N10 A10 (defScope st10) := ⟨rfl, rfl, rfl, by decide +kernel, rfl, by decide +kernel, by decide +kernel⟩
abbrev st11 : Stmt := top 22
abbrev N11 : List Str := ["_law_group", "_law_person", "_law_one"]
abbrev A11 : List Str := ["_law_group", "_law_person"]
theorem sc11 : FnScope N11 A11 (defScope st11) := ⟨rfl, rfl, rfl, by decide +kernel, rfl, by decide +kernel, by decide +kernel⟩
abbrev st12 : Stmt := top 23
abbrev N12 : List Str := ["_law_group", "_law_person", "_law_one"]
abbrev A12 : List Str := ["_law_group", "_law_person"]
theorem sc12 : FnScope N12 A12 (defScope st12) := ⟨rfl, rfl, rfl, by decide +kernel, rfl, by decide +kernel, by decide +kernel⟩
abbrev st13 : Stmt := top 24
abbrev N13 : List Str := ["_law_row", "_law_many", "_law_some", "_law_kind", "_law_group", "_law_found", "_law_worths_here", "_law_who", "_law_own", "_law_other", "_law_person"]
abbrev A13 : List Str := ["_law_row", "_law_many"]
theorem sc13 : FnScope N13 A13 (defScope st13) := ⟨rfl, rfl, rfl, by decide +kernel, rfl, by decide +kernel, by decide +kernel⟩
abbrev st14 : Stmt := top 25
abbrev N14 : List Str := ["_law_work", "e"]
abbrev A14 : List Str := ["_law_work"]
theorem sc14 : FnScope N14 A14 (defScope st14) := ⟨rfl, rfl, rfl, by decide +kernel, rfl, by decide +kernel, by decide +kernel⟩
abbrev st15 : Stmt := top 26
abbrev N15 : List Str := ["_law_script", "_law_many", "_law_game_here", "_law_text", "_law_rest", "_law_bad", "_law_odd", "_law_row", "_law_own"]
abbrev A15 : List Str := ["_law_script"]
theorem sc15 : FnScope N15 A15 (defScope st15) := ⟨rfl, rfl, rfl, by decide +kernel, rfl, by decide +kernel, by decide +kernel⟩
def m_BadGame : Nat → Option Bool := fun k => if k = 1 then some true else none
def okk14 (k : Nat) : Prop := k = 3 ∨ k = 2
def ansV14 (k : Nat) : V := if k = 3 then (.str (Str.ofString "invalid")) else if k = 2 then (.str (Str.ofString "text")) else .non
def ans14 (k : Nat) (fs : List D) : Option D := match fs with
  | [] => if k = 3 then some (.str (Str.ofString "invalid")) else if k = 2 then some (.str (Str.ofString "text")) else none
  | _ => none
abbrev ansd14 : D := (.str (Str.ofString ""))
/-! ### what each def computes -/
/-- is_integer -/
def b0 (cf : Nat → List Pv.Arg → Sto → Out R) : Sx :=
    (retS (andX (isIX ["int"] (var 0)) (notX (isIX ["bool"] (var 0)))))
/-- need_game -/
def b1 (cf : Nat → List Pv.Arg → Sto → Out R) : Sx :=
    (seqS (ifS (orX (notX (isIX ["tuple"] (var 0))) (op1 (kninD t_SIZES) (b1V lenD 0))) (raiseV 1 (con .non)) skip)
    (forS (tName 1) (iRg1 (lcons (b1V lenD 0) lnil)) (ifS (orX (notX (callX cf 0 (aval (subV 0 (var 1)) anil))) (op2 gtD (op1 absD (subV 0 (var 1))) (con (.int 1000)))) (raiseV 1 (var 1)) skip)))
/-- need_text -/
def b2 (cf : Nat → List Pv.Arg → Sto → Out R) : Sx :=
    (ifS (notX (isIX ["str"] (var 0))) (raiseS 2) skip)
/-- number_in -/
def b3 (cf : Nat → List Pv.Arg → Sto → Out R) : Sx :=
    (seqS (setS 1 (iteX (op2 eqD (sliceV 0 onone (osome (con (.int 1)))) (con (.str (Str.ofString "-")))) (sliceV 0 (osome (con (.int 1))) onone) (var 0)))
    (seqS (ifS (orX (notX (chain leD leD (con (.int 1)) (b1V lenD 1) (con (.int 4)))) (notX (op1 allD (compX [2] (tName 2) (iAny (var 1)) (con (.bl true)) (op2 memD (var 2) (con (.str (Str.ofString "0123456789")))))))) (retS (con .non)) skip)
    (seqS (ifS (andX (op2 eqD (subV 1 (con (.int 0))) (con (.str (Str.ofString "0")))) (op2 neD (var 0) (con (.str (Str.ofString "0"))))) (retS (con .non)) skip)
    (retS (b1V intOfD 0)))))
/-- write_game -/
def b4 (cf : Nat → List Pv.Arg → Sto → Out R) : Sx :=
    (seqS (exS (callX cf 1 (aname 0 anil)))
    (retS (joinX (con (.str (Str.ofString " "))) (compX [1] (tName 1) (iVal (var 0)) (con (.bl true)) (b1V strOfD 1)))))
/-- read_game -/
def b5 (cf : Nat → List Pv.Arg → Sto → Out R) : Sx :=
    (seqS (exS (callX cf 2 (aname 0 anil)))
    (seqS (setS 1 (op1 tupleD (compX [3] (tName 3) (iVal (splitX (var 0) (con (.str (Str.ofString " "))))) (con (.bl true)) (callX cf 3 (aname 3 anil)))))
    (seqS (tryF (exS (callX cf 1 (aname 1 anil))) m_BadGame 3)
    (retS (var 1)))))
/-- law: taken -/
def b6 (cf : Nat → List Pv.Arg → Sto → Out R) : Sx :=
    (seqS (ifS (op2 gtD (subV 0 (con (.int 3))) (con (.int 0))) (seqS (setS 2 (op2 modD (op1 intD (subV 0 (con (.int 3)))) (var 1)))
    (seqS (storeS 0 (con (.int 3)) (op2 fdivD (subV 0 (con (.int 3))) (var 1)))
    (retS (var 2)))) skip)
    (seqS (storeS 0 (con (.int 1)) (op2 addD (subV 0 (con (.int 1))) (con (.int 1))))
    (seqS (ifS (op2 gtD (subV 0 (con (.int 1))) (op1 lenD (subV 0 (con (.int 0))))) (seqS (storeS 0 (con (.int 2)) (op2 modD (op1 intD (op2 addD (op2 mulD (subV 0 (con (.int 2))) (con (.int 48271))) (con (.int 11)))) (con (.int 2147483647))))
    (retS (op2 modD (op1 intD (op2 fdivD (subV 0 (con (.int 2))) (con (.int 7)))) (var 1)))) skip)
    (seqS (setS 3 (op2 atD (subV 0 (con (.int 0))) (op2 subD (subV 0 (con (.int 1))) (con (.int 1)))))
    (seqS (storeS 0 (con (.int 2)) (op2 modD (op1 intD (op2 addD (op2 addD (op2 mulD (subV 0 (con (.int 2))) (con (.int 48271))) (var 3)) (con (.int 11)))) (con (.int 2147483647))))
    (seqS (ifS (op2 geD (var 3) (op2 powD (con (.int 10)) (con (.int 18)))) (storeS 0 (con (.int 3)) (op2 fdivD (var 3) (var 1))) skip)
    (retS (op2 modD (b1V intD 3) (var 1)))))))))
/-- law: pick -/
def b7 (cf : Nat → List Pv.Arg → Sto → Out R) : Sx :=
    (retS (subV 1 (callX cf 6 (aname 0 (aval (b1V lenD 1) anil)))))
/-- law: alike -/
def b8 (cf : Nat → List Pv.Arg → Sto → Out R) : Sx :=
    (seqS (ifS (isIX ["tuple", "list"] (var 1)) (seqS (ifS (orX (notX (isIX ["tuple", "list"] (var 0))) (op2 neD (isIX ["list"] (var 0)) (isIX ["list"] (var 1)))) (retS (con (.bl false))) skip)
    (seqS (ifS (op2 neD (b1V lenD 0) (b1V lenD 1)) (retS (con (.bl false))) skip)
    (retS (op2 eqD (compX [2] (tName 2) (iRg1 (lcons (b1V lenD 1) lnil)) (notX (callX cf 8 (aval (subV 0 (var 2)) (aval (subV 1 (var 2)) anil)))) (var 2)) (lstX lnil))))) skip)
    (seqS (ifS (orX (op2 isND (var 1) (con .non)) (isIX ["str"] (var 1))) (retS (andX (op2 eqD (var 0) (var 1)) (op2 eqD (isIX ["str"] (var 0)) (isIX ["str"] (var 1))))) skip)
    (retS (andX (isIX ["int"] (var 0)) (andX (op2 eqD (isIX ["bool"] (var 0)) (isIX ["bool"] (var 1))) (op2 eqD (var 0) (var 1)))))))
/-- law: groups -/
def b9 (cf : Nat → List Pv.Arg → Sto → Out R) : Sx :=
    (seqS (setS 1 (lstX lnil))
    (seqS (forS (tName 2) (iRg2 (lcons (con (.int 1)) (lcons (op2 addD (var 0) (con (.int 1))) lnil))) (seqS (setS 3 (lstX (lcons (tupX lnil) lnil)))
    (seqS (forS (tName 4) (iRg1 (lcons (var 2) lnil)) (seqS (setS 5 (lstX lnil))
    (seqS (forS (tName 6) (iVal (var 3)) (setS 5 (op2 addD (var 5) (compX [7] (tName 7) (iRg2 (lcons (iteX (op2 neD (var 6) (tupX lnil)) (op2 addD (subV 6 (op1 negD (con (.int 1)))) (con (.int 1))) (con (.int 0))) (lcons (var 0) lnil))) (con (.bl true)) (op2 addD (var 6) (tupX (lcons (var 7) lnil)))))))
    (setS 3 (var 5)))))
    (setS 1 (op2 addD (var 1) (var 3))))))
    (retS (var 1))))
/-- law: worths -/
def b10 (cf : Nat → List Pv.Arg → Sto → Out R) : Sx :=
    (seqS (setO 2 (op1 dictL (biX lzip (lcons (callX cf 9 (aname 1 anil)) (lcons (var 0) lnil)))))
    (seqS (storeS 2 (tupX lnil) (con (.int 0)))
    (retO 2)))
/-- law: with -/
def b11 (cf : Nat → List Pv.Arg → Sto → Out R) : Sx :=
    (retS (op1 tupleD (op1 sortedD (op2 addD (compX [2] (tName 2) (iVal (var 0)) (op2 neD (var 2) (var 1)) (var 2)) (lstX (lcons (var 1) lnil))))))
/-- law: less -/
def b12 (cf : Nat → List Pv.Arg → Sto → Out R) : Sx :=
    (retS (op1 tupleD (compX [2] (tName 2) (iVal (var 0)) (op2 neD (var 2) (var 1)) (var 2))))
/-- law: game -/
def b13 (cf : Nat → List Pv.Arg → Sto → Out R) : Sx :=
    (seqS (par2 2 false 3 false (callX cf 9 (aname 1 anil)) (callX cf 6 (aname 0 (aval (con (.int 6)) anil))))
    (seqS (setS 5 (compX [4] (tName 4) (iVal (var 2)) (con (.bl true)) (callX cf 7 (aname 0 (aval (lstX (lcons (con (.int 0)) (lcons (con (.int 0)) (lcons (con (.int 1)) (lcons (op1 negD (con (.int 1))) (lcons (con (.int 2)) (lcons (con (.int 5)) (lcons (op2 subD (callX cf 6 (aname 0 (aval (con (.int 41)) anil))) (con (.int 20))) lnil)))))))) anil)))))
    (seqS (par2 6 true 7 false (callX cf 10 (aname 5 (aname 1 anil))) (callX cf 6 (aname 0 (aname 1 anil))))
    (seqS (setS 8 (callX cf 7 (aname 0 (aval (lstX (lcons (con (.int 0)) (lcons (con (.int 0)) (lcons (con (.int 3)) lnil)))) anil))))
    (seqS (ifS (op2 eqD (var 3) (con (.int 1))) (setS 5 (compX [4] (tName 4) (iVal (var 2)) (con (.bl true)) (op1 sumD (compX [10] (tName 10) (iVal (var 4)) (con (.bl true)) (subV 5 (var 10)))))) skip)
    (seqS (ifS (op2 eqD (var 3) (con (.int 2))) (setS 5 (compX [4] (tName 4) (iVal (var 2)) (con (.bl true)) (op2 addD (subV 6 (callX cf 12 (aname 4 (aname 7 anil)))) (iteX (inV memD (var 7) 4) (var 8) (con (.int 0)))))) skip)
    (seqS (ifS (op2 eqD (var 3) (con (.int 3))) (seqS (setS 9 (op2 modD (op2 addD (var 7) (con (.int 1))) (var 1)))
    (seqS (forS (tName 4) (iVal (var 2)) (ifS (andX (inV memD (var 7) 4) (inV nmemD (var 9) 4)) (storeS 6 (callX cf 11 (aval (callX cf 12 (aname 4 (aname 7 anil))) (aname 9 anil))) (subV 6 (var 4))) skip))
    (setS 5 (compX [4] (tName 4) (iVal (var 2)) (con (.bl true)) (subV 6 (var 4)))))) skip)
    (seqS (ifS (op2 eqD (var 3) (con (.int 4))) (setS 5 (compX [4] (tName 4) (iVal (var 2)) (con (.bl true)) (iteX (inV memD (var 7) 4) (con (.int 0)) (subV 6 (var 4))))) skip)
    (retS (b1V tupleD 5))))))))))
/-- law -/
def b15 (cf : Nat → List Pv.Arg → Sto → Out R) : Sx :=
    (cellS 7 (lstX (lcons (var 0) (lcons (con (.int 0)) (lcons (con (.int 15668)) (lcons (con (.int 0)) lnil)))))
    (seqS (setS 1 (op2 addD (con (.int 2)) (callX cf 6 (aname 7 (aval (con (.int 3)) anil)))))
    (seqS (setS 2 (op1 tupleD (compX [8] (tName 8) (iVal (callX cf 13 (aname 7 (aname 1 anil)))) (con (.bl true)) (callX cf 7 (aname 7 (aval (lstX (lcons (var 8) (lcons (con (.int 1000)) (lcons (op1 negD (con (.int 1000))) (lcons (con (.int 0)) lnil))))) anil))))))
    (seqS (setS 3 (joinX (con (.str (Str.ofString " "))) (compX [8] (tName 8) (iVal (var 2)) (con (.bl true)) (b1V strOfD 8))))
    (seqS (ifS (orX (op2 neD (callX cf 4 (aname 2 anil)) (var 3)) (notX (callX cf 8 (aval (callX cf 5 (aname 3 anil)) (aname 2 anil))))) (retS (con (.bl false))) skip)
    (seqS (par2 4 false 5 false (joinX (con (.str (Str.ofString " "))) (compX [8] (tName 8) (iVal (sliceV 2 (osome (con (.int 1))) onone)) (con (.bl true)) (b1V strOfD 8))) (callX cf 7 (aname 7 (aval (lstX (lcons (con (.str (Str.ofString "1001"))) (lcons (con (.str (Str.ofString "-1001"))) (lcons (con (.str (Str.ofString "01"))) (lcons (con (.str (Str.ofString "-0"))) (lcons (con (.str (Str.ofString "+1"))) (lcons (con (.str (Str.ofString "1.0"))) (lcons (con (.str (Str.ofString "a"))) (lcons (con (.str (Str.ofString ""))) (lcons (con (.str (Str.ofString " 1"))) (lcons (con (.str (Str.ofString "1 "))) (lcons (con (.str (Str.ofString "--1"))) (lcons (con (.str (Str.ofString "-"))) (lcons (con (.str (Str.ofString "00"))) (lcons (con (.str (Str.ofString "1/2"))) (lcons (con (.str (Str.ofString "10000"))) lnil)))))))))))))))) anil))))
    (seqS (setS 6 (lstX (lcons (con (.str (Str.ofString ""))) (lcons (con (.str (Str.ofString "0"))) (lcons (con (.str (Str.ofString "0 0"))) (lcons (con (.str (Str.ofString "0 0 0 0"))) (lcons (var 4) (lcons (op2 addD (var 3) (con (.str (Str.ofString " 0")))) (lcons (op2 addD (op2 addD (var 5) (con (.str (Str.ofString " ")))) (var 4)) lnil)))))))))
    (seqS (ifS (op2 neD (toldX (callX cf 5 (aval (callX cf 7 (aname 7 (aname 6 anil))) anil)) ans14 ansd14) (con (.str (Str.ofString "invalid")))) (retS (con (.bl false))) skip)
    (retS (op2 eqD (toldX (callX cf 5 (aval (callX cf 7 (aname 7 (aval (lstX (lcons (con .non) (lcons (con (.int 5)) (lcons (lstX (lcons (con (.int 0)) (lcons (con (.int 0)) (lcons (con (.int 0)) lnil)))) (lcons (tupX (lcons (con (.int 0)) (lcons (con (.int 0)) (lcons (con (.int 0)) lnil)))) (lcons (con (.bl true)) lnil)))))) anil))) anil)) ans14 ansd14) (con (.str (Str.ofString "text")))))))))))))
structure GF (P : Program) (K : PySem.W.Frag) (w : World) (mg : Str → Option Value) : Prop where
  isinstance : mg "isinstance" = none
  int : mg "int" = none
  bool : mg "bool" = none
  tuple : mg "tuple" = none
  len : mg "len" = none
  SIZES : ∃ a, mg "SIZES" = some (.ref a) ∧ KTab K Gx w a t_SIZES
  e_BadGame : ErrK P K mg "BadGame" (He.ga K "BadGame") "index"
  range : mg "range" = none
  abs : mg "abs" = none
  MOST_WORTH : ∃ t, mg "MOST_WORTH" = some (.int 1000 t)
  str : mg "str" = none
  x_NotText : ExcK K mg "NotText" (He.ga K "NotText")
  all : mg "all" = none
  FIGURES : ∃ t, mg "FIGURES" = some (.str (Str.ofString "0123456789") t)
  x_InvalidText : ExcK K mg "InvalidText" (He.ga K "InvalidText")
  list : mg "list" = none
  dict : mg "dict" = none
  zip : mg "zip" = none
  sorted : mg "sorted" = none
  sum : mg "sum" = none
  super : mg "super" = none
  b_ShareError : mg "ShareError" = some (.ref (He.ga K "ShareError"))
  b_InvalidText : mg "InvalidText" = some (.ref (He.ga K "InvalidText"))
  b_NotText : mg "NotText" = some (.ref (He.ga K "NotText"))
  tk_InvalidText_ShareError : PySem.W.exmOne K (.ref (He.ga K "InvalidText")) (.ref (He.ga K "ShareError")) = some true
  ec_InvalidText : ExcC K (He.ga K "InvalidText")
  ki_InvalidText_InvalidText : PySem.W.kitOne K (.ref (He.ga K "InvalidText")) (.ref (He.ga K "InvalidText")) = some true
  ki_InvalidText_NotText : PySem.W.kitOne K (.ref (He.ga K "InvalidText")) (.ref (He.ga K "NotText")) = some false
  tk_NotText_ShareError : PySem.W.exmOne K (.ref (He.ga K "NotText")) (.ref (He.ga K "ShareError")) = some true
  ec_NotText : ExcC K (He.ga K "NotText")
  ki_NotText_InvalidText : PySem.W.kitOne K (.ref (He.ga K "NotText")) (.ref (He.ga K "InvalidText")) = some false
  ki_NotText_NotText : PySem.W.kitOne K (.ref (He.ga K "NotText")) (.ref (He.ga K "NotText")) = some true
  em_BadGame : PySem.W.exmOne K (.ref (He.ga K "BadGame")) (.ref (He.ga K "BadGame")) = some true
structure DF (K : PySem.W.Frag) (mg : Str → Option Value) : Prop where
  d0 : ∃ f fd, FunD K "is_integer" "is_integer" (defArgs st0) (defBody st0) (defScope st0) [] [] f fd ∧ mg "is_integer" = some (.ref f)
  d1 : ∃ f fd, FunD K "need_game" "need_game" (defArgs st1) (defBody st1) (defScope st1) [] [] f fd ∧ mg "need_game" = some (.ref f)
  d2 : ∃ f fd, FunD K "need_text" "need_text" (defArgs st2) (defBody st2) (defScope st2) [] [] f fd ∧ mg "need_text" = some (.ref f)
  d3 : ∃ f fd, FunD K "number_in" "number_in" (defArgs st3) (defBody st3) (defScope st3) [] [] f fd ∧ mg "number_in" = some (.ref f)
  d4 : ∃ f fd, FunD K "write_game" "write_game" (defArgs st4) (defBody st4) (defScope st4) [] [] f fd ∧ mg "write_game" = some (.ref f)
  d5 : ∃ f fd, FunD K "read_game" "read_game" (defArgs st5) (defBody st5) (defScope st5) [] [] f fd ∧ mg "read_game" = some (.ref f)
  d6 : ∃ f fd, FunD K "_law_taken" "_law_taken" (defArgs st6) (defBody st6) (defScope st6) [] [] f fd ∧ mg "_law_taken" = some (.ref f)
  d7 : ∃ f fd, FunD K "_law_pick" "_law_pick" (defArgs st7) (defBody st7) (defScope st7) [] [] f fd ∧ mg "_law_pick" = some (.ref f)
  d8 : ∃ f fd, FunD K "_law_alike" "_law_alike" (defArgs st8) (defBody st8) (defScope st8) [] [] f fd ∧ mg "_law_alike" = some (.ref f)
  d9 : ∃ f fd, FunD K "_law_groups" "_law_groups" (defArgs st9) (defBody st9) (defScope st9) [] [] f fd ∧ mg "_law_groups" = some (.ref f)
  d10 : ∃ f fd, FunD K "_law_worths" "_law_worths" (defArgs st10) (defBody st10) (defScope st10) [] [] f fd ∧ mg "_law_worths" = some (.ref f)
  d11 : ∃ f fd, FunD K "_law_with" "_law_with" (defArgs st11) (defBody st11) (defScope st11) [] [] f fd ∧ mg "_law_with" = some (.ref f)
  d12 : ∃ f fd, FunD K "_law_less" "_law_less" (defArgs st12) (defBody st12) (defScope st12) [] [] f fd ∧ mg "_law_less" = some (.ref f)
  d13 : ∃ f fd, FunD K "_law_game" "_law_game" (defArgs st13) (defBody st13) (defScope st13) [] [] f fd ∧ mg "_law_game" = some (.ref f)
  d14 : ∃ f fd, FunD K "_law_told" "_law_told" (defArgs st14) (defBody st14) (defScope st14) [] [] f fd ∧ mg "_law_told" = some (.ref f)
  d15 : ∃ f fd, FunD K "law" "law" (defArgs st15) (defBody st15) (defScope st15) [] [] f fd ∧ mg "law" = some (.ref f)
structure CF (P : Program) (w : World) (K : PySem.W.Frag) (mg : Str → Option Value) (base : Heap) (k : Nat) (cf : Nat → List Pv.Arg → Sto → Out R) : Prop where
  c0 : Callee P w K mg base Gx (Xx K) k "is_integer" 1 (cf 0)
  n0 : CalleeN P w K mg base Gx (Xx K) k "is_integer" 1 (cf 0)
  c1 : Callee P w K mg base Gx (Xx K) k "need_game" 1 (cf 1)
  n1 : CalleeN P w K mg base Gx (Xx K) k "need_game" 1 (cf 1)
  c2 : Callee P w K mg base Gx (Xx K) k "need_text" 1 (cf 2)
  c3 : Callee P w K mg base Gx (Xx K) k "number_in" 1 (cf 3)
  c4 : Callee P w K mg base Gx (Xx K) k "write_game" 1 (cf 4)
  c5 : Callee P w K mg base Gx (Xx K) k "read_game" 1 (cf 5)
  c6 : Callee P w K mg base Gx (Xx K) k "_law_taken" 2 (cf 6)
  c7 : Callee P w K mg base Gx (Xx K) k "_law_pick" 2 (cf 7)
  c8 : Callee P w K mg base Gx (Xx K) k "_law_alike" 2 (cf 8)
  c9 : Callee P w K mg base Gx (Xx K) k "_law_groups" 1 (cf 9)
  c10 : Callee P w K mg base Gx (Xx K) k "_law_worths" 2 (cf 10)
  c11 : Callee P w K mg base Gx (Xx K) k "_law_with" 2 (cf 11)
  c12 : Callee P w K mg base Gx (Xx K) k "_law_less" 2 (cf 12)
  c13 : Callee P w K mg base Gx (Xx K) k "_law_game" 2 (cf 13)
section
variable {P : Program} {w : World} {K : PySem.W.Frag} {mg : Str → Option Value} {base : Heap} {f : Addr} {cdv : Value} {A : Around} {outer : List Env} {s : Shared} {H : Hp} {E : XK} {ρ : List Addr} {P0 : Hp} {k : Nat} {cf : Nat → List Pv.Arg → Sto → Out R}
theorem m_BadGame_ok (g : GF P K w mg) {X : Cx} (hX : X.K = K) : ∀ k q, m_BadGame k = some q → PySem.W.exmOne X.K ((Xx K) k) (.ref (He.ga K "BadGame")) = some q ∧ Raises X ((Xx K) k) := fun k q h => by
  unfold m_BadGame at h
  split at h
  · rename_i e
    subst e
    cases h
    rw [hX]
    exact ⟨g.em_BadGame, raises_own (by rw [hX]; exact g.e_BadGame.S.o.exC) (by rw [hX]; exact g.e_BadGame.S.o.tyC)⟩
  · cases h
theorem told14 (g : GF P K w mg) (d : DF K mg) : ∃ fg fdg, ToldD (XC P w K mg base N15 "law" (defScope st15) f cdv A outer s H E) K Gx (Xx K) "_law_told" "_law_work" fg (defArgs st14) (defBody st14) (defScope st14) fdg N14 okk14 ansV14 (.str (Str.ofString "")) ans14 ansd14 := by
  obtain ⟨fg, fdg, F, hm⟩ := d.d14
  refine ⟨fg, fdg, F, hm, (F.bindsN fun _ _ _ _ _ _ us hl => match us, hl with | [_], _ => rfl), fun cdv2 => told_as (e := "ShareError") rfl g.b_ShareError (by decide +kernel) sc14.nd rfl rfl (fun _ => rfl) (fun k ok => ?_) (fun s2 H2 b oe pn k ok hz hd => ?_) (fun _ _ => pe_str) (fun _ => rfl) (fun _ => rfl), fun _ => .str _, fun k fs z h => ?_⟩
  · rcases ok with rfl | rfl
    · exact g.tk_InvalidText_ShareError
    · exact g.tk_NotText_ShareError
  · rcases ok with rfl | rfl
    · exact (pe_ifE (va := (.str (Str.ofString "text"))) (vb := (.str (Str.ofString "invalid"))) (pe_isE (X := (Zx (XC P w K mg base N15 "law" (defScope st15) f cdv A outer s H E) N14 "_law_told" (defScope st14) fg cdv2 s2 H2)) (n := "e") (y := "NotText") (i := 1) g.ec_InvalidText hz hd rfl g.isinstance rfl (.inl rfl) (by decide +kernel) (by decide +kernel) rfl g.b_NotText (by decide +kernel) g.ki_InvalidText_NotText) pe_str (pe_ifE (va := (.str (Str.ofString "invalid"))) (vb := (.str (Str.ofString "other"))) (pe_isE (X := (Zx (XC P w K mg base N15 "law" (defScope st15) f cdv A outer s H E) N14 "_law_told" (defScope st14) fg cdv2 s2 H2)) (n := "e") (y := "InvalidText") (i := 1) g.ec_InvalidText hz hd rfl g.isinstance rfl (.inl rfl) (by decide +kernel) (by decide +kernel) rfl g.b_InvalidText (by decide +kernel) g.ki_InvalidText_InvalidText) pe_str (pe_imp pe_str fun σ H Q h => h.2)))
    · exact (pe_ifE (va := (.str (Str.ofString "text"))) (vb := (.str (Str.ofString "other"))) (pe_isE (X := (Zx (XC P w K mg base N15 "law" (defScope st15) f cdv A outer s H E) N14 "_law_told" (defScope st14) fg cdv2 s2 H2)) (n := "e") (y := "NotText") (i := 1) g.ec_NotText hz hd rfl g.isinstance rfl (.inl rfl) (by decide +kernel) (by decide +kernel) rfl g.b_NotText (by decide +kernel) g.ki_NotText_NotText) pe_str (pe_ifE (va := (.str (Str.ofString "invalid"))) (vb := (.str (Str.ofString "other"))) (pe_isE (X := (Zx (XC P w K mg base N15 "law" (defScope st15) f cdv A outer s H E) N14 "_law_told" (defScope st14) fg cdv2 s2 H2)) (n := "e") (y := "InvalidText") (i := 1) g.ec_NotText hz hd rfl g.isinstance rfl (.inl rfl) (by decide +kernel) (by decide +kernel) rfl g.b_InvalidText (by decide +kernel) g.ki_NotText_InvalidText) pe_str (pe_imp pe_str fun σ H Q h => h.2)))
  · unfold ans14 at h
    cases fs with
    | cons _ _ => cases h
    | nil =>
      dsimp only at h
      split at h
      · rename_i ek
        subst ek
        cases h
        exact ⟨rfl, (.inl rfl), fun _ => .str _⟩
      · skip
        split at h
        · rename_i ek
          subst ek
          cases h
          exact ⟨rfl, (.inr (rfl)), fun _ => .str _⟩
        · cases h
theorem w0 (g : GF P K w mg) (C : CF P w K mg base (k + 1) cf) (hr : Room (k + 1) (A.deeper (envOfC "is_integer" (defScope st0) s.heap.objs.size f cdv))) : PSs (XC P w K mg base N0 "is_integer" (defScope st0) f cdv A outer s H E) (defBody st0) (TSx ⟨K, Gx, (Xx K), ρ, P0, H, E⟩ (b0 cf)) := by
  have hK : K = K := rfl
  have hu : (A.deeper (envOfC "is_integer" (defScope st0) s.heap.objs.size f cdv)).units + 65 < cLine := xc_units hr
  have nd := sc0.nd
  exact (sx_one (sx_ret (pd_and (pd_isi1 hK (by rfl) g.isinstance (pd_var 0 rfl (.inl rfl) (by decide +kernel) (by decide +kernel)) rfl (pe_bltn (by rfl) g.int PyProof.Rows.boot_int (show RelV (.ty "int") (.type "int") from rfl) (by decide) (by decide +kernel))) (pd_one (pd_not (pd_isi1 hK (by rfl) g.isinstance (pd_var 0 rfl (.inl rfl) (by decide +kernel) (by decide +kernel)) rfl (pe_bltn (by rfl) g.bool boot_bool2 (show RelV (.ty "bool") (.type "bool") from rfl) (by decide) (by decide +kernel))))))))
theorem wN0 (g : GF P K w mg) (C : CF P w K mg base (k + 1) cf) (hr : Room (k + 1) (A.deeper (envOfC "is_integer" (defScope st0) s.heap.objs.size f cdv))) : PSs (XN P w K mg base N0 "is_integer" (defScope st0) f cdv A outer s H E) (defBody st0) (TSx ⟨K, Gx, (Xx K), ρ, P0, H, E⟩ (b0 cf)) := by
  have hK : K = K := rfl
  have hu : (A.deeper (envOfC "is_integer" (defScope st0) s.heap.objs.size f cdv)).units + 65 < cLine := xc_units hr
  have nd := sc0.nd
  exact (sx_one (sx_ret (pd_and (pd_isi1 hK (by rfl) g.isinstance (pd_var 0 rfl (.inl rfl) (by decide +kernel) (by decide +kernel)) rfl (pe_bltn (by rfl) g.int PyProof.Rows.boot_int (show RelV (.ty "int") (.type "int") from rfl) (by decide) (by decide +kernel))) (pd_one (pd_not (pd_isi1 hK (by rfl) g.isinstance (pd_var 0 rfl (.inl rfl) (by decide +kernel) (by decide +kernel)) rfl (pe_bltn (by rfl) g.bool boot_bool2 (show RelV (.ty "bool") (.type "bool") from rfl) (by decide) (by decide +kernel))))))))
theorem w1 (g : GF P K w mg) (C : CF P w K mg base (k + 1) cf) (hr : Room (k + 1) (A.deeper (envOfC "need_game" (defScope st1) s.heap.objs.size f cdv))) : PSs (XC P w K mg base N1 "need_game" (defScope st1) f cdv A outer s H E) (defBody st1) (TSx ⟨K, Gx, (Xx K), ρ, P0, H, E⟩ (b1 cf)) := by
  have hK : K = K := rfl
  have hu : (A.deeper (envOfC "need_game" (defScope st1) s.heap.objs.size f cdv)).units + 65 < cLine := xc_units hr
  have nd := sc1.nd
  exact (sx_cons (sx_if (PW.pt (pww_or (pq_not (pq_val (pd_isi1 hK (by rfl) g.isinstance (pd_var 0 rfl (.inl rfl) (by decide +kernel) (by decide +kernel)) rfl (pe_bltn (by rfl) g.tuple PyProof.Rows.boot_tuple (show RelV (.ty "tuple") (.type "tuple") from rfl) (by decide) (by decide +kernel))) fun _ => rfl)) (pw1_or (pq_knin g.SIZES.choose_spec.2 hK (by rfl) g.SIZES.choose_spec.1 (by decide +kernel) (pd_b1V 0 (cd_len hK) (by rfl) g.len boot_len (by decide) (by decide +kernel) rfl (.inl rfl) (by decide +kernel) (by decide +kernel)))))) (sx_one (sx_raise1 rfl (takes_of rfl rfl rfl rfl) g.e_BadGame rfl hr (by rfl) (by decide +kernel) (pd_con pe_non fun _ => .non) rfl rfl)) sx_nil)
    (sx_one (sx_for xc_own rfl (ti_rg1 (by rfl) g.range (pl_cons (pd_b1V 0 (cd_len hK) (by rfl) g.len boot_len (by decide) (by decide +kernel) rfl (.inl rfl) (by decide +kernel) (by decide +kernel)) pl_nil rfl) rfl) (tg_name (pg_name nd rfl (.inl rfl) (.inr rfl))) (sx_one (sx_if (PW.pt (pww_or (pq_not (pq_val (pd_call 0 hK C.c0 hr xc_takes (by rfl) (by decide +kernel) (px_val (pd_subV 0 hK hu rfl (.inl rfl) (by decide +kernel) (by decide +kernel) (pd_var 1 rfl (.inl rfl) (by decide +kernel) (by decide +kernel)) fun _ _ => rfl) px_nil rfl) (len_val len_nil) rfl rfl) fun _ => rfl)) (pw1_or (pq_cmp2 od_gt (pd_b1 cd_abs (by rfl) g.abs boot_abs (pd_subV 0 hK hu rfl (.inl rfl) (by decide +kernel) (by decide +kernel) (pd_var 1 rfl (.inl rfl) (by decide +kernel) (by decide +kernel)) fun _ _ => rfl) (by decide) (by decide +kernel) rfl) (pd_con (pe_glob (by rfl) g.MOST_WORTH.choose_spec (show RelV (.int 1000) _ from ⟨_, rfl⟩) (by decide +kernel)) fun _ => .int _) rfl)))) (sx_one (sx_raise1 rfl (takes_of rfl rfl rfl rfl) g.e_BadGame rfl hr (by rfl) (by decide +kernel) (pd_var 1 rfl (.inl rfl) (by decide +kernel) (by decide +kernel)) rfl rfl)) sx_nil)) fun _ => rfl)))
theorem wN1 (g : GF P K w mg) (C : CF P w K mg base (k + 1) cf) (hr : Room (k + 1) (A.deeper (envOfC "need_game" (defScope st1) s.heap.objs.size f cdv))) : PSs (XN P w K mg base N1 "need_game" (defScope st1) f cdv A outer s H E) (defBody st1) (TSx ⟨K, Gx, (Xx K), ρ, P0, H, E⟩ (b1 cf)) := by
  have hK : K = K := rfl
  have hu : (A.deeper (envOfC "need_game" (defScope st1) s.heap.objs.size f cdv)).units + 65 < cLine := xc_units hr
  have nd := sc1.nd
  exact (sx_cons (sx_if (PW.pt (pww_or (pq_not (pq_val (pd_isi1 hK (by rfl) g.isinstance (pd_var 0 rfl (.inl rfl) (by decide +kernel) (by decide +kernel)) rfl (pe_bltn (by rfl) g.tuple PyProof.Rows.boot_tuple (show RelV (.ty "tuple") (.type "tuple") from rfl) (by decide) (by decide +kernel))) fun _ => rfl)) (pw1_or (pq_knin g.SIZES.choose_spec.2 hK (by rfl) g.SIZES.choose_spec.1 (by decide +kernel) (pd_b1V 0 (cd_len hK) (by rfl) g.len boot_len (by decide) (by decide +kernel) rfl (.inl rfl) (by decide +kernel) (by decide +kernel)))))) (sx_one (sx_raise1N rfl (L2N.takes_of rfl rfl rfl rfl) g.e_BadGame rfl hr (by rfl) (by decide +kernel) (pd_con pe_non fun _ => .non) rfl rfl)) sx_nil)
    (sx_one (sx_for xn_own rfl (ti_rg1 (by rfl) g.range (pl_cons (pd_b1V 0 (cd_len hK) (by rfl) g.len boot_len (by decide) (by decide +kernel) rfl (.inl rfl) (by decide +kernel) (by decide +kernel)) pl_nil rfl) rfl) (tg_name (pg_name nd rfl (.inl rfl) (.inr rfl))) (sx_one (sx_if (PW.pt (pww_or (pq_not (pq_val (pd_callN 0 hK C.n0 hr xn_takes (by rfl) (by decide +kernel) (px_val (pd_subV 0 hK hu rfl (.inl rfl) (by decide +kernel) (by decide +kernel) (pd_var 1 rfl (.inl rfl) (by decide +kernel) (by decide +kernel)) fun _ _ => rfl) px_nil rfl) (len_val len_nil) rfl rfl) fun _ => rfl)) (pw1_or (pq_cmp2 od_gt (pd_b1 cd_abs (by rfl) g.abs boot_abs (pd_subV 0 hK hu rfl (.inl rfl) (by decide +kernel) (by decide +kernel) (pd_var 1 rfl (.inl rfl) (by decide +kernel) (by decide +kernel)) fun _ _ => rfl) (by decide) (by decide +kernel) rfl) (pd_con (pe_glob (by rfl) g.MOST_WORTH.choose_spec (show RelV (.int 1000) _ from ⟨_, rfl⟩) (by decide +kernel)) fun _ => .int _) rfl)))) (sx_one (sx_raise1N rfl (L2N.takes_of rfl rfl rfl rfl) g.e_BadGame rfl hr (by rfl) (by decide +kernel) (pd_var 1 rfl (.inl rfl) (by decide +kernel) (by decide +kernel)) rfl rfl)) sx_nil)) fun _ => rfl)))
theorem w2 (g : GF P K w mg) (C : CF P w K mg base (k + 1) cf) (hr : Room (k + 1) (A.deeper (envOfC "need_text" (defScope st2) s.heap.objs.size f cdv))) : PSs (XC P w K mg base N2 "need_text" (defScope st2) f cdv A outer s H E) (defBody st2) (TSx ⟨K, Gx, (Xx K), ρ, P0, H, E⟩ (b2 cf)) := by
  have hK : K = K := rfl
  have hu : (A.deeper (envOfC "need_text" (defScope st2) s.heap.objs.size f cdv)).units + 65 < cLine := xc_units hr
  have nd := sc2.nd
  exact (sx_one (sx_if (pq_not (pq_val (pd_isi1 hK (by rfl) g.isinstance (pd_var 0 rfl (.inl rfl) (by decide +kernel) (by decide +kernel)) rfl (pe_bltn (by rfl) g.str PyProof.Rows.boot_str (show RelV (.ty "str") (.type "str") from rfl) (by decide) (by decide +kernel))) fun _ => rfl)) (sx_one (sx_raise0 rfl (takes_of rfl rfl rfl rfl) g.x_NotText rfl (by rfl) (by decide +kernel))) sx_nil))
theorem w3 (g : GF P K w mg) (C : CF P w K mg base (k + 1) cf) (hr : Room (k + 1) (A.deeper (envOfC "number_in" (defScope st3) s.heap.objs.size f cdv))) : PSs (XC P w K mg base N3 "number_in" (defScope st3) f cdv A outer s H E) (defBody st3) (TSx ⟨K, Gx, (Xx K), ρ, P0, H, E⟩ (b3 cf)) := by
  have hK : K = K := rfl
  have hu : (A.deeper (envOfC "number_in" (defScope st3) s.heap.objs.size f cdv)).units + 65 < cLine := xc_units hr
  have nd := sc3.nd
  exact (sx_cons (sx_set nd rfl (.inl rfl) (pd_ite (pq_cmp2 (od_eq hK hu) (pd_sliceV 0 hK rfl (.inl rfl) (by decide +kernel) (by decide +kernel) tpo_none (tpo_some (pd_con pe_int fun _ => .int _))) (pd_con pe_str fun _ => .str _) rfl) (pd_sliceV 0 hK rfl (.inl rfl) (by decide +kernel) (by decide +kernel) (tpo_some (pd_con pe_int fun _ => .int _)) tpo_none) (pd_var 0 rfl (.inl rfl) (by decide +kernel) (by decide +kernel))) rfl (.inr rfl))
    (sx_cons (sx_if (PW.pt (pww_or (pq_not (pq_chain2 od_le od_le (pd_con pe_int fun _ => .int _) (pd_b1V 1 (cd_len hK) (by rfl) g.len boot_len (by decide) (by decide +kernel) rfl (.inl rfl) (by decide +kernel) (by decide +kernel)) (pd_con pe_int fun _ => .int _) rfl (bool_cmpI _))) (pw1_or (pq_not (pq_val (pd_b1 (cd_all hK rfl) (by rfl) g.all boot_all (pd_lcV rfl nd (ti_e (ti_any hK (pd_var 1 rfl (.inl rfl) (by decide +kernel) (by decide +kernel)))) (blk_of (N := N3) (own := [("sign", 2)]) (by kernel_rfl)) rfl (by decide) (fun _ _ _ _ _ => (tg_name (pg_name nd rfl (.inl rfl) (.inr rfl)))) (fun _ _ _ _ _ => pts_none) (fun _ _ _ _ _ => (pd_in (od_in hK hu) (pd_var 2 rfl (.inl rfl) (by decide +kernel) (by decide +kernel)) (pd_con (pe_glob (by rfl) g.FIGURES.choose_spec (show RelV (.str (Str.ofString "0123456789")) _ from ⟨_, rfl⟩) (by decide +kernel)) fun _ => .str _) rfl)) (fun _ => rfl)) (by decide) (by decide +kernel) rfl) fun _ => rfl))))) (sx_one (sx_ret (pd_con pe_non fun _ => .non))) sx_nil)
    (sx_cons (sx_if (PW.pt (pww_and (pq_cmp2 (od_eq hK hu) (pd_subV 1 hK hu rfl (.inl rfl) (by decide +kernel) (by decide +kernel) (pd_con pe_int fun _ => .int _) fun _ _ => rfl) (pd_con pe_str fun _ => .str _) rfl) (pw1_and (pq_cmp2 (od_ne hK hu) (pd_var 0 rfl (.inl rfl) (by decide +kernel) (by decide +kernel)) (pd_con pe_str fun _ => .str _) rfl)))) (sx_one (sx_ret (pd_con pe_non fun _ => .non))) sx_nil)
    (sx_one (sx_ret (pd_t1V 0 cd_intOf (by rfl) g.int PyProof.Rows.boot_int (by decide) (by decide +kernel) rfl (.inl rfl) (by decide +kernel) (by decide +kernel)))))))
theorem w4 (g : GF P K w mg) (C : CF P w K mg base (k + 1) cf) (hr : Room (k + 1) (A.deeper (envOfC "write_game" (defScope st4) s.heap.objs.size f cdv))) : PSs (XC P w K mg base N4 "write_game" (defScope st4) f cdv A outer s H E) (defBody st4) (TSx ⟨K, Gx, (Xx K), ρ, P0, H, E⟩ (b4 cf)) := by
  have hK : K = K := rfl
  have hu : (A.deeper (envOfC "write_game" (defScope st4) s.heap.objs.size f cdv)).units + 65 < cLine := xc_units hr
  have nd := sc4.nd
  exact (sx_cons (sx_ex (pd_call 1 hK C.c1 hr xc_takes (by rfl) (by decide +kernel) (px_name 0 rfl (.inl rfl) (by decide +kernel) (by decide +kernel) px_nil) (len_name 0 len_nil) rfl rfl) rfl)
    (sx_one (sx_ret (pd_join hK (pd_con pe_str fun _ => .str _) (pd_lcV rfl nd (ti_e (ti_val hK (pd_var 0 rfl (.inl rfl) (by decide +kernel) (by decide +kernel)))) (blk_of (N := N4) (own := [("own", 1)]) (by kernel_rfl)) rfl (by decide) (fun _ _ _ _ _ => (tg_name (pg_name nd rfl (.inl rfl) (.inr rfl)))) (fun _ _ _ _ _ => pts_none) (fun _ _ _ _ _ => (pd_t1V 1 cd_strOf (by rfl) g.str PyProof.Rows.boot_str (by decide) (by decide +kernel) rfl (.inl rfl) (by decide +kernel) (by decide +kernel))) (fun _ => rfl)) rfl rfl rfl))))
theorem w5 (g : GF P K w mg) (C : CF P w K mg base (k + 1) cf) (hr : Room (k + 1) (A.deeper (envOfC "read_game" (defScope st5) s.heap.objs.size f cdv))) : PSs (XC P w K mg base N5 "read_game" (defScope st5) f cdv A outer s H E) (defBody st5) (TSx ⟨K, Gx, (Xx K), ρ, P0, H, E⟩ (b5 cf)) := by
  have hK : K = K := rfl
  have hu : (A.deeper (envOfC "read_game" (defScope st5) s.heap.objs.size f cdv)).units + 65 < cLine := xc_units hr
  have nd := sc5.nd
  exact (sx_cons (sx_ex (pd_call 2 hK C.c2 hr xc_takes (by rfl) (by decide +kernel) (px_name 0 rfl (.inl rfl) (by decide +kernel) (by decide +kernel) px_nil) (len_name 0 len_nil) rfl rfl) rfl)
    (sx_cons (sx_set nd rfl (.inl rfl) (pd_t1 (cd_tuple hK) (by rfl) g.tuple PyProof.Rows.boot_tuple (pd_lcV rfl nd (ti_e (ti_val hK (pd_split (pd_var 0 rfl (.inl rfl) (by decide +kernel) (by decide +kernel)) (pd_con pe_str fun _ => .str _) rfl rfl rfl))) (blk_of (N := N5) (own := [("word", 3)]) (by kernel_rfl)) rfl (by decide) (fun _ _ _ _ _ => (tg_name (pg_name nd rfl (.inl rfl) (.inr rfl)))) (fun _ _ _ _ _ => pts_none) (fun _ _ _ _ _ => (pd_call 3 hK C.c3 hr passL (by rfl) (by decide +kernel) (px_name 3 rfl (.inl rfl) (by decide +kernel) (by decide +kernel) px_nil) (len_name 3 len_nil) rfl rfl)) (fun _ => rfl)) (by decide) (by decide +kernel) rfl) rfl (.inr rfl))
    (sx_cons (sx_try_from (i := 2) rfl rfl nd rfl rfl (.inl rfl) (by decide +kernel) (by decide +kernel) ⟨rfl, (by decide +kernel), .inl g.e_BadGame.at_⟩ (fun hd => L2H.passesAt_of rfl hd) (takes_of rfl rfl rfl rfl) (m_BadGame_ok g rfl) g.x_InvalidText rfl (by rfl) (by decide +kernel) fun E1 pn xe tk po => (sx_one (sx_ex (pd_callN 1 hK C.n1 hr (tr_takesN tk) (by rfl) (by decide +kernel) (px_name 1 rfl (.inl rfl) (by decide +kernel) (by decide +kernel) px_nil) (len_name 1 len_nil) rfl rfl) rfl)))
    (sx_one (sx_ret (pd_var 1 rfl (.inl rfl) (by decide +kernel) (by decide +kernel)))))))
theorem w6 (g : GF P K w mg) (C : CF P w K mg base (k + 1) cf) (hr : Room (k + 1) (A.deeper (envOfC "_law_taken" (defScope st6) s.heap.objs.size f cdv))) : PSs (XC P w K mg base N6 "_law_taken" (defScope st6) f cdv A outer s H E) (defBody st6) (TSx ⟨K, Gx, (Xx K), ρ, P0, H, E⟩ (b6 cf)) := by
  have hK : K = K := rfl
  have hu : (A.deeper (envOfC "_law_taken" (defScope st6) s.heap.objs.size f cdv)).units + 65 < cLine := xc_units hr
  have nd := sc6.nd
  exact (sx_cons (sx_if (pq_cmp2 od_gt (pd_subV 0 hK hu rfl (.inl rfl) (by decide +kernel) (by decide +kernel) (pd_con pe_int fun _ => .int _) fun _ _ => rfl) (pd_con pe_int fun _ => .int _) rfl) (sx_cons (sx_set nd rfl (.inl rfl) (pd_bin od_mod (pd_t1 cd_int (by rfl) g.int PyProof.Rows.boot_int (pd_subV 0 hK hu rfl (.inl rfl) (by decide +kernel) (by decide +kernel) (pd_con pe_int fun _ => .int _) fun _ _ => rfl) (by decide) (by decide +kernel) rfl) (pd_var 1 rfl (.inl rfl) (by decide +kernel) (by decide +kernel))) rfl (.inr rfl))
    (sx_cons (sx_store 0 hu rfl (.inl rfl) (by decide +kernel) (by decide +kernel) (pd_con pe_int fun _ => .int _) (pd_bin od_fdiv (pd_subV 0 hK hu rfl (.inl rfl) (by decide +kernel) (by decide +kernel) (pd_con pe_int fun _ => .int _) fun _ _ => rfl) (pd_var 1 rfl (.inl rfl) (by decide +kernel) (by decide +kernel))) rfl rfl fun _ => rfl)
    (sx_one (sx_ret (pd_var 2 rfl (.inl rfl) (by decide +kernel) (by decide +kernel)))))) sx_nil)
    (sx_cons (sx_store 0 hu rfl (.inl rfl) (by decide +kernel) (by decide +kernel) (pd_con pe_int fun _ => .int _) (pd_bin (od_add hK) (pd_subV 0 hK hu rfl (.inl rfl) (by decide +kernel) (by decide +kernel) (pd_con pe_int fun _ => .int _) fun _ _ => rfl) (pd_con pe_int fun _ => .int _)) rfl rfl fun _ => rfl)
    (sx_cons (sx_if (pq_cmp2 od_gt (pd_subV 0 hK hu rfl (.inl rfl) (by decide +kernel) (by decide +kernel) (pd_con pe_int fun _ => .int _) fun _ _ => rfl) (pd_b1 (cd_len hK) (by rfl) g.len boot_len (pd_subV 0 hK hu rfl (.inl rfl) (by decide +kernel) (by decide +kernel) (pd_con pe_int fun _ => .int _) fun _ _ => rfl) (by decide) (by decide +kernel) rfl) rfl) (sx_cons (sx_store 0 hu rfl (.inl rfl) (by decide +kernel) (by decide +kernel) (pd_con pe_int fun _ => .int _) (pd_bin od_mod (pd_t1 cd_int (by rfl) g.int PyProof.Rows.boot_int (pd_bin (od_add hK) (pd_bin od_mul (pd_subV 0 hK hu rfl (.inl rfl) (by decide +kernel) (by decide +kernel) (pd_con pe_int fun _ => .int _) fun _ _ => rfl) (pd_con pe_int fun _ => .int _)) (pd_con pe_int fun _ => .int _)) (by decide) (by decide +kernel) rfl) (pd_con pe_int fun _ => .int _)) rfl rfl fun _ => rfl)
    (sx_one (sx_ret (pd_bin od_mod (pd_t1 cd_int (by rfl) g.int PyProof.Rows.boot_int (pd_bin od_fdiv (pd_subV 0 hK hu rfl (.inl rfl) (by decide +kernel) (by decide +kernel) (pd_con pe_int fun _ => .int _) fun _ _ => rfl) (pd_con pe_int fun _ => .int _)) (by decide) (by decide +kernel) rfl) (pd_var 1 rfl (.inl rfl) (by decide +kernel) (by decide +kernel)))))) sx_nil)
    (sx_cons (sx_set nd rfl (.inl rfl) (pd_sub hK hu (pd_subV 0 hK hu rfl (.inl rfl) (by decide +kernel) (by decide +kernel) (pd_con pe_int fun _ => .int _) fun _ _ => rfl) (pd_bin od_sub (pd_subV 0 hK hu rfl (.inl rfl) (by decide +kernel) (by decide +kernel) (pd_con pe_int fun _ => .int _) fun _ _ => rfl) (pd_con pe_int fun _ => .int _)) fun _ _ => rfl) rfl (.inr rfl))
    (sx_cons (sx_store 0 hu rfl (.inl rfl) (by decide +kernel) (by decide +kernel) (pd_con pe_int fun _ => .int _) (pd_bin od_mod (pd_t1 cd_int (by rfl) g.int PyProof.Rows.boot_int (pd_bin (od_add hK) (pd_bin (od_add hK) (pd_bin od_mul (pd_subV 0 hK hu rfl (.inl rfl) (by decide +kernel) (by decide +kernel) (pd_con pe_int fun _ => .int _) fun _ _ => rfl) (pd_con pe_int fun _ => .int _)) (pd_var 3 rfl (.inl rfl) (by decide +kernel) (by decide +kernel))) (pd_con pe_int fun _ => .int _)) (by decide) (by decide +kernel) rfl) (pd_con pe_int fun _ => .int _)) rfl rfl fun _ => rfl)
    (sx_cons (sx_if (pq_cmp2 od_ge (pd_var 3 rfl (.inl rfl) (by decide +kernel) (by decide +kernel)) (pd_bin od_pow (pd_con pe_int fun _ => .int _) (pd_con pe_int fun _ => .int _)) rfl) (sx_one (sx_store 0 hu rfl (.inl rfl) (by decide +kernel) (by decide +kernel) (pd_con pe_int fun _ => .int _) (pd_bin od_fdiv (pd_var 3 rfl (.inl rfl) (by decide +kernel) (by decide +kernel)) (pd_var 1 rfl (.inl rfl) (by decide +kernel) (by decide +kernel))) rfl rfl fun _ => rfl)) sx_nil)
    (sx_one (sx_ret (pd_bin od_mod (pd_t1V 3 cd_int (by rfl) g.int PyProof.Rows.boot_int (by decide) (by decide +kernel) rfl (.inl rfl) (by decide +kernel) (by decide +kernel)) (pd_var 1 rfl (.inl rfl) (by decide +kernel) (by decide +kernel)))))))))))
theorem w7 (g : GF P K w mg) (C : CF P w K mg base (k + 1) cf) (hr : Room (k + 1) (A.deeper (envOfC "_law_pick" (defScope st7) s.heap.objs.size f cdv))) : PSs (XC P w K mg base N7 "_law_pick" (defScope st7) f cdv A outer s H E) (defBody st7) (TSx ⟨K, Gx, (Xx K), ρ, P0, H, E⟩ (b7 cf)) := by
  have hK : K = K := rfl
  have hu : (A.deeper (envOfC "_law_pick" (defScope st7) s.heap.objs.size f cdv)).units + 65 < cLine := xc_units hr
  have nd := sc7.nd
  exact (sx_one (sx_ret (pd_subV 1 hK hu rfl (.inl rfl) (by decide +kernel) (by decide +kernel) (pd_call 6 hK C.c6 hr xc_takes (by rfl) (by decide +kernel) (px_name 0 rfl (.inl rfl) (by decide +kernel) (by decide +kernel) (px_val (pd_b1V 1 (cd_len hK) (by rfl) g.len boot_len (by decide) (by decide +kernel) rfl (.inl rfl) (by decide +kernel) (by decide +kernel)) px_nil rfl)) (len_name 0 (len_val len_nil)) rfl rfl) fun _ _ => rfl)))
theorem w8 (g : GF P K w mg) (C : CF P w K mg base (k + 1) cf) (hr : Room (k + 1) (A.deeper (envOfC "_law_alike" (defScope st8) s.heap.objs.size f cdv))) : PSs (XC P w K mg base N8 "_law_alike" (defScope st8) f cdv A outer s H E) (defBody st8) (TSx ⟨K, Gx, (Xx K), ρ, P0, H, E⟩ (b8 cf)) := by
  have hK : K = K := rfl
  have hu : (A.deeper (envOfC "_law_alike" (defScope st8) s.heap.objs.size f cdv)).units + 65 < cLine := xc_units hr
  have nd := sc8.nd
  exact (sx_cons (sx_if (pq_val (pd_isiT hK (by rfl) g.isinstance (pd_var 1 rfl (.inr (.inl rfl)) (by decide +kernel) (by decide +kernel)) rfl (pty_cons (pe_bltn (by rfl) g.tuple PyProof.Rows.boot_tuple (show RelV (.ty "tuple") (.type "tuple") from rfl) (by decide) (by decide +kernel)) (pty_cons (pe_bltn (by rfl) g.list PyProof.Rows.boot_list (show RelV (.ty "list") (.type "list") from rfl) (by decide) (by decide +kernel)) pty_nil rfl) rfl) (by decide)) fun _ => rfl) (sx_cons (sx_if (PW.pt (pww_or (pq_not (pq_val (pd_isiT hK (by rfl) g.isinstance (pd_var 0 rfl (.inr (.inl rfl)) (by decide +kernel) (by decide +kernel)) rfl (pty_cons (pe_bltn (by rfl) g.tuple PyProof.Rows.boot_tuple (show RelV (.ty "tuple") (.type "tuple") from rfl) (by decide) (by decide +kernel)) (pty_cons (pe_bltn (by rfl) g.list PyProof.Rows.boot_list (show RelV (.ty "list") (.type "list") from rfl) (by decide) (by decide +kernel)) pty_nil rfl) rfl) (by decide)) fun _ => rfl)) (pw1_or (pq_cmp2 (od_ne hK hu) (pd_isi1 hK (by rfl) g.isinstance (pd_var 0 rfl (.inr (.inl rfl)) (by decide +kernel) (by decide +kernel)) rfl (pe_bltn (by rfl) g.list PyProof.Rows.boot_list (show RelV (.ty "list") (.type "list") from rfl) (by decide) (by decide +kernel))) (pd_isi1 hK (by rfl) g.isinstance (pd_var 1 rfl (.inr (.inl rfl)) (by decide +kernel) (by decide +kernel)) rfl (pe_bltn (by rfl) g.list PyProof.Rows.boot_list (show RelV (.ty "list") (.type "list") from rfl) (by decide) (by decide +kernel))) rfl)))) (sx_one (sx_ret (pd_con pe_bl fun _ => .bl _))) sx_nil)
    (sx_cons (sx_if (pq_cmp2 (od_ne hK hu) (pd_b1V 0 (cd_len hK) (by rfl) g.len boot_len (by decide) (by decide +kernel) rfl (.inr (.inl rfl)) (by decide +kernel) (by decide +kernel)) (pd_b1V 1 (cd_len hK) (by rfl) g.len boot_len (by decide) (by decide +kernel) rfl (.inr (.inl rfl)) (by decide +kernel) (by decide +kernel)) rfl) (sx_one (sx_ret (pd_con pe_bl fun _ => .bl _))) sx_nil)
    (sx_one (sx_ret (pd_cmp (od_eq hK hu) (pd_lcV rfl nd (ti_e (ti_rg1 (by rfl) g.range (pl_cons (pd_b1V 1 (cd_len hK) (by rfl) g.len boot_len (by decide) (by decide +kernel) rfl (.inr (.inl rfl)) (by decide +kernel) (by decide +kernel)) pl_nil rfl) rfl)) (blk_of (N := N8) (own := [("_law_k", 2)]) (by kernel_rfl)) rfl (by decide) (fun _ _ _ _ _ => (tg_name (pg_name nd rfl (.inl rfl) (.inr rfl)))) (fun _ _ _ _ _ => (pts_one (pq_not (pq_val (pd_call 8 hK C.c8 hr passL (by rfl) (by decide +kernel) (px_val (pd_subV 0 hK hu rfl (.inr (.inl rfl)) (by decide +kernel) (by decide +kernel) (pd_var 2 rfl (.inl rfl) (by decide +kernel) (by decide +kernel)) fun _ _ => rfl) (px_val (pd_subV 1 hK hu rfl (.inr (.inl rfl)) (by decide +kernel) (by decide +kernel) (pd_var 2 rfl (.inl rfl) (by decide +kernel) (by decide +kernel)) fun _ _ => rfl) px_nil rfl) rfl) (len_val (len_val len_nil)) rfl rfl) fun _ => rfl)))) (fun _ _ _ _ _ => (pd_var 2 rfl (.inl rfl) (by decide +kernel) (by decide +kernel))) (fun _ => rfl)) (pd_lst pl_nil) rfl))))) sx_nil)
    (sx_cons (sx_if (PW.pt (pww_or (pq_cmp2 od_isN (pd_var 1 rfl (.inr (.inl rfl)) (by decide +kernel) (by decide +kernel)) (pd_con pe_non fun _ => .non) rfl) (pw1_or (pq_val (pd_isi1 hK (by rfl) g.isinstance (pd_var 1 rfl (.inr (.inl rfl)) (by decide +kernel) (by decide +kernel)) rfl (pe_bltn (by rfl) g.str PyProof.Rows.boot_str (show RelV (.ty "str") (.type "str") from rfl) (by decide) (by decide +kernel))) fun _ => rfl)))) (sx_one (sx_ret (pd_and (pd_cmp (od_eq hK hu) (pd_var 0 rfl (.inr (.inl rfl)) (by decide +kernel) (by decide +kernel)) (pd_var 1 rfl (.inr (.inl rfl)) (by decide +kernel) (by decide +kernel)) rfl) (pd_one (pd_cmp (od_eq hK hu) (pd_isi1 hK (by rfl) g.isinstance (pd_var 0 rfl (.inr (.inl rfl)) (by decide +kernel) (by decide +kernel)) rfl (pe_bltn (by rfl) g.str PyProof.Rows.boot_str (show RelV (.ty "str") (.type "str") from rfl) (by decide) (by decide +kernel))) (pd_isi1 hK (by rfl) g.isinstance (pd_var 1 rfl (.inr (.inl rfl)) (by decide +kernel) (by decide +kernel)) rfl (pe_bltn (by rfl) g.str PyProof.Rows.boot_str (show RelV (.ty "str") (.type "str") from rfl) (by decide) (by decide +kernel))) rfl))))) sx_nil)
    (sx_one (sx_ret (pd_and (pd_isi1 hK (by rfl) g.isinstance (pd_var 0 rfl (.inr (.inl rfl)) (by decide +kernel) (by decide +kernel)) rfl (pe_bltn (by rfl) g.int PyProof.Rows.boot_int (show RelV (.ty "int") (.type "int") from rfl) (by decide) (by decide +kernel))) (pd_and (pd_cmp (od_eq hK hu) (pd_isi1 hK (by rfl) g.isinstance (pd_var 0 rfl (.inr (.inl rfl)) (by decide +kernel) (by decide +kernel)) rfl (pe_bltn (by rfl) g.bool boot_bool2 (show RelV (.ty "bool") (.type "bool") from rfl) (by decide) (by decide +kernel))) (pd_isi1 hK (by rfl) g.isinstance (pd_var 1 rfl (.inr (.inl rfl)) (by decide +kernel) (by decide +kernel)) rfl (pe_bltn (by rfl) g.bool boot_bool2 (show RelV (.ty "bool") (.type "bool") from rfl) (by decide) (by decide +kernel))) rfl) (pd_one (pd_cmp (od_eq hK hu) (pd_var 0 rfl (.inr (.inl rfl)) (by decide +kernel) (by decide +kernel)) (pd_var 1 rfl (.inr (.inl rfl)) (by decide +kernel) (by decide +kernel)) rfl))))))))
theorem w9 (g : GF P K w mg) (C : CF P w K mg base (k + 1) cf) (hr : Room (k + 1) (A.deeper (envOfC "_law_groups" (defScope st9) s.heap.objs.size f cdv))) : PSs (XC P w K mg base N9 "_law_groups" (defScope st9) f cdv A outer s H E) (defBody st9) (TSx ⟨K, Gx, (Xx K), ρ, P0, H, E⟩ (b9 cf)) := by
  have hK : K = K := rfl
  have hu : (A.deeper (envOfC "_law_groups" (defScope st9) s.heap.objs.size f cdv)).units + 65 < cLine := xc_units hr
  have nd := sc9.nd
  exact (sx_cons (sx_set nd rfl (.inl rfl) (pd_lst pl_nil) rfl (.inr rfl))
    (sx_cons (sx_for xc_own rfl (ti_rg2 (by rfl) g.range (pl_cons (pd_con pe_int fun _ => .int _) (pl_cons (pd_bin (od_add hK) (pd_var 0 rfl (.inl rfl) (by decide +kernel) (by decide +kernel)) (pd_con pe_int fun _ => .int _)) pl_nil rfl) rfl) rfl rfl) (tg_name (pg_name nd rfl (.inl rfl) (.inr rfl))) (sx_cons (sx_set nd rfl (.inl rfl) (pd_lst (pl_cons (pd_tup pl_nil) pl_nil rfl)) rfl (.inr rfl))
    (sx_cons (sx_for xc_own rfl (ti_rg1 (by rfl) g.range (pl_cons (pd_var 2 rfl (.inl rfl) (by decide +kernel) (by decide +kernel)) pl_nil rfl) rfl) (tg_name (pg_name nd rfl (.inl rfl) (.inr rfl))) (sx_cons (sx_set nd rfl (.inl rfl) (pd_lst pl_nil) rfl (.inr rfl))
    (sx_cons (sx_for xc_own rfl (ti_val hK (pd_var 3 rfl (.inl rfl) (by decide +kernel) (by decide +kernel))) (tg_name (pg_name nd rfl (.inr rfl) (.inl rfl))) (sx_one (sx_set nd rfl (.inl rfl) (pd_bin (od_add hK) (pd_var 5 rfl (.inl rfl) (by decide +kernel) (by decide +kernel)) (pd_lcV rfl nd (ti_e (ti_rg2 (by rfl) g.range (pl_cons (pd_ite (pq_cmp2 (od_ne hK hu) (pd_var 6 rfl (.inr (.inl rfl)) (by decide +kernel) (by decide +kernel)) (pd_tup pl_nil) rfl) (pd_bin (od_add hK) (pd_subV 6 hK hu rfl (.inr (.inl rfl)) (by decide +kernel) (by decide +kernel) (pd_un ud_neg (pd_con pe_int fun _ => .int _)) fun _ _ => rfl) (pd_con pe_int fun _ => .int _)) (pd_con pe_int fun _ => .int _)) (pl_cons (pd_var 0 rfl (.inl rfl) (by decide +kernel) (by decide +kernel)) pl_nil rfl) rfl) rfl rfl)) (blk_of (N := N9) (own := [("_law_person", 7)]) (by kernel_rfl)) rfl (by decide) (fun _ _ _ _ _ => (tg_name (pg_name nd rfl (.inl rfl) (.inr rfl)))) (fun _ _ _ _ _ => pts_none) (fun _ _ _ _ _ => (pd_bin (od_add hK) (pd_var 6 rfl (.inr (.inl rfl)) (by decide +kernel) (by decide +kernel)) (pd_tup (pl_cons (pd_var 7 rfl (.inl rfl) (by decide +kernel) (by decide +kernel)) pl_nil rfl)))) (fun _ => rfl))) rfl (.inr rfl))) fun _ => rfl)
    (sx_one (sx_set nd rfl (.inl rfl) (pd_var 5 rfl (.inl rfl) (by decide +kernel) (by decide +kernel)) rfl (.inr rfl))))) fun _ => rfl)
    (sx_one (sx_set nd rfl (.inl rfl) (pd_bin (od_add hK) (pd_var 1 rfl (.inl rfl) (by decide +kernel) (by decide +kernel)) (pd_var 3 rfl (.inl rfl) (by decide +kernel) (by decide +kernel))) rfl (.inr rfl))))) fun _ => rfl)
    (sx_one (sx_ret (pd_var 1 rfl (.inl rfl) (by decide +kernel) (by decide +kernel))))))
theorem w10 (g : GF P K w mg) (C : CF P w K mg base (k + 1) cf) (hr : Room (k + 1) (A.deeper (envOfC "_law_worths" (defScope st10) s.heap.objs.size f cdv))) : PSs (XC P w K mg base N10 "_law_worths" (defScope st10) f cdv A outer s H E) (defBody st10) (TSx ⟨K, Gx, (Xx K), ρ, P0, H, E⟩ (b10 cf)) := by
  have hK : K = K := rfl
  have hu : (A.deeper (envOfC "_law_worths" (defScope st10) s.heap.objs.size f cdv)).units + 65 < cLine := xc_units hr
  have nd := sc10.nd
  exact (sx_cons (sx_setO nd rfl (.inl rfl) (pd_t1 (cd_dictL hK rfl hu) (by rfl) g.dict PyProof.Rows.boot_dict (pd_lzip hK rfl (by rfl) g.list (by rfl) g.zip (pl_cons (pd_call 9 hK C.c9 hr xc_takes (by rfl) (by decide +kernel) (px_name 1 rfl (.inl rfl) (by decide +kernel) (by decide +kernel) px_nil) (len_name 1 len_nil) rfl rfl) (pl_cons (pd_var 0 rfl (.inl rfl) (by decide +kernel) (by decide +kernel)) pl_nil rfl) rfl) rfl rfl) (by decide) (by decide +kernel) rfl) rfl (.inr rfl))
    (sx_cons (sx_store 2 hu rfl (.inl rfl) (by decide +kernel) (by decide +kernel) (pd_tup pl_nil) (pd_con pe_int fun _ => .int _) rfl rfl fun _ => rfl)
    (sx_one (sx_retO 2 rfl (.inl rfl) (by decide +kernel) (by decide +kernel)))))
theorem w11 (g : GF P K w mg) (C : CF P w K mg base (k + 1) cf) (hr : Room (k + 1) (A.deeper (envOfC "_law_with" (defScope st11) s.heap.objs.size f cdv))) : PSs (XC P w K mg base N11 "_law_with" (defScope st11) f cdv A outer s H E) (defBody st11) (TSx ⟨K, Gx, (Xx K), ρ, P0, H, E⟩ (b11 cf)) := by
  have hK : K = K := rfl
  have hu : (A.deeper (envOfC "_law_with" (defScope st11) s.heap.objs.size f cdv)).units + 65 < cLine := xc_units hr
  have nd := sc11.nd
  exact (sx_one (sx_ret (pd_t1 (cd_tuple hK) (by rfl) g.tuple PyProof.Rows.boot_tuple (pd_b1 (cd_sorted hK hu) (by rfl) g.sorted PyProof.Rows.boot_sorted (pd_bin (od_add hK) (pd_lcV rfl nd (ti_e (ti_val hK (pd_var 0 rfl (.inl rfl) (by decide +kernel) (by decide +kernel)))) (blk_of (N := N11) (own := [("_law_one", 2)]) (by kernel_rfl)) rfl (by decide) (fun _ _ _ _ _ => (tg_name (pg_name nd rfl (.inl rfl) (.inr rfl)))) (fun _ _ _ _ _ => (pts_one (pq_cmp2 (od_ne hK hu) (pd_var 2 rfl (.inl rfl) (by decide +kernel) (by decide +kernel)) (pd_var 1 rfl (.inr (.inl rfl)) (by decide +kernel) (by decide +kernel)) rfl))) (fun _ _ _ _ _ => (pd_var 2 rfl (.inl rfl) (by decide +kernel) (by decide +kernel))) (fun _ => rfl)) (pd_lst (pl_cons (pd_var 1 rfl (.inr (.inl rfl)) (by decide +kernel) (by decide +kernel)) pl_nil rfl))) (by decide) (by decide +kernel) rfl) (by decide) (by decide +kernel) rfl)))
theorem w12 (g : GF P K w mg) (C : CF P w K mg base (k + 1) cf) (hr : Room (k + 1) (A.deeper (envOfC "_law_less" (defScope st12) s.heap.objs.size f cdv))) : PSs (XC P w K mg base N12 "_law_less" (defScope st12) f cdv A outer s H E) (defBody st12) (TSx ⟨K, Gx, (Xx K), ρ, P0, H, E⟩ (b12 cf)) := by
  have hK : K = K := rfl
  have hu : (A.deeper (envOfC "_law_less" (defScope st12) s.heap.objs.size f cdv)).units + 65 < cLine := xc_units hr
  have nd := sc12.nd
  exact (sx_one (sx_ret (pd_t1 (cd_tuple hK) (by rfl) g.tuple PyProof.Rows.boot_tuple (pd_lcV rfl nd (ti_e (ti_val hK (pd_var 0 rfl (.inl rfl) (by decide +kernel) (by decide +kernel)))) (blk_of (N := N12) (own := [("_law_one", 2)]) (by kernel_rfl)) rfl (by decide) (fun _ _ _ _ _ => (tg_name (pg_name nd rfl (.inl rfl) (.inr rfl)))) (fun _ _ _ _ _ => (pts_one (pq_cmp2 (od_ne hK hu) (pd_var 2 rfl (.inl rfl) (by decide +kernel) (by decide +kernel)) (pd_var 1 rfl (.inr (.inl rfl)) (by decide +kernel) (by decide +kernel)) rfl))) (fun _ _ _ _ _ => (pd_var 2 rfl (.inl rfl) (by decide +kernel) (by decide +kernel))) (fun _ => rfl)) (by decide) (by decide +kernel) rfl)))
theorem w13 (g : GF P K w mg) (C : CF P w K mg base (k + 1) cf) (hr : Room (k + 1) (A.deeper (envOfC "_law_game" (defScope st13) s.heap.objs.size f cdv))) : PSs (XC P w K mg base N13 "_law_game" (defScope st13) f cdv A outer s H E) (defBody st13) (TSx ⟨K, Gx, (Xx K), ρ, P0, H, E⟩ (b13 cf)) := by
  have hK : K = K := rfl
  have hu : (A.deeper (envOfC "_law_game" (defScope st13) s.heap.objs.size f cdv)).units + 65 < cLine := xc_units hr
  have nd := sc13.nd
  exact (sx_cons (sx_par2 (i := 2) (j := 3) (f := false) (g := false) rfl nd rfl rfl (by decide) rfl rfl (pd_call 9 hK C.c9 hr xc_takes (by rfl) (by decide +kernel) (px_name 1 rfl (.inl rfl) (by decide +kernel) (by decide +kernel) px_nil) (len_name 1 len_nil) rfl rfl) (pd_call 6 hK C.c6 hr xc_takes (by rfl) (by decide +kernel) (px_name 0 rfl (.inr (.inl rfl)) (by decide +kernel) (by decide +kernel) (px_val (pd_con pe_int fun _ => .int _) px_nil rfl)) (len_name 0 (len_val len_nil)) rfl rfl) rfl rfl rfl rfl)
    (sx_cons (sx_set nd rfl (.inr rfl) (pd_lcV rfl nd (ti_e (ti_val hK (pd_var 2 rfl (.inl rfl) (by decide +kernel) (by decide +kernel)))) (blk_of (N := N13) (own := [("_law_group", 4)]) (by kernel_rfl)) rfl (by decide) (fun _ _ _ _ _ => (tg_name (pg_name nd rfl (.inl rfl) (.inr rfl)))) (fun _ _ _ _ _ => pts_none) (fun _ _ _ _ _ => (pd_call 7 hK C.c7 hr passL (by rfl) (by decide +kernel) (px_name 0 rfl (.inr (.inl rfl)) (by decide +kernel) (by decide +kernel) (px_val (pd_lst (pl_cons (pd_con pe_int fun _ => .int _) (pl_cons (pd_con pe_int fun _ => .int _) (pl_cons (pd_con pe_int fun _ => .int _) (pl_cons (pd_un ud_neg (pd_con pe_int fun _ => .int _)) (pl_cons (pd_con pe_int fun _ => .int _) (pl_cons (pd_con pe_int fun _ => .int _) (pl_cons (pd_bin od_sub (pd_call 6 hK C.c6 hr passL (by rfl) (by decide +kernel) (px_name 0 rfl (.inr (.inl rfl)) (by decide +kernel) (by decide +kernel) (px_val (pd_con pe_int fun _ => .int _) px_nil rfl)) (len_name 0 (len_val len_nil)) rfl rfl) (pd_con pe_int fun _ => .int _)) pl_nil rfl) rfl) rfl) rfl) rfl) rfl) rfl)) px_nil rfl)) (len_name 0 (len_val len_nil)) rfl rfl)) (fun _ => rfl)) rfl (.inl rfl))
    (sx_cons (sx_par2T (i := 6) (j := 7) (f := true) (g := false) rfl (pd_call 10 hK C.c10 hr xc_takes (by rfl) (by decide +kernel) (px_name 5 rfl (.inr (.inl rfl)) (by decide +kernel) (by decide +kernel) (px_name 1 rfl (.inl rfl) (by decide +kernel) (by decide +kernel) px_nil)) (len_name 5 (len_name 1 len_nil)) rfl rfl) (pd_call 6 hK C.c6 hr xc_takes (by rfl) (by decide +kernel) (px_name 0 rfl (.inr (.inl rfl)) (by decide +kernel) (by decide +kernel) (px_name 1 rfl (.inl rfl) (by decide +kernel) (by decide +kernel) px_nil)) (len_name 0 (len_name 1 len_nil)) rfl rfl) (pgs_cons (pg_name (i := 6) nd rfl (.inr rfl) (.inl rfl)) (pgs_cons (pg_name (i := 7) nd rfl (.inr rfl) (.inl rfl)) pgs_nil rfl) rfl) rfl rfl rfl rfl rfl rfl rfl)
    (sx_cons (sx_set nd rfl (.inr rfl) (pd_call 7 hK C.c7 hr xc_takes (by rfl) (by decide +kernel) (px_name 0 rfl (.inr (.inl rfl)) (by decide +kernel) (by decide +kernel) (px_val (pd_lst (pl_cons (pd_con pe_int fun _ => .int _) (pl_cons (pd_con pe_int fun _ => .int _) (pl_cons (pd_con pe_int fun _ => .int _) pl_nil rfl) rfl) rfl)) px_nil rfl)) (len_name 0 (len_val len_nil)) rfl rfl) rfl (.inl rfl))
    (sx_cons (sx_if (pq_cmp2 (od_eq hK hu) (pd_var 3 rfl (.inl rfl) (by decide +kernel) (by decide +kernel)) (pd_con pe_int fun _ => .int _) rfl) (sx_one (sx_set nd rfl (.inr rfl) (pd_lcV rfl nd (ti_e (ti_val hK (pd_var 2 rfl (.inl rfl) (by decide +kernel) (by decide +kernel)))) (blk_of (N := N13) (own := [("_law_group", 4)]) (by kernel_rfl)) rfl (by decide) (fun _ _ _ _ _ => (tg_name (pg_name nd rfl (.inl rfl) (.inr rfl)))) (fun _ _ _ _ _ => pts_none) (fun _ _ _ _ _ => (pd_b1 (cd_sum hK rfl) (by rfl) g.sum boot_sum (pd_lcV rfl nd (ti_e (ti_val hK (pd_var 4 rfl (.inl rfl) (by decide +kernel) (by decide +kernel)))) (blk_of (N := N13) (own := [("_law_person", 10)]) (by kernel_rfl)) rfl (by decide) (fun _ _ _ _ _ => (tg_name (pg_name nd rfl (.inl rfl) (.inr rfl)))) (fun _ _ _ _ _ => pts_none) (fun _ _ _ _ _ => (pd_subV 5 hK hu rfl (.inr (.inl rfl)) (by decide +kernel) (by decide +kernel) (pd_var 10 rfl (.inl rfl) (by decide +kernel) (by decide +kernel)) fun _ _ => rfl)) (fun _ => rfl)) (by decide) (by decide +kernel) rfl)) (fun _ => rfl)) rfl (.inl rfl))) sx_nil)
    (sx_cons (sx_if (pq_cmp2 (od_eq hK hu) (pd_var 3 rfl (.inl rfl) (by decide +kernel) (by decide +kernel)) (pd_con pe_int fun _ => .int _) rfl) (sx_one (sx_set nd rfl (.inr rfl) (pd_lcV rfl nd (ti_e (ti_val hK (pd_var 2 rfl (.inl rfl) (by decide +kernel) (by decide +kernel)))) (blk_of (N := N13) (own := [("_law_group", 4)]) (by kernel_rfl)) rfl (by decide) (fun _ _ _ _ _ => (tg_name (pg_name nd rfl (.inl rfl) (.inr rfl)))) (fun _ _ _ _ _ => pts_none) (fun _ _ _ _ _ => (pd_bin (od_add hK) (pd_subV 6 hK hu rfl (.inr (.inl rfl)) (by decide +kernel) (by decide +kernel) (pd_call 12 hK C.c12 hr passL (by rfl) (by decide +kernel) (px_name 4 rfl (.inl rfl) (by decide +kernel) (by decide +kernel) (px_name 7 rfl (.inr (.inl rfl)) (by decide +kernel) (by decide +kernel) px_nil)) (len_name 4 (len_name 7 len_nil)) rfl rfl) fun _ _ => rfl) (pd_ite (pq_inV 4 (od_in hK hu) (pd_var 7 rfl (.inr (.inl rfl)) (by decide +kernel) (by decide +kernel)) rfl (.inl rfl) (by decide +kernel) (by decide +kernel)) (pd_var 8 rfl (.inr (.inl rfl)) (by decide +kernel) (by decide +kernel)) (pd_con pe_int fun _ => .int _)))) (fun _ => rfl)) rfl (.inl rfl))) sx_nil)
    (sx_cons (sx_if (pq_cmp2 (od_eq hK hu) (pd_var 3 rfl (.inl rfl) (by decide +kernel) (by decide +kernel)) (pd_con pe_int fun _ => .int _) rfl) (sx_cons (sx_set nd rfl (.inl rfl) (pd_bin od_mod (pd_bin (od_add hK) (pd_var 7 rfl (.inr (.inl rfl)) (by decide +kernel) (by decide +kernel)) (pd_con pe_int fun _ => .int _)) (pd_var 1 rfl (.inl rfl) (by decide +kernel) (by decide +kernel))) rfl (.inr rfl))
    (sx_cons (sx_for xc_own rfl (ti_val hK (pd_var 2 rfl (.inl rfl) (by decide +kernel) (by decide +kernel))) (tg_name (pg_name nd rfl (.inl rfl) (.inr rfl))) (sx_one (sx_if (PW.pt (pww_and (pq_inV 4 (od_in hK hu) (pd_var 7 rfl (.inr (.inl rfl)) (by decide +kernel) (by decide +kernel)) rfl (.inl rfl) (by decide +kernel) (by decide +kernel)) (pw1_and (pq_inV 4 (od_nin hK hu) (pd_var 9 rfl (.inl rfl) (by decide +kernel) (by decide +kernel)) rfl (.inl rfl) (by decide +kernel) (by decide +kernel))))) (sx_one (sx_store 6 hu rfl (.inr (.inl rfl)) (by decide +kernel) (by decide +kernel) (pd_call 11 hK C.c11 hr xc_takes (by rfl) (by decide +kernel) (px_val (pd_call 12 hK C.c12 hr xc_takes (by rfl) (by decide +kernel) (px_name 4 rfl (.inl rfl) (by decide +kernel) (by decide +kernel) (px_name 7 rfl (.inr (.inl rfl)) (by decide +kernel) (by decide +kernel) px_nil)) (len_name 4 (len_name 7 len_nil)) rfl rfl) (px_name 9 rfl (.inl rfl) (by decide +kernel) (by decide +kernel) px_nil) rfl) (len_val (len_name 9 len_nil)) rfl rfl) (pd_subV 6 hK hu rfl (.inr (.inl rfl)) (by decide +kernel) (by decide +kernel) (pd_var 4 rfl (.inl rfl) (by decide +kernel) (by decide +kernel)) fun _ _ => rfl) rfl rfl fun _ => rfl)) sx_nil)) fun _ => rfl)
    (sx_one (sx_set nd rfl (.inr rfl) (pd_lcV rfl nd (ti_e (ti_val hK (pd_var 2 rfl (.inl rfl) (by decide +kernel) (by decide +kernel)))) (blk_of (N := N13) (own := [("_law_group", 4)]) (by kernel_rfl)) rfl (by decide) (fun _ _ _ _ _ => (tg_name (pg_name nd rfl (.inl rfl) (.inr rfl)))) (fun _ _ _ _ _ => pts_none) (fun _ _ _ _ _ => (pd_subV 6 hK hu rfl (.inr (.inl rfl)) (by decide +kernel) (by decide +kernel) (pd_var 4 rfl (.inl rfl) (by decide +kernel) (by decide +kernel)) fun _ _ => rfl)) (fun _ => rfl)) rfl (.inl rfl))))) sx_nil)
    (sx_cons (sx_if (pq_cmp2 (od_eq hK hu) (pd_var 3 rfl (.inl rfl) (by decide +kernel) (by decide +kernel)) (pd_con pe_int fun _ => .int _) rfl) (sx_one (sx_set nd rfl (.inr rfl) (pd_lcV rfl nd (ti_e (ti_val hK (pd_var 2 rfl (.inl rfl) (by decide +kernel) (by decide +kernel)))) (blk_of (N := N13) (own := [("_law_group", 4)]) (by kernel_rfl)) rfl (by decide) (fun _ _ _ _ _ => (tg_name (pg_name nd rfl (.inl rfl) (.inr rfl)))) (fun _ _ _ _ _ => pts_none) (fun _ _ _ _ _ => (pd_ite (pq_inV 4 (od_in hK hu) (pd_var 7 rfl (.inr (.inl rfl)) (by decide +kernel) (by decide +kernel)) rfl (.inl rfl) (by decide +kernel) (by decide +kernel)) (pd_con pe_int fun _ => .int _) (pd_subV 6 hK hu rfl (.inr (.inl rfl)) (by decide +kernel) (by decide +kernel) (pd_var 4 rfl (.inl rfl) (by decide +kernel) (by decide +kernel)) fun _ _ => rfl))) (fun _ => rfl)) rfl (.inl rfl))) sx_nil)
    (sx_one (sx_ret (pd_t1V 5 (cd_tuple hK) (by rfl) g.tuple PyProof.Rows.boot_tuple (by decide) (by decide +kernel) rfl (.inr (.inl rfl)) (by decide +kernel) (by decide +kernel))))))))))))
theorem w15 (g : GF P K w mg) (d : DF K mg) (C : CF P w K mg base (k + 1) cf) (hr2 : Room (k + 1 + 2) (A.deeper (envOfC "law" (defScope st15) s.heap.objs.size f cdv))) {Pt cA : Addr} (hco : cdv = .ref cA) (TB : LamX.TabB base mg cA Pt) (TC0 : TabC (XC P w K mg base N15 "law" (defScope st15) f cdv A outer s H E) ⟨K, Gx, (Xx K), ρ, P0, H, E⟩ Pt) : PSs (XC P w K mg base N15 "law" (defScope st15) f cdv A outer s H E) (defBody st15) (TSx ⟨K, Gx, (Xx K), ρ, P0, H, E⟩ (b15 cf)) := by
  have hK : K = K := rfl
  have hr : Room (k + 1) (A.deeper (envOfC "law" (defScope st15) s.heap.objs.size f cdv)) := hr2.mono (by omega)
  have hu : (A.deeper (envOfC "law" (defScope st15) s.heap.objs.size f cdv)).units + 65 < cLine := xc_units hr
  have nd := sc15.nd
  obtain ⟨g14, fd14, t14⟩ := told14 (base := base) (f := f) (cdv := cdv) (A := A) (outer := outer) (s := s) (H := H) (E := E) g d
  exact (sx_cell2 (ps_set nd rfl (.inr rfl) (pd_lst (pl_cons (pd_var 0 rfl (.inl rfl) (by decide +kernel) (by decide +kernel)) (pl_cons (pd_con pe_int fun _ => .int _) (pl_cons (pd_con pe_int fun _ => .int _) (pl_cons (pd_con pe_int fun _ => .int _) pl_nil rfl) rfl) rfl) rfl)) rfl (.inl rfl)) fun ρ2 P2 H2 sm2 mk2 => (by have TC := TC0.at_ (ρ := ρ2) (P0 := P2) (H0 := H2) sm2 mk2; exact
    (sx_cons (sx_set nd rfl (.inl rfl) (pd_bin (od_add hK) (pd_con pe_int fun _ => .int _) (pd_call 6 hK C.c6 hr xc_takes (by rfl) (by decide +kernel) (px_name 7 rfl (.inr (.inl rfl)) (by decide +kernel) (by decide +kernel) (px_val (pd_con pe_int fun _ => .int _) px_nil rfl)) (len_name 7 (len_val len_nil)) rfl rfl)) rfl (.inr rfl))
    (sx_cons (sx_set nd rfl (.inl rfl) (pd_t1 (cd_tuple hK) (by rfl) g.tuple PyProof.Rows.boot_tuple (pd_lcV rfl nd (ti_e (ti_val hK (pd_call 13 hK C.c13 hr xc_takes (by rfl) (by decide +kernel) (px_name 7 rfl (.inr (.inl rfl)) (by decide +kernel) (by decide +kernel) (px_name 1 rfl (.inl rfl) (by decide +kernel) (by decide +kernel) px_nil)) (len_name 7 (len_name 1 len_nil)) rfl rfl))) (blk_of (N := N15) (own := [("_law_own", 8)]) (by kernel_rfl)) rfl (by decide) (fun _ _ _ _ _ => (tg_name (pg_name nd rfl (.inl rfl) (.inr rfl)))) (fun _ _ _ _ _ => pts_none) (fun _ _ _ _ _ => (pd_call 7 hK C.c7 hr passL (by rfl) (by decide +kernel) (px_name 7 rfl (.inr (.inl rfl)) (by decide +kernel) (by decide +kernel) (px_val (pd_lst (pl_cons (pd_var 8 rfl (.inl rfl) (by decide +kernel) (by decide +kernel)) (pl_cons (pd_con pe_int fun _ => .int _) (pl_cons (pd_un ud_neg (pd_con pe_int fun _ => .int _)) (pl_cons (pd_con pe_int fun _ => .int _) pl_nil rfl) rfl) rfl) rfl)) px_nil rfl)) (len_name 7 (len_val len_nil)) rfl rfl)) (fun _ => rfl)) (by decide) (by decide +kernel) rfl) rfl (.inr rfl))
    (sx_cons (sx_set nd rfl (.inl rfl) (pd_join hK (pd_con pe_str fun _ => .str _) (pd_lcV rfl nd (ti_e (ti_val hK (pd_var 2 rfl (.inl rfl) (by decide +kernel) (by decide +kernel)))) (blk_of (N := N15) (own := [("_law_own", 8)]) (by kernel_rfl)) rfl (by decide) (fun _ _ _ _ _ => (tg_name (pg_name nd rfl (.inl rfl) (.inr rfl)))) (fun _ _ _ _ _ => pts_none) (fun _ _ _ _ _ => (pd_t1V 8 cd_strOf (by rfl) g.str PyProof.Rows.boot_str (by decide) (by decide +kernel) rfl (.inl rfl) (by decide +kernel) (by decide +kernel))) (fun _ => rfl)) rfl rfl rfl) rfl (.inr rfl))
    (sx_cons (sx_if (PW.pt (pww_or (pq_cmp2 (od_ne hK hu) (pd_call 4 hK C.c4 hr xc_takes (by rfl) (by decide +kernel) (px_name 2 rfl (.inl rfl) (by decide +kernel) (by decide +kernel) px_nil) (len_name 2 len_nil) rfl rfl) (pd_var 3 rfl (.inl rfl) (by decide +kernel) (by decide +kernel)) rfl) (pw1_or (pq_not (pq_val (pd_call 8 hK C.c8 hr xc_takes (by rfl) (by decide +kernel) (px_val (pd_call 5 hK C.c5 hr xc_takes (by rfl) (by decide +kernel) (px_name 3 rfl (.inl rfl) (by decide +kernel) (by decide +kernel) px_nil) (len_name 3 len_nil) rfl rfl) (px_name 2 rfl (.inl rfl) (by decide +kernel) (by decide +kernel) px_nil) rfl) (len_val (len_name 2 len_nil)) rfl rfl) fun _ => rfl))))) (sx_one (sx_ret (pd_con pe_bl fun _ => .bl _))) sx_nil)
    (sx_cons (sx_par2 (i := 4) (j := 5) (f := false) (g := false) rfl nd rfl rfl (by decide) rfl rfl (pd_join hK (pd_con pe_str fun _ => .str _) (pd_lcV rfl nd (ti_e (ti_val hK (pd_sliceV 2 hK rfl (.inl rfl) (by decide +kernel) (by decide +kernel) (tpo_some (pd_con pe_int fun _ => .int _)) tpo_none))) (blk_of (N := N15) (own := [("_law_own", 8)]) (by kernel_rfl)) rfl (by decide) (fun _ _ _ _ _ => (tg_name (pg_name nd rfl (.inl rfl) (.inr rfl)))) (fun _ _ _ _ _ => pts_none) (fun _ _ _ _ _ => (pd_t1V 8 cd_strOf (by rfl) g.str PyProof.Rows.boot_str (by decide) (by decide +kernel) rfl (.inl rfl) (by decide +kernel) (by decide +kernel))) (fun _ => rfl)) rfl rfl rfl) (pd_call 7 hK C.c7 hr xc_takes (by rfl) (by decide +kernel) (px_name 7 rfl (.inr (.inl rfl)) (by decide +kernel) (by decide +kernel) (px_val (pd_lst (pl_cons (pd_con pe_str fun _ => .str _) (pl_cons (pd_con pe_str fun _ => .str _) (pl_cons (pd_con pe_str fun _ => .str _) (pl_cons (pd_con pe_str fun _ => .str _) (pl_cons (pd_con pe_str fun _ => .str _) (pl_cons (pd_con pe_str fun _ => .str _) (pl_cons (pd_con pe_str fun _ => .str _) (pl_cons (pd_con pe_str fun _ => .str _) (pl_cons (pd_con pe_str fun _ => .str _) (pl_cons (pd_con pe_str fun _ => .str _) (pl_cons (pd_con pe_str fun _ => .str _) (pl_cons (pd_con pe_str fun _ => .str _) (pl_cons (pd_con pe_str fun _ => .str _) (pl_cons (pd_con pe_str fun _ => .str _) (pl_cons (pd_con pe_str fun _ => .str _) pl_nil rfl) rfl) rfl) rfl) rfl) rfl) rfl) rfl) rfl) rfl) rfl) rfl) rfl) rfl) rfl)) px_nil rfl)) (len_name 7 (len_val len_nil)) rfl rfl) rfl rfl rfl rfl)
    (sx_cons (sx_set nd rfl (.inr rfl) (pd_lst (pl_cons (pd_con pe_str fun _ => .str _) (pl_cons (pd_con pe_str fun _ => .str _) (pl_cons (pd_con pe_str fun _ => .str _) (pl_cons (pd_con pe_str fun _ => .str _) (pl_cons (pd_var 4 rfl (.inl rfl) (by decide +kernel) (by decide +kernel)) (pl_cons (pd_bin (od_add hK) (pd_var 3 rfl (.inl rfl) (by decide +kernel) (by decide +kernel)) (pd_con pe_str fun _ => .str _)) (pl_cons (pd_bin (od_add hK) (pd_bin (od_add hK) (pd_var 5 rfl (.inl rfl) (by decide +kernel) (by decide +kernel)) (pd_con pe_str fun _ => .str _)) (pd_var 4 rfl (.inl rfl) (by decide +kernel) (by decide +kernel))) pl_nil rfl) rfl) rfl) rfl) rfl) rfl) rfl)) rfl (.inl rfl))
    (sx_cons (sx_if (pq_cmp2 (od_ne hK hu) (pd_lam (dvs := []) (bs := []) TC t14.F (by rfl) t14.m t14.b sc14 rfl (.inl rfl) t14.G TB hco hr2 (LamY.lamZ_by (by kernel_rfl)) (.none rfl) (.inl ⟨rfl, rfl, fun _ _ _ _ _ => rfl⟩) rfl (fun A1 outer1 s1 H1 E1 f1 c1 hr => (by have hu := xc_units hr; exact (pd_call 5 hK C.c5 hr (lam_takes (X := XC P w K mg base N15 "law" (defScope st15) f cdv A outer s H E) (A := A1) (outer := outer1) (s := s1) (H := H1) (E' := E1) (f := f1) (c' := c1)) (by rfl) (by decide +kernel) (px_val (pd_call 7 hK C.c7 hr (lam_takes (X := XC P w K mg base N15 "law" (defScope st15) f cdv A outer s H E) (A := A1) (outer := outer1) (s := s1) (H := H1) (E' := E1) (f := f1) (c' := c1)) (by rfl) (by decide +kernel) (px_name 7 rfl ((.inr (.inr rfl))) (by decide +kernel) (by decide +kernel) (px_name 6 rfl ((.inr (.inr rfl))) (by decide +kernel) (by decide +kernel) px_nil)) (len_name 7 (len_name 6 len_nil)) rfl rfl) px_nil rfl) (len_val len_nil) rfl rfl))) t14.hd t14.ha) (pd_con pe_str fun _ => .str _) rfl) (sx_one (sx_ret (pd_con pe_bl fun _ => .bl _))) sx_nil)
    (sx_one (sx_ret (pd_cmp (od_eq hK hu) (pd_lam (dvs := []) (bs := []) TC t14.F (by rfl) t14.m t14.b sc14 rfl (.inl rfl) t14.G TB hco hr2 (LamY.lamZ_by (by kernel_rfl)) (.none rfl) (.inl ⟨rfl, rfl, fun _ _ _ _ _ => rfl⟩) rfl (fun A1 outer1 s1 H1 E1 f1 c1 hr => (by have hu := xc_units hr; exact (pd_call 5 hK C.c5 hr (lam_takes (X := XC P w K mg base N15 "law" (defScope st15) f cdv A outer s H E) (A := A1) (outer := outer1) (s := s1) (H := H1) (E' := E1) (f := f1) (c' := c1)) (by rfl) (by decide +kernel) (px_val (pd_call 7 hK C.c7 hr (lam_takes (X := XC P w K mg base N15 "law" (defScope st15) f cdv A outer s H E) (A := A1) (outer := outer1) (s := s1) (H := H1) (E' := E1) (f := f1) (c' := c1)) (by rfl) (by decide +kernel) (px_name 7 rfl ((.inr (.inr rfl))) (by decide +kernel) (by decide +kernel) (px_val (pd_lst (pl_cons (pd_con pe_non fun _ => .non) (pl_cons (pd_con pe_int fun _ => .int _) (pl_cons (pd_lst (pl_cons (pd_con pe_int fun _ => .int _) (pl_cons (pd_con pe_int fun _ => .int _) (pl_cons (pd_con pe_int fun _ => .int _) pl_nil rfl) rfl) rfl)) (pl_cons (pd_tup (pl_cons (pd_con pe_int fun _ => .int _) (pl_cons (pd_con pe_int fun _ => .int _) (pl_cons (pd_con pe_int fun _ => .int _) pl_nil rfl) rfl) rfl)) (pl_cons (pd_con pe_bl fun _ => .bl _) pl_nil rfl) rfl) rfl) rfl) rfl)) px_nil rfl)) (len_name 7 (len_val len_nil)) rfl rfl) px_nil rfl) (len_val len_nil) rfl rfl))) t14.hd t14.ha) (pd_con pe_str fun _ => .str _) rfl))))))))))))
end
/-! ### the calls, to any depth -/
def bodyOf : Nat → (Nat → List Pv.Arg → Sto → Out R) → Sx
  | 0 => b0
  | 1 => b1
  | 2 => b2
  | 3 => b3
  | 4 => b4
  | 5 => b5
  | 6 => b6
  | 7 => b7
  | 8 => b8
  | 9 => b9
  | 10 => b10
  | 11 => b11
  | 12 => b12
  | 13 => b13
  | 15 => b15
  | _ => fun _ => nope
def wide : Nat → Nat
  | 0 => 1
  | 1 => 2
  | 2 => 1
  | 3 => 3
  | 4 => 2
  | 5 => 4
  | 6 => 4
  | 7 => 2
  | 8 => 3
  | 9 => 8
  | 10 => 3
  | 11 => 3
  | 12 => 3
  | 13 => 11
  | 15 => 9
  | _ => 0
def call : Nat → Nat → List Pv.Arg → Sto → Out R
  | 0 => fun _ _ _ => .bad
  | k + 1 => fun i => runF (bodyOf i (call k)) (wide i)
section
variable {P : Program} {w : World} {K : PySem.W.Frag} {mg : Str → Option Value} {base : Heap}
theorem cf_zero (d : DF K mg) : CF P w K mg base 1 (call 0) where
  n0 := let ⟨_, _, F, hm⟩ := d.d0; calleeN_mk F hm (F.bindsN fun _ _ _ _ _ _ us hl => match us, hl with | [_], _ => rfl) (fn_badN F sc0 rfl)
  c0 := let ⟨_, _, F, hm⟩ := d.d0; callee_mk F hm (F.bindsN fun _ _ _ _ _ _ us hl => match us, hl with | [_], _ => rfl) (fn_bad F sc0 rfl)
  n1 := let ⟨_, _, F, hm⟩ := d.d1; calleeN_mk F hm (F.bindsN fun _ _ _ _ _ _ us hl => match us, hl with | [_], _ => rfl) (fn_badN F sc1 rfl)
  c1 := let ⟨_, _, F, hm⟩ := d.d1; callee_mk F hm (F.bindsN fun _ _ _ _ _ _ us hl => match us, hl with | [_], _ => rfl) (fn_bad F sc1 rfl)
  c2 := let ⟨_, _, F, hm⟩ := d.d2; callee_mk F hm (F.bindsN fun _ _ _ _ _ _ us hl => match us, hl with | [_], _ => rfl) (fn_bad F sc2 rfl)
  c3 := let ⟨_, _, F, hm⟩ := d.d3; callee_mk F hm (F.bindsN fun _ _ _ _ _ _ us hl => match us, hl with | [_], _ => rfl) (fn_bad F sc3 rfl)
  c4 := let ⟨_, _, F, hm⟩ := d.d4; callee_mk F hm (F.bindsN fun _ _ _ _ _ _ us hl => match us, hl with | [_], _ => rfl) (fn_bad F sc4 rfl)
  c5 := let ⟨_, _, F, hm⟩ := d.d5; callee_mk F hm (F.bindsN fun _ _ _ _ _ _ us hl => match us, hl with | [_], _ => rfl) (fn_bad F sc5 rfl)
  c6 := let ⟨_, _, F, hm⟩ := d.d6; callee_mk F hm (F.bindsN fun _ _ _ _ _ _ us hl => match us, hl with | [_, _], _ => rfl) (fn_bad F sc6 rfl)
  c7 := let ⟨_, _, F, hm⟩ := d.d7; callee_mk F hm (F.bindsN fun _ _ _ _ _ _ us hl => match us, hl with | [_, _], _ => rfl) (fn_bad F sc7 rfl)
  c8 := let ⟨_, _, F, hm⟩ := d.d8; callee_mk F hm (F.bindsN fun _ _ _ _ _ _ us hl => match us, hl with | [_, _], _ => rfl) (fn_bad F sc8 rfl)
  c9 := let ⟨_, _, F, hm⟩ := d.d9; callee_mk F hm (F.bindsN fun _ _ _ _ _ _ us hl => match us, hl with | [_], _ => rfl) (fn_bad F sc9 rfl)
  c10 := let ⟨_, _, F, hm⟩ := d.d10; callee_mk F hm (F.bindsN fun _ _ _ _ _ _ us hl => match us, hl with | [_, _], _ => rfl) (fn_bad F sc10 rfl)
  c11 := let ⟨_, _, F, hm⟩ := d.d11; callee_mk F hm (F.bindsN fun _ _ _ _ _ _ us hl => match us, hl with | [_, _], _ => rfl) (fn_bad F sc11 rfl)
  c12 := let ⟨_, _, F, hm⟩ := d.d12; callee_mk F hm (F.bindsN fun _ _ _ _ _ _ us hl => match us, hl with | [_, _], _ => rfl) (fn_bad F sc12 rfl)
  c13 := let ⟨_, _, F, hm⟩ := d.d13; callee_mk F hm (F.bindsN fun _ _ _ _ _ _ us hl => match us, hl with | [_, _], _ => rfl) (fn_bad F sc13 rfl)
theorem cf_succ (g : GF P K w mg) (d : DF K mg) {k : Nat} (C : CF P w K mg base (k + 1) (call k)) : CF P w K mg base (k + 2) (call (k + 1)) where
  n0 := let ⟨_, _, F, hm⟩ := d.d0; calleeN_mk F hm (F.bindsN fun _ _ _ _ _ _ us hl => match us, hl with | [_], _ => rfl) (fn_okN (k := k + 1) F sc0 rfl rfl fun _ _ _ _ _ _ _ _ hr => wN0 g C hr)
  c0 := let ⟨_, _, F, hm⟩ := d.d0; callee_mk F hm (F.bindsN fun _ _ _ _ _ _ us hl => match us, hl with | [_], _ => rfl) (fn_ok (k := k + 1) F sc0 rfl rfl fun _ _ _ _ _ _ _ _ hr => w0 g C hr)
  n1 := let ⟨_, _, F, hm⟩ := d.d1; calleeN_mk F hm (F.bindsN fun _ _ _ _ _ _ us hl => match us, hl with | [_], _ => rfl) (fn_okN (k := k + 1) F sc1 rfl rfl fun _ _ _ _ _ _ _ _ hr => wN1 g C hr)
  c1 := let ⟨_, _, F, hm⟩ := d.d1; callee_mk F hm (F.bindsN fun _ _ _ _ _ _ us hl => match us, hl with | [_], _ => rfl) (fn_ok (k := k + 1) F sc1 rfl rfl fun _ _ _ _ _ _ _ _ hr => w1 g C hr)
  c2 := let ⟨_, _, F, hm⟩ := d.d2; callee_mk F hm (F.bindsN fun _ _ _ _ _ _ us hl => match us, hl with | [_], _ => rfl) (fn_ok (k := k + 1) F sc2 rfl rfl fun _ _ _ _ _ _ _ _ hr => w2 g C hr)
  c3 := let ⟨_, _, F, hm⟩ := d.d3; callee_mk F hm (F.bindsN fun _ _ _ _ _ _ us hl => match us, hl with | [_], _ => rfl) (fn_ok (k := k + 1) F sc3 rfl rfl fun _ _ _ _ _ _ _ _ hr => w3 g C hr)
  c4 := let ⟨_, _, F, hm⟩ := d.d4; callee_mk F hm (F.bindsN fun _ _ _ _ _ _ us hl => match us, hl with | [_], _ => rfl) (fn_ok (k := k + 1) F sc4 rfl rfl fun _ _ _ _ _ _ _ _ hr => w4 g C hr)
  c5 := let ⟨_, _, F, hm⟩ := d.d5; callee_mk F hm (F.bindsN fun _ _ _ _ _ _ us hl => match us, hl with | [_], _ => rfl) (fn_ok (k := k + 1) F sc5 rfl rfl fun _ _ _ _ _ _ _ _ hr => w5 g C hr)
  c6 := let ⟨_, _, F, hm⟩ := d.d6; callee_mk F hm (F.bindsN fun _ _ _ _ _ _ us hl => match us, hl with | [_, _], _ => rfl) (fn_ok (k := k + 1) F sc6 rfl rfl fun _ _ _ _ _ _ _ _ hr => w6 g C hr)
  c7 := let ⟨_, _, F, hm⟩ := d.d7; callee_mk F hm (F.bindsN fun _ _ _ _ _ _ us hl => match us, hl with | [_, _], _ => rfl) (fn_ok (k := k + 1) F sc7 rfl rfl fun _ _ _ _ _ _ _ _ hr => w7 g C hr)
  c8 := let ⟨_, _, F, hm⟩ := d.d8; callee_mk F hm (F.bindsN fun _ _ _ _ _ _ us hl => match us, hl with | [_, _], _ => rfl) (fn_ok (k := k + 1) F sc8 rfl rfl fun _ _ _ _ _ _ _ _ hr => w8 g C hr)
  c9 := let ⟨_, _, F, hm⟩ := d.d9; callee_mk F hm (F.bindsN fun _ _ _ _ _ _ us hl => match us, hl with | [_], _ => rfl) (fn_ok (k := k + 1) F sc9 rfl rfl fun _ _ _ _ _ _ _ _ hr => w9 g C hr)
  c10 := let ⟨_, _, F, hm⟩ := d.d10; callee_mk F hm (F.bindsN fun _ _ _ _ _ _ us hl => match us, hl with | [_, _], _ => rfl) (fn_ok (k := k + 1) F sc10 rfl rfl fun _ _ _ _ _ _ _ _ hr => w10 g C hr)
  c11 := let ⟨_, _, F, hm⟩ := d.d11; callee_mk F hm (F.bindsN fun _ _ _ _ _ _ us hl => match us, hl with | [_, _], _ => rfl) (fn_ok (k := k + 1) F sc11 rfl rfl fun _ _ _ _ _ _ _ _ hr => w11 g C hr)
  c12 := let ⟨_, _, F, hm⟩ := d.d12; callee_mk F hm (F.bindsN fun _ _ _ _ _ _ us hl => match us, hl with | [_, _], _ => rfl) (fn_ok (k := k + 1) F sc12 rfl rfl fun _ _ _ _ _ _ _ _ hr => w12 g C hr)
  c13 := let ⟨_, _, F, hm⟩ := d.d13; callee_mk F hm (F.bindsN fun _ _ _ _ _ _ us hl => match us, hl with | [_, _], _ => rfl) (fn_ok (k := k + 1) F sc13 rfl rfl fun _ _ _ _ _ _ _ _ hr => w13 g C hr)
theorem cf_all (g : GF P K w mg) (d : DF K mg) : ∀ k, CF P w K mg base (k + 1) (call k)
  | 0 => cf_zero d
  | k + 1 => cf_succ g d (cf_all g d k)
end
end Lk08

set_option Elab.async false
set_option linter.all false
set_option maxRecDepth 100000
set_option maxHeartbeats 0
namespace Lk08
open PySem PySem.Spec PyProof.Rows L2 Pv
/-! ### the head: facts by names -/
def dd0 : He.DefD := ⟨("is_integer", none), "is_integer", "is_integer", defArgs st0, defBody st0, defScope st0, [], []⟩
def dd1 : He.DefD := ⟨("need_game", none), "need_game", "need_game", defArgs st1, defBody st1, defScope st1, [], []⟩
def dd2 : He.DefD := ⟨("need_text", none), "need_text", "need_text", defArgs st2, defBody st2, defScope st2, [], []⟩
def dd3 : He.DefD := ⟨("number_in", none), "number_in", "number_in", defArgs st3, defBody st3, defScope st3, [], []⟩
def dd4 : He.DefD := ⟨("write_game", none), "write_game", "write_game", defArgs st4, defBody st4, defScope st4, [], []⟩
def dd5 : He.DefD := ⟨("read_game", none), "read_game", "read_game", defArgs st5, defBody st5, defScope st5, [], []⟩
def dd6 : He.DefD := ⟨("_law_taken", none), "_law_taken", "_law_taken", defArgs st6, defBody st6, defScope st6, [], []⟩
def dd7 : He.DefD := ⟨("_law_pick", none), "_law_pick", "_law_pick", defArgs st7, defBody st7, defScope st7, [], []⟩
def dd8 : He.DefD := ⟨("_law_alike", none), "_law_alike", "_law_alike", defArgs st8, defBody st8, defScope st8, [], []⟩
def dd9 : He.DefD := ⟨("_law_groups", none), "_law_groups", "_law_groups", defArgs st9, defBody st9, defScope st9, [], []⟩
def dd10 : He.DefD := ⟨("_law_worths", none), "_law_worths", "_law_worths", defArgs st10, defBody st10, defScope st10, [], []⟩
def dd11 : He.DefD := ⟨("_law_with", none), "_law_with", "_law_with", defArgs st11, defBody st11, defScope st11, [], []⟩
def dd12 : He.DefD := ⟨("_law_less", none), "_law_less", "_law_less", defArgs st12, defBody st12, defScope st12, [], []⟩
def dd13 : He.DefD := ⟨("_law_game", none), "_law_game", "_law_game", defArgs st13, defBody st13, defScope st13, [], []⟩
def dd14 : He.DefD := ⟨("_law_told", none), "_law_told", "_law_told", defArgs st14, defBody st14, defScope st14, [], []⟩
def dd15 : He.DefD := ⟨("law", none), "law", "law", defArgs st15, defBody st15, defScope st15, [], []⟩
def fn : List He.DefD := [dd0, dd1, dd2, dd3, dd4, dd5, dd6, dd7, dd8, dd9, dd10, dd11, dd12, dd13, dd14, dd15]
abbrev sup_BadGame : SupD := ⟨("BadGame", some "__init__"), "BadGame.__init__", defArgs (inClass (top 2) 0), defBody (inClass (top 2) 0), defScope (inClass (top 2) 0)⟩
def fa : List He.Fa := [.glo "is_integer", .glo "need_game", .glo "need_text", .glo "number_in", .glo "write_game", .glo "read_game", .glo "_law_taken", .glo "_law_pick", .glo "_law_alike", .glo "_law_groups", .glo "_law_worths", .glo "_law_with", .glo "_law_less", .glo "_law_game", .glo "_law_told", .glo "law", .free "isinstance", .free "int", .free "bool", .free "tuple", .free "len", .glo "SIZES", .glo "BadGame", .free "range", .free "abs", .int "MOST_WORTH" 1000, .free "str", .exc "NotText", .glo "NotText", .free "all", .str "FIGURES" (Str.ofString "0123456789"), .exc "InvalidText", .glo "InvalidText", .free "list", .free "dict", .free "zip", .free "sorted", .free "sum", .free "super", .glo "ShareError", .glo "InvalidText", .glo "NotText"]
def xtra : PySem.W.Frag → Bool := fun K => (tabI "SIZES" ti_SIZES K) && ((SupY.supB "BadGame" "index" K) && ((SupY.inB PySem.Challenge.pw_worthshares_k08_whole_texts.main.file "BadGame" "BadGame.__init__" K) && ((exmB "InvalidText" "ShareError" true K) && ((excCB "InvalidText" K) && ((kitB "InvalidText" "InvalidText" true K) && ((kitB "InvalidText" "NotText" false K) && ((exmB "NotText" "ShareError" true K) && ((excCB "NotText" K) && ((kitB "NotText" "InvalidText" false K) && ((kitB "NotText" "NotText" true K) && ((exmB "BadGame" "BadGame" true K) && (true))))))))))))
def sps0 : List SupD := [sup_BadGame]
theorem err_BadGame {K : PySem.W.Frag} {h : Heap} {mg : Str → Option Value} (X : K.In h) (G : h.Ns mainGlobals mg) (c : He.SaysD fa fn K) (xt : xtra K = true) (sps : sps0.map (fun d => fnS K d.at_) = sps0.map SupD.val) : ErrK PySem.Challenge.pw_worthshares_k08_whole_texts K mg "BadGame" (He.ga K "BadGame") "index" := by
  obtain ⟨S, hno⟩ := SupY.supB_ok (Bool.and_eq_true_iff.mp (Bool.and_eq_true_iff.mp xt).2).1 (show mg "super" = none from He.free_ok X G (c.fact 38 (f := .free "super") rfl))
  have e := congrArg (fun l => l[0]?) sps
  have e2 : fnS K ("BadGame", some "__init__") = SupD.val sup_BadGame := by
    have e3 : some (fnS K ("BadGame", some "__init__")) = some (SupD.val sup_BadGame) := e
    exact Option.some.inj e3
  obtain ⟨fI, cda, cc, kV, doc, pm, an, ct, i1, i2, I⟩ := SupY.inB_ok (prog := PySem.Challenge.pw_worthshares_k08_whole_texts) (Bool.and_eq_true_iff.mp (Bool.and_eq_true_iff.mp (Bool.and_eq_true_iff.mp xt).2).2).1 e2
  refine ⟨He.glo_ok X G (c.fact 22 (f := .glo "BadGame") rfl), S, fI, i1, i2, fun Y y1 y2 y3 A h0 hq e t0 u g d t os R hr M0 k0 n0 he k => ?_⟩
  subst y2 y3
  rw [y1]
  exact SupY.init1 (pl := fun env => L2.plainOf _ env) M0 k0 n0 S I hr he hno (fun _ => .of_eq rfl) rfl rfl rfl rfl rfl rfl rfl rfl (by decide +kernel) (by decide +kernel) (by decide) (by decide) (fun _ => rfl) (fun _ => rfl) (fun _ => rfl) (fun _ => rfl) (fun _ => rfl) k
theorem gf_of {w : World} {K : PySem.W.Frag} {h : Heap} {mg : Str → Option Value} (X : K.In h) (G : h.Ns mainGlobals mg) (c : He.SaysD fa fn K) (xt : xtra K = true) (sps : sps0.map (fun d => fnS K d.at_) = sps0.map SupD.val) : GF PySem.Challenge.pw_worthshares_k08_whole_texts K w mg where
  isinstance := He.free_ok X G (c.fact 16 (f := .free "isinstance") rfl)
  int := He.free_ok X G (c.fact 17 (f := .free "int") rfl)
  bool := He.free_ok X G (c.fact 18 (f := .free "bool") rfl)
  tuple := He.free_ok X G (c.fact 19 (f := .free "tuple") rfl)
  len := He.free_ok X G (c.fact 20 (f := .free "len") rfl)
  SIZES := ⟨_, He.glo_ok X G (c.fact 21 (f := .glo "SIZES") rfl), tabI_ok (l := ti_SIZES) (Bool.and_eq_true_iff.mp xt).1 (by decide)⟩
  e_BadGame := err_BadGame X G c xt sps
  range := He.free_ok X G (c.fact 23 (f := .free "range") rfl)
  abs := He.free_ok X G (c.fact 24 (f := .free "abs") rfl)
  MOST_WORTH := He.int_ok X G (c.fact 25 (f := .int "MOST_WORTH" 1000) rfl)
  str := He.free_ok X G (c.fact 26 (f := .free "str") rfl)
  x_NotText := let ⟨x1, x2, x3, x4⟩ := He.exc_ok (c.fact 27 (f := .exc "NotText") rfl); ⟨He.glo_ok X G (c.fact 28 (f := .glo "NotText") rfl), x1, x2, x3, x4⟩
  all := He.free_ok X G (c.fact 29 (f := .free "all") rfl)
  FIGURES := He.str_ok X G (c.fact 30 (f := .str "FIGURES" (Str.ofString "0123456789")) rfl)
  x_InvalidText := let ⟨x1, x2, x3, x4⟩ := He.exc_ok (c.fact 31 (f := .exc "InvalidText") rfl); ⟨He.glo_ok X G (c.fact 32 (f := .glo "InvalidText") rfl), x1, x2, x3, x4⟩
  list := He.free_ok X G (c.fact 33 (f := .free "list") rfl)
  dict := He.free_ok X G (c.fact 34 (f := .free "dict") rfl)
  zip := He.free_ok X G (c.fact 35 (f := .free "zip") rfl)
  sorted := He.free_ok X G (c.fact 36 (f := .free "sorted") rfl)
  sum := He.free_ok X G (c.fact 37 (f := .free "sum") rfl)
  super := He.free_ok X G (c.fact 38 (f := .free "super") rfl)
  b_ShareError := He.glo_ok X G (c.fact 39 (f := .glo "ShareError") rfl)
  b_InvalidText := He.glo_ok X G (c.fact 40 (f := .glo "InvalidText") rfl)
  b_NotText := He.glo_ok X G (c.fact 41 (f := .glo "NotText") rfl)
  tk_InvalidText_ShareError := exmB_ok (Bool.and_eq_true_iff.mp (Bool.and_eq_true_iff.mp (Bool.and_eq_true_iff.mp (Bool.and_eq_true_iff.mp xt).2).2).2).1
  ec_InvalidText := excCB_ok (Bool.and_eq_true_iff.mp (Bool.and_eq_true_iff.mp (Bool.and_eq_true_iff.mp (Bool.and_eq_true_iff.mp (Bool.and_eq_true_iff.mp xt).2).2).2).2).1
  ki_InvalidText_InvalidText := kitB_ok (Bool.and_eq_true_iff.mp (Bool.and_eq_true_iff.mp (Bool.and_eq_true_iff.mp (Bool.and_eq_true_iff.mp (Bool.and_eq_true_iff.mp (Bool.and_eq_true_iff.mp xt).2).2).2).2).2).1
  ki_InvalidText_NotText := kitB_ok (Bool.and_eq_true_iff.mp (Bool.and_eq_true_iff.mp (Bool.and_eq_true_iff.mp (Bool.and_eq_true_iff.mp (Bool.and_eq_true_iff.mp (Bool.and_eq_true_iff.mp (Bool.and_eq_true_iff.mp xt).2).2).2).2).2).2).1
  tk_NotText_ShareError := exmB_ok (Bool.and_eq_true_iff.mp (Bool.and_eq_true_iff.mp (Bool.and_eq_true_iff.mp (Bool.and_eq_true_iff.mp (Bool.and_eq_true_iff.mp (Bool.and_eq_true_iff.mp (Bool.and_eq_true_iff.mp (Bool.and_eq_true_iff.mp xt).2).2).2).2).2).2).2).1
  ec_NotText := excCB_ok (Bool.and_eq_true_iff.mp (Bool.and_eq_true_iff.mp (Bool.and_eq_true_iff.mp (Bool.and_eq_true_iff.mp (Bool.and_eq_true_iff.mp (Bool.and_eq_true_iff.mp (Bool.and_eq_true_iff.mp (Bool.and_eq_true_iff.mp (Bool.and_eq_true_iff.mp xt).2).2).2).2).2).2).2).2).1
  ki_NotText_InvalidText := kitB_ok (Bool.and_eq_true_iff.mp (Bool.and_eq_true_iff.mp (Bool.and_eq_true_iff.mp (Bool.and_eq_true_iff.mp (Bool.and_eq_true_iff.mp (Bool.and_eq_true_iff.mp (Bool.and_eq_true_iff.mp (Bool.and_eq_true_iff.mp (Bool.and_eq_true_iff.mp (Bool.and_eq_true_iff.mp xt).2).2).2).2).2).2).2).2).2).1
  ki_NotText_NotText := kitB_ok (Bool.and_eq_true_iff.mp (Bool.and_eq_true_iff.mp (Bool.and_eq_true_iff.mp (Bool.and_eq_true_iff.mp (Bool.and_eq_true_iff.mp (Bool.and_eq_true_iff.mp (Bool.and_eq_true_iff.mp (Bool.and_eq_true_iff.mp (Bool.and_eq_true_iff.mp (Bool.and_eq_true_iff.mp (Bool.and_eq_true_iff.mp xt).2).2).2).2).2).2).2).2).2).2).1
  em_BadGame := exmB_ok (Bool.and_eq_true_iff.mp (Bool.and_eq_true_iff.mp (Bool.and_eq_true_iff.mp (Bool.and_eq_true_iff.mp (Bool.and_eq_true_iff.mp (Bool.and_eq_true_iff.mp (Bool.and_eq_true_iff.mp (Bool.and_eq_true_iff.mp (Bool.and_eq_true_iff.mp (Bool.and_eq_true_iff.mp (Bool.and_eq_true_iff.mp (Bool.and_eq_true_iff.mp xt).2).2).2).2).2).2).2).2).2).2).2).1
theorem df_of {K : PySem.W.Frag} {h : Heap} {mg : Str → Option Value} (X : K.In h) (G : h.Ns mainGlobals mg) (c : He.SaysD fa fn K) : DF K mg where
  d0 := let ⟨fd, F⟩ := c.def_ 0 (d := dd0) rfl; ⟨_, fd, F, He.glo_ok X G (c.fact 0 (f := .glo "is_integer") rfl)⟩
  d1 := let ⟨fd, F⟩ := c.def_ 1 (d := dd1) rfl; ⟨_, fd, F, He.glo_ok X G (c.fact 1 (f := .glo "need_game") rfl)⟩
  d2 := let ⟨fd, F⟩ := c.def_ 2 (d := dd2) rfl; ⟨_, fd, F, He.glo_ok X G (c.fact 2 (f := .glo "need_text") rfl)⟩
  d3 := let ⟨fd, F⟩ := c.def_ 3 (d := dd3) rfl; ⟨_, fd, F, He.glo_ok X G (c.fact 3 (f := .glo "number_in") rfl)⟩
  d4 := let ⟨fd, F⟩ := c.def_ 4 (d := dd4) rfl; ⟨_, fd, F, He.glo_ok X G (c.fact 4 (f := .glo "write_game") rfl)⟩
  d5 := let ⟨fd, F⟩ := c.def_ 5 (d := dd5) rfl; ⟨_, fd, F, He.glo_ok X G (c.fact 5 (f := .glo "read_game") rfl)⟩
  d6 := let ⟨fd, F⟩ := c.def_ 6 (d := dd6) rfl; ⟨_, fd, F, He.glo_ok X G (c.fact 6 (f := .glo "_law_taken") rfl)⟩
  d7 := let ⟨fd, F⟩ := c.def_ 7 (d := dd7) rfl; ⟨_, fd, F, He.glo_ok X G (c.fact 7 (f := .glo "_law_pick") rfl)⟩
  d8 := let ⟨fd, F⟩ := c.def_ 8 (d := dd8) rfl; ⟨_, fd, F, He.glo_ok X G (c.fact 8 (f := .glo "_law_alike") rfl)⟩
  d9 := let ⟨fd, F⟩ := c.def_ 9 (d := dd9) rfl; ⟨_, fd, F, He.glo_ok X G (c.fact 9 (f := .glo "_law_groups") rfl)⟩
  d10 := let ⟨fd, F⟩ := c.def_ 10 (d := dd10) rfl; ⟨_, fd, F, He.glo_ok X G (c.fact 10 (f := .glo "_law_worths") rfl)⟩
  d11 := let ⟨fd, F⟩ := c.def_ 11 (d := dd11) rfl; ⟨_, fd, F, He.glo_ok X G (c.fact 11 (f := .glo "_law_with") rfl)⟩
  d12 := let ⟨fd, F⟩ := c.def_ 12 (d := dd12) rfl; ⟨_, fd, F, He.glo_ok X G (c.fact 12 (f := .glo "_law_less") rfl)⟩
  d13 := let ⟨fd, F⟩ := c.def_ 13 (d := dd13) rfl; ⟨_, fd, F, He.glo_ok X G (c.fact 13 (f := .glo "_law_game") rfl)⟩
  d14 := let ⟨fd, F⟩ := c.def_ 14 (d := dd14) rfl; ⟨_, fd, F, He.glo_ok X G (c.fact 14 (f := .glo "_law_told") rfl)⟩
  d15 := let ⟨fd, F⟩ := c.def_ 15 (d := dd15) rfl; ⟨_, fd, F, He.glo_ok X G (c.fact 15 (f := .glo "law") rfl)⟩
def others : List Str := (["ShareError", "BadGame", "NotText", "InvalidText", "MOST_WORTH", "SIZES", "is_integer", "need_game", "FIGURES", "need_text", "number_in", "write_game", "read_game", "_law_taken", "_law_pick", "_law_alike"] : List Str) ++ (["_law_groups", "_law_worths", "_law_with", "_law_less", "_law_game", "_law_told"] : List Str)
abbrev ROW : PySem.W.OpenRow := PySem.W.OpenLaw.row PySem.Challenge.rw_worthshares_k08_whole_texts
abbrev hk : PySem.W.Hook := hookQ 6 fa fn sps0 [("law", none)] xtra
theorem run0 : ∀ w : World, HandSHeadRun.RunEq ROW (PySem.W.view ROW.prog [26]) hk (obQ 6 fa fn sps0 [("law", none)] xtra) steps others (w.withFollow "special-get-raises" false) := fun w => by intro os; kernel_rfl
theorem run1 : ∀ w : World, HandSHeadRun.RunEq ROW (PySem.W.view ROW.prog [26]) hk (obQ 6 fa fn sps0 [("law", none)] xtra) steps others (w.withFollow "special-get-raises" true) := fun w => by intro os; kernel_rfl
theorem run (w : World) : HandSHeadRun.RunEq ROW (PySem.W.view ROW.prog [26]) hk (obQ 6 fa fn sps0 [("law", none)] xtra) steps others w := PySem.W.byRow2 "special-get-raises" (P := fun w => HandSHeadRun.RunEq ROW (PySem.W.view ROW.prog [26]) hk (obQ 6 fa fn sps0 [("law", none)] xtra) steps others w) run0 run1 w
end Lk08
section
open PySem PySem.W PySem.Calls PyProof.Rows
theorem holds_of (hl : ∀ ns : List Int, ns.length ≤ 63 → ∃ S, Lk08.call (Lk08.deep + 1) 15 [.sh (.ro (Pv.scrD ns))] [] = .ok ⟨false, .bl true⟩ S) : PySem.Challenge.rw_worthshares_k08_whole_texts.Holds := by
  w_on; o_law
  refine HandSHeadRun.head_any (r := OpenLaw.row PySem.Challenge.rw_worthshares_k08_whole_texts) (q := view (OpenLaw.row PySem.Challenge.rw_worthshares_k08_whole_texts).prog [26]) (H := Lk08.hk) (ob := Pv.obQ 6 Lk08.fa Lk08.fn Lk08.sps0 [("law", none)] Lk08.xtra) (M := Lk08.steps) (loose := Lk08.others) (d := HandSHeadRun.topDef (OpenLaw.row PySem.Challenge.rw_worthshares_k08_whole_texts).prog 26) (kwd := []) Pv.obQ_eq
    (by kernel_rfl) (fun s => by kernel_rfl) Lk08.run (by kernel_rfl) (by kernel_rfl) (by kernel_rfl) (by rfl) (by first | assumption | decide +kernel) (by decide +kernel) ⟨rfl, rfl, rfl, rfl, rfl, by decide +kernel⟩ ?hw ?hc
  case hw => w_witness2
  case hc =>
    refine Pv.walk_Q (l := PySem.Challenge.rw_worthshares_k08_whole_texts) (n := 63) (k := Lk08.deep + 1 + 2 + 1) (x := "_law_script") rfl (by decide) (by kernel_rfl) ⟨rfl, by decide, by decide⟩ ?F
    intro w mg fa h Y G hmg0
    obtain ⟨K, KX, c⟩ := Y
    have hmg : mg ("law" : PySem.Str) = some (.ref fa) := by
      have e : (HandSHeadRun.topDef (OpenLaw.row PySem.Challenge.rw_worthshares_k08_whole_texts).prog 26).name = ("law" : PySem.Str) := by kernel_rfl
      rw [← e]; exact hmg0
    have gd := Lk08.gf_of (w := w) KX G c.d c.x c.s
    have dd := Lk08.df_of KX G c.d
    obtain ⟨f, fd, F, hf⟩ := dd.d15
    cases hmg.symm.trans hf
    have b := L2.FunD.bindsA (ps := ["_law_script"]) F fun _ _ _ _ _ _ us hl => match us, hl with | [_], _ => rfl
    have mem : (("law" : PySem.Str), (none : Option PySem.Str)) ∈ ([("law", none)] : List He.Defn) := List.mem_cons_self
    obtain ⟨oc, od, dV, kV, doc, pm, an, cdv, ct, osl, rfl, lk, hcd, _, _⟩ := F.ex
    obtain ⟨cA, ecA⟩ := He.codeIn_ref hcd
    have cO : He.codeOf K ("law", none) = cA := He.codeOf_eq (p := ("law", none)) (by
      have q : He.fAd K ("law", none) = fa := by
        have q1 : He.ga K "law" = fa := by
          have q2 := He.glo_ok KX G (c.d.fact 15 (f := .glo "law") rfl)
          rw [hf] at q2
          exact (Value.ref.inj (Option.some.inj q2)).symm
        exact q1
      rw [q]; exact lk) ecA
    refine ⟨K, _, [He.cT K ("law", none)], _, KX, fun p hp => ?_, fun p hp => ?_, fun p hp => ?_, fun s v => b s [v] rfl, fun H a ns hle hT hS => ⟨a, ns, rfl, hS, fun p hp => ?_, ?_, fun _ => rfl⟩, fun base _ _ hTB => Pv.fn_law (k := Lk08.deep + 1 + 2) (G := Lk08.Gx) (xc := Lk08.Xx K) (T := [((He.cT K ("law", none)).2, ("law" ++ ".<locals>.") ++ "<lambda>")]) (b := Lk08.b15 (Lk08.call Lk08.deep)) F Lk08.sc15 rfl (by simp) fun A outer s H E P0 hr hT hO => ?_⟩
    · rw [List.mem_singleton.mp hp]; exact c.empty _ mem
    · rw [List.mem_singleton.mp hp]; exact c.out _ mem
    · rw [List.mem_singleton.mp hp]; exact PySem.W.codeHd_of_K KX (c.hd _ mem)
    · refine Lk08.w15 (cA := cA) (Pt := (He.cT K ("law", none)).2) gd dd (Lk08.cf_all gd dd Lk08.deep) hr ecA ?_ ⟨(hT _ (List.mem_singleton.mpr rfl)).1, fun a z e => ?_, _, (hT _ (List.mem_singleton.mpr rfl)).2⟩
      · have tb := hTB _ (List.mem_singleton.mpr rfl)
        have e1 : (He.cT K ("law", none)).1 = cA := cO
        rw [e1] at tb; exact tb
      · have := hO a z e
        simpa using this
    · rw [List.mem_singleton.mp hp]; exact hT _ (List.mem_singleton.mpr rfl)
    · obtain ⟨S, h⟩ := hl ns hle
      exact ⟨S, h⟩
end

set_option linter.all false
set_option maxRecDepth 100000
set_option maxHeartbeats 0
namespace Lk08
open PySem PySem.Spec PyProof.Rows L2 Pv
abbrev GR2 : List D := [.tup [.int 0], .tup [.int 1], .tup [.int 0, .int 1]]
theorem groups2 (S : Sto) : call 12 9 [.sh (.int 2)] S = .ok ⟨false, .lst GR2⟩ S := by kernel_rfl
theorem groupsB2 (S : Sto) : call 11 9 [.sh (.int 2)] S = .ok ⟨false, .lst GR2⟩ S := by kernel_rfl
abbrev GR3 : List D := [.tup [.int 0], .tup [.int 1], .tup [.int 2], .tup [.int 0, .int 1], .tup [.int 0, .int 2], .tup [.int 1, .int 2], .tup [.int 0, .int 1, .int 2]]
theorem groups3 (S : Sto) : call 12 9 [.sh (.int 3)] S = .ok ⟨false, .lst GR3⟩ S := by kernel_rfl
theorem groupsB3 (S : Sto) : call 11 9 [.sh (.int 3)] S = .ok ⟨false, .lst GR3⟩ S := by kernel_rfl
abbrev GR4 : List D := [.tup [.int 0], .tup [.int 1], .tup [.int 2], .tup [.int 3], .tup [.int 0, .int 1], .tup [.int 0, .int 2], .tup [.int 0, .int 3], .tup [.int 1, .int 2], .tup [.int 1, .int 3], .tup [.int 2, .int 3], .tup [.int 0, .int 1, .int 2], .tup [.int 0, .int 1, .int 3], .tup [.int 0, .int 2, .int 3], .tup [.int 1, .int 2, .int 3], .tup [.int 0, .int 1, .int 2, .int 3]]
theorem groups4 (S : Sto) : call 12 9 [.sh (.int 4)] S = .ok ⟨false, .lst GR4⟩ S := by kernel_rfl
theorem groupsB4 (S : Sto) : call 11 9 [.sh (.int 4)] S = .ok ⟨false, .lst GR4⟩ S := by kernel_rfl
def t13_8 (cf : Nat → List Pv.Arg → Sto → Out R) : Sx := (retS (b1V tupleD 5))
def t13_7 (cf : Nat → List Pv.Arg → Sto → Out R) : Sx := (seqS (ifS (op2 eqD (var 3) (con (.int 4))) (setS 5 (compX [4] (tName 4) (iVal (var 2)) (con (.bl true)) (iteX (inV memD (var 7) 4) (con (.int 0)) (subV 6 (var 4))))) skip) (t13_8 cf))
def t13_6 (cf : Nat → List Pv.Arg → Sto → Out R) : Sx := (seqS (ifS (op2 eqD (var 3) (con (.int 3))) (seqS (setS 9 (op2 modD (op2 addD (var 7) (con (.int 1))) (var 1)))
    (seqS (forS (tName 4) (iVal (var 2)) (ifS (andX (inV memD (var 7) 4) (inV nmemD (var 9) 4)) (storeS 6 (callX cf 11 (aval (callX cf 12 (aname 4 (aname 7 anil))) (aname 9 anil))) (subV 6 (var 4))) skip))
    (setS 5 (compX [4] (tName 4) (iVal (var 2)) (con (.bl true)) (subV 6 (var 4)))))) skip) (t13_7 cf))
def t13_5 (cf : Nat → List Pv.Arg → Sto → Out R) : Sx := (seqS (ifS (op2 eqD (var 3) (con (.int 2))) (setS 5 (compX [4] (tName 4) (iVal (var 2)) (con (.bl true)) (op2 addD (subV 6 (callX cf 12 (aname 4 (aname 7 anil)))) (iteX (inV memD (var 7) 4) (var 8) (con (.int 0)))))) skip) (t13_6 cf))
def t13_4 (cf : Nat → List Pv.Arg → Sto → Out R) : Sx := (seqS (ifS (op2 eqD (var 3) (con (.int 1))) (setS 5 (compX [4] (tName 4) (iVal (var 2)) (con (.bl true)) (op1 sumD (compX [10] (tName 10) (iVal (var 4)) (con (.bl true)) (subV 5 (var 10)))))) skip) (t13_5 cf))
def t13_3 (cf : Nat → List Pv.Arg → Sto → Out R) : Sx := (seqS (setS 8 (callX cf 7 (aname 0 (aval (lstX (lcons (con (.int 0)) (lcons (con (.int 0)) (lcons (con (.int 3)) lnil)))) anil)))) (t13_4 cf))
def t13_2 (cf : Nat → List Pv.Arg → Sto → Out R) : Sx := (seqS (par2 6 true 7 false (callX cf 10 (aname 5 (aname 1 anil))) (callX cf 6 (aname 0 (aname 1 anil)))) (t13_3 cf))
def t13_1 (cf : Nat → List Pv.Arg → Sto → Out R) : Sx := (seqS (setS 5 (compX [4] (tName 4) (iVal (var 2)) (con (.bl true)) (callX cf 7 (aname 0 (aval (lstX (lcons (con (.int 0)) (lcons (con (.int 0)) (lcons (con (.int 1)) (lcons (op1 negD (con (.int 1))) (lcons (con (.int 2)) (lcons (con (.int 5)) (lcons (op2 subD (callX cf 6 (aname 0 (aval (con (.int 41)) anil))) (con (.int 20))) lnil)))))))) anil))))) (t13_2 cf))
def t13_0 (cf : Nat → List Pv.Arg → Sto → Out R) : Sx := (seqS (par2 2 false 3 false (callX cf 9 (aname 1 anil)) (callX cf 6 (aname 0 (aval (con (.int 6)) anil)))) (t13_1 cf))
abbrev elt (env : SEnv) (S : Sto) : Out R := callX (call 11) 7 (aname 0 (aval (lstX (lcons (con (.int 0)) (lcons (con (.int 0)) (lcons (con (.int 1)) (lcons (op1 negD (con (.int 1))) (lcons (con (.int 2)) (lcons (con (.int 5)) (lcons (op2 subD (callX (call 11) 6 (aname 0 (aval (con (.int 41)) anil))) (con (.int 20))) lnil)))))))) anil)) env S
theorem elt_ok {env : SEnv} (h : sget env 0 = .ref 0) {row : D} (r : RowOk row) : ∃ v row', elt env [row] = .ok ⟨false, .int v⟩ [row'] ∧ (-20 ≤ v ∧ v ≤ 20) ∧ RowOk row' := by
  obtain ⟨w, row1, r1, w0, w1, ew⟩ := taken_ok (m := 41) r (by decide) (by decide)
  have ew2 : call 11 6 [.ref 0, .sh (.int 41)] [row] = .ok ⟨false, .int w⟩ [row1] := ew
  have hl : (lstX (lcons (con (.int 0)) (lcons (con (.int 0)) (lcons (con (.int 1)) (lcons (op1 negD (con (.int 1))) (lcons (con (.int 2)) (lcons (con (.int 5)) (lcons (op2 subD (callX (call 11) 6 (aname 0 (aval (con (.int 41)) anil))) (con (.int 20))) lnil)))))))) env [row] = .ok ⟨true, .lst [.int 0, .int 0, .int 1, .int (-1), .int 2, .int 5, .int (w - 20)]⟩ [row1] := by
    simp [lstX, lcons, lnil, con, op1, op2, negD, callX, aname, aval, anil, h, Out.bind, ew2, subD, line]
  obtain ⟨x, ⟨v, ev, hv⟩, _, row2, r2, ep⟩ := pick_in (i := 6) (cf := call 10) rfl (d := row1) (l := [.int 0, .int 0, .int 1, .int (-1), .int 2, .int 5, .int (w - 20)]) (fun x => ∃ v : Int, x = .int v ∧ (-20 ≤ v ∧ v ≤ 20)) r1 (show 0 < 7 by decide) (show 7 < 1000 by decide) (fun x hx => by
    simp only [List.mem_cons, List.not_mem_nil, or_false] at hx
    rcases hx with rfl | rfl | rfl | rfl | rfl | rfl | rfl <;> refine ⟨_, rfl, ?_⟩ <;> omega)
  subst ev
  exact ⟨v, row2, x_call (a_ref h (a_val hl rfl)) ep, hv, r2⟩
theorem len2 : ∀ l : List Int, l.length = 3 → ∃ x0 x1 x2, l = [x0, x1, x2]
  | [x0, x1, x2], _ => ⟨x0, x1, x2, rfl⟩
abbrev T2 (x0 x1 x2 : Int) : List (List Key × D) := [([.inl 0], .int x0), ([.inl 1], .int x1), ([.inl 0, .inl 1], .int x2), ([], .int 0)]
theorem worths2 (x0 x1 x2 : Int) (S : Sto) : call 11 10 [.sh (.lst ([x0, x1, x2].map D.int)), .sh (.int 2)] S = .ok ⟨true, .dT (T2 x0 x1 x2)⟩ S := by kernel_rfl
theorem g2_0_0 (x0 x1 x2 o : Int) (S : Sto) : t13_4 (call 11) [.ref 0, .sh (.int 2), .sh (.lst GR2), .sh (.int 0), .un, .sh (.lst ([x0, x1, x2].map D.int)), .own (.dT (T2 x0 x1 x2)), .sh (.int 0), .sh (.int o), .un, .un] S = .ok (.ret ⟨false, nD [x0, x1, x2]⟩) S := by kernel_rfl
theorem g2_0_1 (x0 x1 x2 o : Int) (S : Sto) : t13_4 (call 11) [.ref 0, .sh (.int 2), .sh (.lst GR2), .sh (.int 0), .un, .sh (.lst ([x0, x1, x2].map D.int)), .own (.dT (T2 x0 x1 x2)), .sh (.int 1), .sh (.int o), .un, .un] S = .ok (.ret ⟨false, nD [x0, x1, x2]⟩) S := by kernel_rfl
theorem g2_1_0 (x0 x1 x2 o : Int) (S : Sto) : t13_4 (call 11) [.ref 0, .sh (.int 2), .sh (.lst GR2), .sh (.int 1), .un, .sh (.lst ([x0, x1, x2].map D.int)), .own (.dT (T2 x0 x1 x2)), .sh (.int 0), .sh (.int o), .un, .un] S = .ok (.ret ⟨false, nD [sumI [x0], sumI [x1], sumI [x0, x1]]⟩) S := by kernel_rfl
theorem g2_1_1 (x0 x1 x2 o : Int) (S : Sto) : t13_4 (call 11) [.ref 0, .sh (.int 2), .sh (.lst GR2), .sh (.int 1), .un, .sh (.lst ([x0, x1, x2].map D.int)), .own (.dT (T2 x0 x1 x2)), .sh (.int 1), .sh (.int o), .un, .un] S = .ok (.ret ⟨false, nD [sumI [x0], sumI [x1], sumI [x0, x1]]⟩) S := by kernel_rfl
theorem g2_2_0 (x0 x1 x2 o : Int) (S : Sto) : t13_4 (call 11) [.ref 0, .sh (.int 2), .sh (.lst GR2), .sh (.int 2), .un, .sh (.lst ([x0, x1, x2].map D.int)), .own (.dT (T2 x0 x1 x2)), .sh (.int 0), .sh (.int o), .un, .un] S = .ok (.ret ⟨false, nD [0 + o, x1 + 0, x1 + o]⟩) S := by kernel_rfl
theorem g2_2_1 (x0 x1 x2 o : Int) (S : Sto) : t13_4 (call 11) [.ref 0, .sh (.int 2), .sh (.lst GR2), .sh (.int 2), .un, .sh (.lst ([x0, x1, x2].map D.int)), .own (.dT (T2 x0 x1 x2)), .sh (.int 1), .sh (.int o), .un, .un] S = .ok (.ret ⟨false, nD [x0 + 0, 0 + o, x0 + o]⟩) S := by kernel_rfl
theorem g2_3_0 (x0 x1 x2 o : Int) (S : Sto) : t13_4 (call 11) [.ref 0, .sh (.int 2), .sh (.lst GR2), .sh (.int 3), .un, .sh (.lst ([x0, x1, x2].map D.int)), .own (.dT (T2 x0 x1 x2)), .sh (.int 0), .sh (.int o), .un, .un] S = .ok (.ret ⟨false, nD [x0, x0, x2]⟩) S := by kernel_rfl
theorem g2_3_1 (x0 x1 x2 o : Int) (S : Sto) : t13_4 (call 11) [.ref 0, .sh (.int 2), .sh (.lst GR2), .sh (.int 3), .un, .sh (.lst ([x0, x1, x2].map D.int)), .own (.dT (T2 x0 x1 x2)), .sh (.int 1), .sh (.int o), .un, .un] S = .ok (.ret ⟨false, nD [x1, x1, x2]⟩) S := by kernel_rfl
theorem g2_4_0 (x0 x1 x2 o : Int) (S : Sto) : t13_4 (call 11) [.ref 0, .sh (.int 2), .sh (.lst GR2), .sh (.int 4), .un, .sh (.lst ([x0, x1, x2].map D.int)), .own (.dT (T2 x0 x1 x2)), .sh (.int 0), .sh (.int o), .un, .un] S = .ok (.ret ⟨false, nD [0, x1, 0]⟩) S := by kernel_rfl
theorem g2_4_1 (x0 x1 x2 o : Int) (S : Sto) : t13_4 (call 11) [.ref 0, .sh (.int 2), .sh (.lst GR2), .sh (.int 4), .un, .sh (.lst ([x0, x1, x2].map D.int)), .own (.dT (T2 x0 x1 x2)), .sh (.int 1), .sh (.int o), .un, .un] S = .ok (.ret ⟨false, nD [x0, 0, 0]⟩) S := by kernel_rfl
theorem g2_5_0 (x0 x1 x2 o : Int) (S : Sto) : t13_4 (call 11) [.ref 0, .sh (.int 2), .sh (.lst GR2), .sh (.int 5), .un, .sh (.lst ([x0, x1, x2].map D.int)), .own (.dT (T2 x0 x1 x2)), .sh (.int 0), .sh (.int o), .un, .un] S = .ok (.ret ⟨false, nD [x0, x1, x2]⟩) S := by kernel_rfl
theorem g2_5_1 (x0 x1 x2 o : Int) (S : Sto) : t13_4 (call 11) [.ref 0, .sh (.int 2), .sh (.lst GR2), .sh (.int 5), .un, .sh (.lst ([x0, x1, x2].map D.int)), .own (.dT (T2 x0 x1 x2)), .sh (.int 1), .sh (.int o), .un, .un] S = .ok (.ret ⟨false, nD [x0, x1, x2]⟩) S := by kernel_rfl
theorem game2 (row : D) (r : RowOk row) : ∃ xs row', xs.length = 3 ∧ (∀ x ∈ xs, -100 ≤ x ∧ x ≤ 100) ∧ RowOk row' ∧ call 12 13 [.ref 0, .sh (.int 2)] [row] = .ok ⟨false, nD xs⟩ [row'] := by
  obtain ⟨k, row1, r1, k0, k1, ek⟩ := taken_ok (m := 6) r (by decide) (by decide)
  obtain ⟨xs, row2, ec, hxl, hxb, r2⟩ := comp_ints (tg := tName 4) (t := con (.bl true)) (e := elt) (env := [.ref 0, .sh (.int 2), .sh (.lst GR2), .sh (.int k), .un, .un, .un, .un, .un, .un, .un]) (fun v => -20 ≤ v ∧ v ≤ 20) (fun d row r => by
    obtain ⟨v, row', e, hv, r'⟩ := elt_ok (env := [.ref 0, .sh (.int 2), .sh (.lst GR2), .sh (.int k), .sh d, .un, .un, .un, .un, .un, .un]) rfl r
    exact ⟨_, v, row', rfl, rfl, e, hv, r'⟩) GR2 row1 r1
  obtain ⟨x0, x1, x2, rfl⟩ := len2 xs hxl
  simp only [List.forall_mem_cons] at hxb
  obtain ⟨h0, h1, h2, _⟩ := hxb
  obtain ⟨w, row3, r3, w0, w1, ew⟩ := taken_ok (m := 2) r2 (by decide) (by decide)
  obtain ⟨x, ⟨o, eo, o0, o1⟩, _, row4, r4, ep⟩ := pick_in (i := 6) (cf := call 10) rfl (d := row3) (l := [.int 0, .int 0, .int 3]) (fun x => ∃ v : Int, x = .int v ∧ 0 ≤ v ∧ v ≤ 3) r3 (by decide) (by decide) (fun x hx => by
    simp only [List.mem_cons, List.not_mem_nil, or_false] at hx
    rcases hx with rfl | rfl | rfl <;> exact ⟨_, rfl, by decide, by decide⟩)
  subst eo
  have fin : ∀ res : List Int, t13_4 (call 11) [.ref 0, .sh (.int 2), .sh (.lst GR2), .sh (.int k), .un, .sh (.lst ([x0, x1, x2].map D.int)), .own (.dT (T2 x0 x1 x2)), .sh (.int w), .sh (.int o), .un, .un] [row4] = .ok (.ret ⟨false, nD res⟩) [row4] → call 12 13 [.ref 0, .sh (.int 2)] [row] = .ok ⟨false, nD res⟩ [row4] := fun res hr =>
    f_ret (a := t13_0 (call 11)) (m := 11) (s_nx (e_par2 (x_call (a_sh rfl rfl) (groupsB2 _)) (x_call (a_ref rfl (a_val rfl rfl)) ek) rfl rfl)
      (s_nx (e_set (e_comp (ds := GR2) rfl (by decide) ec)) (s_nx (e_par2 (x_call (a_sh rfl (a_sh rfl rfl)) (worths2 x0 x1 x2 _)) (x_call (a_ref rfl (a_sh rfl rfl)) ew) rfl rfl)
      (s_nx (e_set (x_call (a_ref rfl (a_val rfl rfl)) ep)) hr))))
  have hk : k = 0 ∨ k = 1 ∨ k = 2 ∨ k = 3 ∨ k = 4 ∨ k = 5 := by omega
  have hw : w = 0 ∨ w = 1 := by omega
  rcases hk with rfl | rfl | rfl | rfl | rfl | rfl <;> rcases hw with rfl | rfl
  · exact ⟨[x0, x1, x2], row4, rfl, by simp only [List.forall_mem_cons, sumI]; refine ⟨?_, ?_, ?_, fun _ h => nomatch h⟩ <;> omega, r4, fin _ (g2_0_0 x0 x1 x2 o _)⟩
  · exact ⟨[x0, x1, x2], row4, rfl, by simp only [List.forall_mem_cons, sumI]; refine ⟨?_, ?_, ?_, fun _ h => nomatch h⟩ <;> omega, r4, fin _ (g2_0_1 x0 x1 x2 o _)⟩
  · exact ⟨[sumI [x0], sumI [x1], sumI [x0, x1]], row4, rfl, by simp only [List.forall_mem_cons, sumI]; refine ⟨?_, ?_, ?_, fun _ h => nomatch h⟩ <;> omega, r4, fin _ (g2_1_0 x0 x1 x2 o _)⟩
  · exact ⟨[sumI [x0], sumI [x1], sumI [x0, x1]], row4, rfl, by simp only [List.forall_mem_cons, sumI]; refine ⟨?_, ?_, ?_, fun _ h => nomatch h⟩ <;> omega, r4, fin _ (g2_1_1 x0 x1 x2 o _)⟩
  · exact ⟨[0 + o, x1 + 0, x1 + o], row4, rfl, by simp only [List.forall_mem_cons, sumI]; refine ⟨?_, ?_, ?_, fun _ h => nomatch h⟩ <;> omega, r4, fin _ (g2_2_0 x0 x1 x2 o _)⟩
  · exact ⟨[x0 + 0, 0 + o, x0 + o], row4, rfl, by simp only [List.forall_mem_cons, sumI]; refine ⟨?_, ?_, ?_, fun _ h => nomatch h⟩ <;> omega, r4, fin _ (g2_2_1 x0 x1 x2 o _)⟩
  · exact ⟨[x0, x0, x2], row4, rfl, by simp only [List.forall_mem_cons, sumI]; refine ⟨?_, ?_, ?_, fun _ h => nomatch h⟩ <;> omega, r4, fin _ (g2_3_0 x0 x1 x2 o _)⟩
  · exact ⟨[x1, x1, x2], row4, rfl, by simp only [List.forall_mem_cons, sumI]; refine ⟨?_, ?_, ?_, fun _ h => nomatch h⟩ <;> omega, r4, fin _ (g2_3_1 x0 x1 x2 o _)⟩
  · exact ⟨[0, x1, 0], row4, rfl, by simp only [List.forall_mem_cons, sumI]; refine ⟨?_, ?_, ?_, fun _ h => nomatch h⟩ <;> omega, r4, fin _ (g2_4_0 x0 x1 x2 o _)⟩
  · exact ⟨[x0, 0, 0], row4, rfl, by simp only [List.forall_mem_cons, sumI]; refine ⟨?_, ?_, ?_, fun _ h => nomatch h⟩ <;> omega, r4, fin _ (g2_4_1 x0 x1 x2 o _)⟩
  · exact ⟨[x0, x1, x2], row4, rfl, by simp only [List.forall_mem_cons, sumI]; refine ⟨?_, ?_, ?_, fun _ h => nomatch h⟩ <;> omega, r4, fin _ (g2_5_0 x0 x1 x2 o _)⟩
  · exact ⟨[x0, x1, x2], row4, rfl, by simp only [List.forall_mem_cons, sumI]; refine ⟨?_, ?_, ?_, fun _ h => nomatch h⟩ <;> omega, r4, fin _ (g2_5_1 x0 x1 x2 o _)⟩
theorem len3 : ∀ l : List Int, l.length = 7 → ∃ x0 x1 x2 x3 x4 x5 x6, l = [x0, x1, x2, x3, x4, x5, x6]
  | [x0, x1, x2, x3, x4, x5, x6], _ => ⟨x0, x1, x2, x3, x4, x5, x6, rfl⟩
abbrev T3 (x0 x1 x2 x3 x4 x5 x6 : Int) : List (List Key × D) := [([.inl 0], .int x0), ([.inl 1], .int x1), ([.inl 2], .int x2), ([.inl 0, .inl 1], .int x3), ([.inl 0, .inl 2], .int x4), ([.inl 1, .inl 2], .int x5), ([.inl 0, .inl 1, .inl 2], .int x6), ([], .int 0)]
theorem worths3 (x0 x1 x2 x3 x4 x5 x6 : Int) (S : Sto) : call 11 10 [.sh (.lst ([x0, x1, x2, x3, x4, x5, x6].map D.int)), .sh (.int 3)] S = .ok ⟨true, .dT (T3 x0 x1 x2 x3 x4 x5 x6)⟩ S := by kernel_rfl
theorem g3_0_0 (x0 x1 x2 x3 x4 x5 x6 o : Int) (S : Sto) : t13_4 (call 11) [.ref 0, .sh (.int 3), .sh (.lst GR3), .sh (.int 0), .un, .sh (.lst ([x0, x1, x2, x3, x4, x5, x6].map D.int)), .own (.dT (T3 x0 x1 x2 x3 x4 x5 x6)), .sh (.int 0), .sh (.int o), .un, .un] S = .ok (.ret ⟨false, nD [x0, x1, x2, x3, x4, x5, x6]⟩) S := by kernel_rfl
theorem g3_0_1 (x0 x1 x2 x3 x4 x5 x6 o : Int) (S : Sto) : t13_4 (call 11) [.ref 0, .sh (.int 3), .sh (.lst GR3), .sh (.int 0), .un, .sh (.lst ([x0, x1, x2, x3, x4, x5, x6].map D.int)), .own (.dT (T3 x0 x1 x2 x3 x4 x5 x6)), .sh (.int 1), .sh (.int o), .un, .un] S = .ok (.ret ⟨false, nD [x0, x1, x2, x3, x4, x5, x6]⟩) S := by kernel_rfl
theorem g3_0_2 (x0 x1 x2 x3 x4 x5 x6 o : Int) (S : Sto) : t13_4 (call 11) [.ref 0, .sh (.int 3), .sh (.lst GR3), .sh (.int 0), .un, .sh (.lst ([x0, x1, x2, x3, x4, x5, x6].map D.int)), .own (.dT (T3 x0 x1 x2 x3 x4 x5 x6)), .sh (.int 2), .sh (.int o), .un, .un] S = .ok (.ret ⟨false, nD [x0, x1, x2, x3, x4, x5, x6]⟩) S := by kernel_rfl
theorem g3_1_0 (x0 x1 x2 x3 x4 x5 x6 o : Int) (S : Sto) : t13_4 (call 11) [.ref 0, .sh (.int 3), .sh (.lst GR3), .sh (.int 1), .un, .sh (.lst ([x0, x1, x2, x3, x4, x5, x6].map D.int)), .own (.dT (T3 x0 x1 x2 x3 x4 x5 x6)), .sh (.int 0), .sh (.int o), .un, .un] S = .ok (.ret ⟨false, nD [sumI [x0], sumI [x1], sumI [x2], sumI [x0, x1], sumI [x0, x2], sumI [x1, x2], sumI [x0, x1, x2]]⟩) S := by kernel_rfl
theorem g3_1_1 (x0 x1 x2 x3 x4 x5 x6 o : Int) (S : Sto) : t13_4 (call 11) [.ref 0, .sh (.int 3), .sh (.lst GR3), .sh (.int 1), .un, .sh (.lst ([x0, x1, x2, x3, x4, x5, x6].map D.int)), .own (.dT (T3 x0 x1 x2 x3 x4 x5 x6)), .sh (.int 1), .sh (.int o), .un, .un] S = .ok (.ret ⟨false, nD [sumI [x0], sumI [x1], sumI [x2], sumI [x0, x1], sumI [x0, x2], sumI [x1, x2], sumI [x0, x1, x2]]⟩) S := by kernel_rfl
theorem g3_1_2 (x0 x1 x2 x3 x4 x5 x6 o : Int) (S : Sto) : t13_4 (call 11) [.ref 0, .sh (.int 3), .sh (.lst GR3), .sh (.int 1), .un, .sh (.lst ([x0, x1, x2, x3, x4, x5, x6].map D.int)), .own (.dT (T3 x0 x1 x2 x3 x4 x5 x6)), .sh (.int 2), .sh (.int o), .un, .un] S = .ok (.ret ⟨false, nD [sumI [x0], sumI [x1], sumI [x2], sumI [x0, x1], sumI [x0, x2], sumI [x1, x2], sumI [x0, x1, x2]]⟩) S := by kernel_rfl
theorem g3_2_0 (x0 x1 x2 x3 x4 x5 x6 o : Int) (S : Sto) : t13_4 (call 11) [.ref 0, .sh (.int 3), .sh (.lst GR3), .sh (.int 2), .un, .sh (.lst ([x0, x1, x2, x3, x4, x5, x6].map D.int)), .own (.dT (T3 x0 x1 x2 x3 x4 x5 x6)), .sh (.int 0), .sh (.int o), .un, .un] S = .ok (.ret ⟨false, nD [0 + o, x1 + 0, x2 + 0, x1 + o, x2 + o, x5 + 0, x5 + o]⟩) S := by kernel_rfl
theorem g3_2_1 (x0 x1 x2 x3 x4 x5 x6 o : Int) (S : Sto) : t13_4 (call 11) [.ref 0, .sh (.int 3), .sh (.lst GR3), .sh (.int 2), .un, .sh (.lst ([x0, x1, x2, x3, x4, x5, x6].map D.int)), .own (.dT (T3 x0 x1 x2 x3 x4 x5 x6)), .sh (.int 1), .sh (.int o), .un, .un] S = .ok (.ret ⟨false, nD [x0 + 0, 0 + o, x2 + 0, x0 + o, x4 + 0, x2 + o, x4 + o]⟩) S := by kernel_rfl
theorem g3_2_2 (x0 x1 x2 x3 x4 x5 x6 o : Int) (S : Sto) : t13_4 (call 11) [.ref 0, .sh (.int 3), .sh (.lst GR3), .sh (.int 2), .un, .sh (.lst ([x0, x1, x2, x3, x4, x5, x6].map D.int)), .own (.dT (T3 x0 x1 x2 x3 x4 x5 x6)), .sh (.int 2), .sh (.int o), .un, .un] S = .ok (.ret ⟨false, nD [x0 + 0, x1 + 0, 0 + o, x3 + 0, x0 + o, x1 + o, x3 + o]⟩) S := by kernel_rfl
theorem g3_3_0 (x0 x1 x2 x3 x4 x5 x6 o : Int) (S : Sto) : t13_4 (call 11) [.ref 0, .sh (.int 3), .sh (.lst GR3), .sh (.int 3), .un, .sh (.lst ([x0, x1, x2, x3, x4, x5, x6].map D.int)), .own (.dT (T3 x0 x1 x2 x3 x4 x5 x6)), .sh (.int 0), .sh (.int o), .un, .un] S = .ok (.ret ⟨false, nD [x0, x0, x2, x3, x4, x4, x6]⟩) S := by kernel_rfl
theorem g3_3_1 (x0 x1 x2 x3 x4 x5 x6 o : Int) (S : Sto) : t13_4 (call 11) [.ref 0, .sh (.int 3), .sh (.lst GR3), .sh (.int 3), .un, .sh (.lst ([x0, x1, x2, x3, x4, x5, x6].map D.int)), .own (.dT (T3 x0 x1 x2 x3 x4 x5 x6)), .sh (.int 1), .sh (.int o), .un, .un] S = .ok (.ret ⟨false, nD [x0, x1, x1, x3, x3, x5, x6]⟩) S := by kernel_rfl
theorem g3_3_2 (x0 x1 x2 x3 x4 x5 x6 o : Int) (S : Sto) : t13_4 (call 11) [.ref 0, .sh (.int 3), .sh (.lst GR3), .sh (.int 3), .un, .sh (.lst ([x0, x1, x2, x3, x4, x5, x6].map D.int)), .own (.dT (T3 x0 x1 x2 x3 x4 x5 x6)), .sh (.int 2), .sh (.int o), .un, .un] S = .ok (.ret ⟨false, nD [x2, x1, x2, x5, x4, x5, x6]⟩) S := by kernel_rfl
theorem g3_4_0 (x0 x1 x2 x3 x4 x5 x6 o : Int) (S : Sto) : t13_4 (call 11) [.ref 0, .sh (.int 3), .sh (.lst GR3), .sh (.int 4), .un, .sh (.lst ([x0, x1, x2, x3, x4, x5, x6].map D.int)), .own (.dT (T3 x0 x1 x2 x3 x4 x5 x6)), .sh (.int 0), .sh (.int o), .un, .un] S = .ok (.ret ⟨false, nD [0, x1, x2, 0, 0, x5, 0]⟩) S := by kernel_rfl
theorem g3_4_1 (x0 x1 x2 x3 x4 x5 x6 o : Int) (S : Sto) : t13_4 (call 11) [.ref 0, .sh (.int 3), .sh (.lst GR3), .sh (.int 4), .un, .sh (.lst ([x0, x1, x2, x3, x4, x5, x6].map D.int)), .own (.dT (T3 x0 x1 x2 x3 x4 x5 x6)), .sh (.int 1), .sh (.int o), .un, .un] S = .ok (.ret ⟨false, nD [x0, 0, x2, 0, x4, 0, 0]⟩) S := by kernel_rfl
theorem g3_4_2 (x0 x1 x2 x3 x4 x5 x6 o : Int) (S : Sto) : t13_4 (call 11) [.ref 0, .sh (.int 3), .sh (.lst GR3), .sh (.int 4), .un, .sh (.lst ([x0, x1, x2, x3, x4, x5, x6].map D.int)), .own (.dT (T3 x0 x1 x2 x3 x4 x5 x6)), .sh (.int 2), .sh (.int o), .un, .un] S = .ok (.ret ⟨false, nD [x0, x1, 0, x3, 0, 0, 0]⟩) S := by kernel_rfl
theorem g3_5_0 (x0 x1 x2 x3 x4 x5 x6 o : Int) (S : Sto) : t13_4 (call 11) [.ref 0, .sh (.int 3), .sh (.lst GR3), .sh (.int 5), .un, .sh (.lst ([x0, x1, x2, x3, x4, x5, x6].map D.int)), .own (.dT (T3 x0 x1 x2 x3 x4 x5 x6)), .sh (.int 0), .sh (.int o), .un, .un] S = .ok (.ret ⟨false, nD [x0, x1, x2, x3, x4, x5, x6]⟩) S := by kernel_rfl
theorem g3_5_1 (x0 x1 x2 x3 x4 x5 x6 o : Int) (S : Sto) : t13_4 (call 11) [.ref 0, .sh (.int 3), .sh (.lst GR3), .sh (.int 5), .un, .sh (.lst ([x0, x1, x2, x3, x4, x5, x6].map D.int)), .own (.dT (T3 x0 x1 x2 x3 x4 x5 x6)), .sh (.int 1), .sh (.int o), .un, .un] S = .ok (.ret ⟨false, nD [x0, x1, x2, x3, x4, x5, x6]⟩) S := by kernel_rfl
theorem g3_5_2 (x0 x1 x2 x3 x4 x5 x6 o : Int) (S : Sto) : t13_4 (call 11) [.ref 0, .sh (.int 3), .sh (.lst GR3), .sh (.int 5), .un, .sh (.lst ([x0, x1, x2, x3, x4, x5, x6].map D.int)), .own (.dT (T3 x0 x1 x2 x3 x4 x5 x6)), .sh (.int 2), .sh (.int o), .un, .un] S = .ok (.ret ⟨false, nD [x0, x1, x2, x3, x4, x5, x6]⟩) S := by kernel_rfl
theorem game3 (row : D) (r : RowOk row) : ∃ xs row', xs.length = 7 ∧ (∀ x ∈ xs, -100 ≤ x ∧ x ≤ 100) ∧ RowOk row' ∧ call 12 13 [.ref 0, .sh (.int 3)] [row] = .ok ⟨false, nD xs⟩ [row'] := by
  obtain ⟨k, row1, r1, k0, k1, ek⟩ := taken_ok (m := 6) r (by decide) (by decide)
  obtain ⟨xs, row2, ec, hxl, hxb, r2⟩ := comp_ints (tg := tName 4) (t := con (.bl true)) (e := elt) (env := [.ref 0, .sh (.int 3), .sh (.lst GR3), .sh (.int k), .un, .un, .un, .un, .un, .un, .un]) (fun v => -20 ≤ v ∧ v ≤ 20) (fun d row r => by
    obtain ⟨v, row', e, hv, r'⟩ := elt_ok (env := [.ref 0, .sh (.int 3), .sh (.lst GR3), .sh (.int k), .sh d, .un, .un, .un, .un, .un, .un]) rfl r
    exact ⟨_, v, row', rfl, rfl, e, hv, r'⟩) GR3 row1 r1
  obtain ⟨x0, x1, x2, x3, x4, x5, x6, rfl⟩ := len3 xs hxl
  simp only [List.forall_mem_cons] at hxb
  obtain ⟨h0, h1, h2, h3, h4, h5, h6, _⟩ := hxb
  obtain ⟨w, row3, r3, w0, w1, ew⟩ := taken_ok (m := 3) r2 (by decide) (by decide)
  obtain ⟨x, ⟨o, eo, o0, o1⟩, _, row4, r4, ep⟩ := pick_in (i := 6) (cf := call 10) rfl (d := row3) (l := [.int 0, .int 0, .int 3]) (fun x => ∃ v : Int, x = .int v ∧ 0 ≤ v ∧ v ≤ 3) r3 (by decide) (by decide) (fun x hx => by
    simp only [List.mem_cons, List.not_mem_nil, or_false] at hx
    rcases hx with rfl | rfl | rfl <;> exact ⟨_, rfl, by decide, by decide⟩)
  subst eo
  have fin : ∀ res : List Int, t13_4 (call 11) [.ref 0, .sh (.int 3), .sh (.lst GR3), .sh (.int k), .un, .sh (.lst ([x0, x1, x2, x3, x4, x5, x6].map D.int)), .own (.dT (T3 x0 x1 x2 x3 x4 x5 x6)), .sh (.int w), .sh (.int o), .un, .un] [row4] = .ok (.ret ⟨false, nD res⟩) [row4] → call 12 13 [.ref 0, .sh (.int 3)] [row] = .ok ⟨false, nD res⟩ [row4] := fun res hr =>
    f_ret (a := t13_0 (call 11)) (m := 11) (s_nx (e_par2 (x_call (a_sh rfl rfl) (groupsB3 _)) (x_call (a_ref rfl (a_val rfl rfl)) ek) rfl rfl)
      (s_nx (e_set (e_comp (ds := GR3) rfl (by decide) ec)) (s_nx (e_par2 (x_call (a_sh rfl (a_sh rfl rfl)) (worths3 x0 x1 x2 x3 x4 x5 x6 _)) (x_call (a_ref rfl (a_sh rfl rfl)) ew) rfl rfl)
      (s_nx (e_set (x_call (a_ref rfl (a_val rfl rfl)) ep)) hr))))
  have hk : k = 0 ∨ k = 1 ∨ k = 2 ∨ k = 3 ∨ k = 4 ∨ k = 5 := by omega
  have hw : w = 0 ∨ w = 1 ∨ w = 2 := by omega
  rcases hk with rfl | rfl | rfl | rfl | rfl | rfl <;> rcases hw with rfl | rfl | rfl
  · exact ⟨[x0, x1, x2, x3, x4, x5, x6], row4, rfl, by simp only [List.forall_mem_cons, sumI]; refine ⟨?_, ?_, ?_, ?_, ?_, ?_, ?_, fun _ h => nomatch h⟩ <;> omega, r4, fin _ (g3_0_0 x0 x1 x2 x3 x4 x5 x6 o _)⟩
  · exact ⟨[x0, x1, x2, x3, x4, x5, x6], row4, rfl, by simp only [List.forall_mem_cons, sumI]; refine ⟨?_, ?_, ?_, ?_, ?_, ?_, ?_, fun _ h => nomatch h⟩ <;> omega, r4, fin _ (g3_0_1 x0 x1 x2 x3 x4 x5 x6 o _)⟩
  · exact ⟨[x0, x1, x2, x3, x4, x5, x6], row4, rfl, by simp only [List.forall_mem_cons, sumI]; refine ⟨?_, ?_, ?_, ?_, ?_, ?_, ?_, fun _ h => nomatch h⟩ <;> omega, r4, fin _ (g3_0_2 x0 x1 x2 x3 x4 x5 x6 o _)⟩
  · exact ⟨[sumI [x0], sumI [x1], sumI [x2], sumI [x0, x1], sumI [x0, x2], sumI [x1, x2], sumI [x0, x1, x2]], row4, rfl, by simp only [List.forall_mem_cons, sumI]; refine ⟨?_, ?_, ?_, ?_, ?_, ?_, ?_, fun _ h => nomatch h⟩ <;> omega, r4, fin _ (g3_1_0 x0 x1 x2 x3 x4 x5 x6 o _)⟩
  · exact ⟨[sumI [x0], sumI [x1], sumI [x2], sumI [x0, x1], sumI [x0, x2], sumI [x1, x2], sumI [x0, x1, x2]], row4, rfl, by simp only [List.forall_mem_cons, sumI]; refine ⟨?_, ?_, ?_, ?_, ?_, ?_, ?_, fun _ h => nomatch h⟩ <;> omega, r4, fin _ (g3_1_1 x0 x1 x2 x3 x4 x5 x6 o _)⟩
  · exact ⟨[sumI [x0], sumI [x1], sumI [x2], sumI [x0, x1], sumI [x0, x2], sumI [x1, x2], sumI [x0, x1, x2]], row4, rfl, by simp only [List.forall_mem_cons, sumI]; refine ⟨?_, ?_, ?_, ?_, ?_, ?_, ?_, fun _ h => nomatch h⟩ <;> omega, r4, fin _ (g3_1_2 x0 x1 x2 x3 x4 x5 x6 o _)⟩
  · exact ⟨[0 + o, x1 + 0, x2 + 0, x1 + o, x2 + o, x5 + 0, x5 + o], row4, rfl, by simp only [List.forall_mem_cons, sumI]; refine ⟨?_, ?_, ?_, ?_, ?_, ?_, ?_, fun _ h => nomatch h⟩ <;> omega, r4, fin _ (g3_2_0 x0 x1 x2 x3 x4 x5 x6 o _)⟩
  · exact ⟨[x0 + 0, 0 + o, x2 + 0, x0 + o, x4 + 0, x2 + o, x4 + o], row4, rfl, by simp only [List.forall_mem_cons, sumI]; refine ⟨?_, ?_, ?_, ?_, ?_, ?_, ?_, fun _ h => nomatch h⟩ <;> omega, r4, fin _ (g3_2_1 x0 x1 x2 x3 x4 x5 x6 o _)⟩
  · exact ⟨[x0 + 0, x1 + 0, 0 + o, x3 + 0, x0 + o, x1 + o, x3 + o], row4, rfl, by simp only [List.forall_mem_cons, sumI]; refine ⟨?_, ?_, ?_, ?_, ?_, ?_, ?_, fun _ h => nomatch h⟩ <;> omega, r4, fin _ (g3_2_2 x0 x1 x2 x3 x4 x5 x6 o _)⟩
  · exact ⟨[x0, x0, x2, x3, x4, x4, x6], row4, rfl, by simp only [List.forall_mem_cons, sumI]; refine ⟨?_, ?_, ?_, ?_, ?_, ?_, ?_, fun _ h => nomatch h⟩ <;> omega, r4, fin _ (g3_3_0 x0 x1 x2 x3 x4 x5 x6 o _)⟩
  · exact ⟨[x0, x1, x1, x3, x3, x5, x6], row4, rfl, by simp only [List.forall_mem_cons, sumI]; refine ⟨?_, ?_, ?_, ?_, ?_, ?_, ?_, fun _ h => nomatch h⟩ <;> omega, r4, fin _ (g3_3_1 x0 x1 x2 x3 x4 x5 x6 o _)⟩
  · exact ⟨[x2, x1, x2, x5, x4, x5, x6], row4, rfl, by simp only [List.forall_mem_cons, sumI]; refine ⟨?_, ?_, ?_, ?_, ?_, ?_, ?_, fun _ h => nomatch h⟩ <;> omega, r4, fin _ (g3_3_2 x0 x1 x2 x3 x4 x5 x6 o _)⟩
  · exact ⟨[0, x1, x2, 0, 0, x5, 0], row4, rfl, by simp only [List.forall_mem_cons, sumI]; refine ⟨?_, ?_, ?_, ?_, ?_, ?_, ?_, fun _ h => nomatch h⟩ <;> omega, r4, fin _ (g3_4_0 x0 x1 x2 x3 x4 x5 x6 o _)⟩
  · exact ⟨[x0, 0, x2, 0, x4, 0, 0], row4, rfl, by simp only [List.forall_mem_cons, sumI]; refine ⟨?_, ?_, ?_, ?_, ?_, ?_, ?_, fun _ h => nomatch h⟩ <;> omega, r4, fin _ (g3_4_1 x0 x1 x2 x3 x4 x5 x6 o _)⟩
  · exact ⟨[x0, x1, 0, x3, 0, 0, 0], row4, rfl, by simp only [List.forall_mem_cons, sumI]; refine ⟨?_, ?_, ?_, ?_, ?_, ?_, ?_, fun _ h => nomatch h⟩ <;> omega, r4, fin _ (g3_4_2 x0 x1 x2 x3 x4 x5 x6 o _)⟩
  · exact ⟨[x0, x1, x2, x3, x4, x5, x6], row4, rfl, by simp only [List.forall_mem_cons, sumI]; refine ⟨?_, ?_, ?_, ?_, ?_, ?_, ?_, fun _ h => nomatch h⟩ <;> omega, r4, fin _ (g3_5_0 x0 x1 x2 x3 x4 x5 x6 o _)⟩
  · exact ⟨[x0, x1, x2, x3, x4, x5, x6], row4, rfl, by simp only [List.forall_mem_cons, sumI]; refine ⟨?_, ?_, ?_, ?_, ?_, ?_, ?_, fun _ h => nomatch h⟩ <;> omega, r4, fin _ (g3_5_1 x0 x1 x2 x3 x4 x5 x6 o _)⟩
  · exact ⟨[x0, x1, x2, x3, x4, x5, x6], row4, rfl, by simp only [List.forall_mem_cons, sumI]; refine ⟨?_, ?_, ?_, ?_, ?_, ?_, ?_, fun _ h => nomatch h⟩ <;> omega, r4, fin _ (g3_5_2 x0 x1 x2 x3 x4 x5 x6 o _)⟩
theorem len4 : ∀ l : List Int, l.length = 15 → ∃ x0 x1 x2 x3 x4 x5 x6 x7 x8 x9 x10 x11 x12 x13 x14, l = [x0, x1, x2, x3, x4, x5, x6, x7, x8, x9, x10, x11, x12, x13, x14]
  | [x0, x1, x2, x3, x4, x5, x6, x7, x8, x9, x10, x11, x12, x13, x14], _ => ⟨x0, x1, x2, x3, x4, x5, x6, x7, x8, x9, x10, x11, x12, x13, x14, rfl⟩
abbrev T4 (x0 x1 x2 x3 x4 x5 x6 x7 x8 x9 x10 x11 x12 x13 x14 : Int) : List (List Key × D) := [([.inl 0], .int x0), ([.inl 1], .int x1), ([.inl 2], .int x2), ([.inl 3], .int x3), ([.inl 0, .inl 1], .int x4), ([.inl 0, .inl 2], .int x5), ([.inl 0, .inl 3], .int x6), ([.inl 1, .inl 2], .int x7), ([.inl 1, .inl 3], .int x8), ([.inl 2, .inl 3], .int x9), ([.inl 0, .inl 1, .inl 2], .int x10), ([.inl 0, .inl 1, .inl 3], .int x11), ([.inl 0, .inl 2, .inl 3], .int x12), ([.inl 1, .inl 2, .inl 3], .int x13), ([.inl 0, .inl 1, .inl 2, .inl 3], .int x14), ([], .int 0)]
theorem worths4 (x0 x1 x2 x3 x4 x5 x6 x7 x8 x9 x10 x11 x12 x13 x14 : Int) (S : Sto) : call 11 10 [.sh (.lst ([x0, x1, x2, x3, x4, x5, x6, x7, x8, x9, x10, x11, x12, x13, x14].map D.int)), .sh (.int 4)] S = .ok ⟨true, .dT (T4 x0 x1 x2 x3 x4 x5 x6 x7 x8 x9 x10 x11 x12 x13 x14)⟩ S := by kernel_rfl
theorem g4_0_0 (x0 x1 x2 x3 x4 x5 x6 x7 x8 x9 x10 x11 x12 x13 x14 o : Int) (S : Sto) : t13_4 (call 11) [.ref 0, .sh (.int 4), .sh (.lst GR4), .sh (.int 0), .un, .sh (.lst ([x0, x1, x2, x3, x4, x5, x6, x7, x8, x9, x10, x11, x12, x13, x14].map D.int)), .own (.dT (T4 x0 x1 x2 x3 x4 x5 x6 x7 x8 x9 x10 x11 x12 x13 x14)), .sh (.int 0), .sh (.int o), .un, .un] S = .ok (.ret ⟨false, nD [x0, x1, x2, x3, x4, x5, x6, x7, x8, x9, x10, x11, x12, x13, x14]⟩) S := by kernel_rfl
theorem g4_0_1 (x0 x1 x2 x3 x4 x5 x6 x7 x8 x9 x10 x11 x12 x13 x14 o : Int) (S : Sto) : t13_4 (call 11) [.ref 0, .sh (.int 4), .sh (.lst GR4), .sh (.int 0), .un, .sh (.lst ([x0, x1, x2, x3, x4, x5, x6, x7, x8, x9, x10, x11, x12, x13, x14].map D.int)), .own (.dT (T4 x0 x1 x2 x3 x4 x5 x6 x7 x8 x9 x10 x11 x12 x13 x14)), .sh (.int 1), .sh (.int o), .un, .un] S = .ok (.ret ⟨false, nD [x0, x1, x2, x3, x4, x5, x6, x7, x8, x9, x10, x11, x12, x13, x14]⟩) S := by kernel_rfl
theorem g4_0_2 (x0 x1 x2 x3 x4 x5 x6 x7 x8 x9 x10 x11 x12 x13 x14 o : Int) (S : Sto) : t13_4 (call 11) [.ref 0, .sh (.int 4), .sh (.lst GR4), .sh (.int 0), .un, .sh (.lst ([x0, x1, x2, x3, x4, x5, x6, x7, x8, x9, x10, x11, x12, x13, x14].map D.int)), .own (.dT (T4 x0 x1 x2 x3 x4 x5 x6 x7 x8 x9 x10 x11 x12 x13 x14)), .sh (.int 2), .sh (.int o), .un, .un] S = .ok (.ret ⟨false, nD [x0, x1, x2, x3, x4, x5, x6, x7, x8, x9, x10, x11, x12, x13, x14]⟩) S := by kernel_rfl
theorem g4_0_3 (x0 x1 x2 x3 x4 x5 x6 x7 x8 x9 x10 x11 x12 x13 x14 o : Int) (S : Sto) : t13_4 (call 11) [.ref 0, .sh (.int 4), .sh (.lst GR4), .sh (.int 0), .un, .sh (.lst ([x0, x1, x2, x3, x4, x5, x6, x7, x8, x9, x10, x11, x12, x13, x14].map D.int)), .own (.dT (T4 x0 x1 x2 x3 x4 x5 x6 x7 x8 x9 x10 x11 x12 x13 x14)), .sh (.int 3), .sh (.int o), .un, .un] S = .ok (.ret ⟨false, nD [x0, x1, x2, x3, x4, x5, x6, x7, x8, x9, x10, x11, x12, x13, x14]⟩) S := by kernel_rfl
theorem g4_1_0 (x0 x1 x2 x3 x4 x5 x6 x7 x8 x9 x10 x11 x12 x13 x14 o : Int) (S : Sto) : t13_4 (call 11) [.ref 0, .sh (.int 4), .sh (.lst GR4), .sh (.int 1), .un, .sh (.lst ([x0, x1, x2, x3, x4, x5, x6, x7, x8, x9, x10, x11, x12, x13, x14].map D.int)), .own (.dT (T4 x0 x1 x2 x3 x4 x5 x6 x7 x8 x9 x10 x11 x12 x13 x14)), .sh (.int 0), .sh (.int o), .un, .un] S = .ok (.ret ⟨false, nD [sumI [x0], sumI [x1], sumI [x2], sumI [x3], sumI [x0, x1], sumI [x0, x2], sumI [x0, x3], sumI [x1, x2], sumI [x1, x3], sumI [x2, x3], sumI [x0, x1, x2], sumI [x0, x1, x3], sumI [x0, x2, x3], sumI [x1, x2, x3], sumI [x0, x1, x2, x3]]⟩) S := by kernel_rfl
theorem g4_1_1 (x0 x1 x2 x3 x4 x5 x6 x7 x8 x9 x10 x11 x12 x13 x14 o : Int) (S : Sto) : t13_4 (call 11) [.ref 0, .sh (.int 4), .sh (.lst GR4), .sh (.int 1), .un, .sh (.lst ([x0, x1, x2, x3, x4, x5, x6, x7, x8, x9, x10, x11, x12, x13, x14].map D.int)), .own (.dT (T4 x0 x1 x2 x3 x4 x5 x6 x7 x8 x9 x10 x11 x12 x13 x14)), .sh (.int 1), .sh (.int o), .un, .un] S = .ok (.ret ⟨false, nD [sumI [x0], sumI [x1], sumI [x2], sumI [x3], sumI [x0, x1], sumI [x0, x2], sumI [x0, x3], sumI [x1, x2], sumI [x1, x3], sumI [x2, x3], sumI [x0, x1, x2], sumI [x0, x1, x3], sumI [x0, x2, x3], sumI [x1, x2, x3], sumI [x0, x1, x2, x3]]⟩) S := by kernel_rfl
theorem g4_1_2 (x0 x1 x2 x3 x4 x5 x6 x7 x8 x9 x10 x11 x12 x13 x14 o : Int) (S : Sto) : t13_4 (call 11) [.ref 0, .sh (.int 4), .sh (.lst GR4), .sh (.int 1), .un, .sh (.lst ([x0, x1, x2, x3, x4, x5, x6, x7, x8, x9, x10, x11, x12, x13, x14].map D.int)), .own (.dT (T4 x0 x1 x2 x3 x4 x5 x6 x7 x8 x9 x10 x11 x12 x13 x14)), .sh (.int 2), .sh (.int o), .un, .un] S = .ok (.ret ⟨false, nD [sumI [x0], sumI [x1], sumI [x2], sumI [x3], sumI [x0, x1], sumI [x0, x2], sumI [x0, x3], sumI [x1, x2], sumI [x1, x3], sumI [x2, x3], sumI [x0, x1, x2], sumI [x0, x1, x3], sumI [x0, x2, x3], sumI [x1, x2, x3], sumI [x0, x1, x2, x3]]⟩) S := by kernel_rfl
theorem g4_1_3 (x0 x1 x2 x3 x4 x5 x6 x7 x8 x9 x10 x11 x12 x13 x14 o : Int) (S : Sto) : t13_4 (call 11) [.ref 0, .sh (.int 4), .sh (.lst GR4), .sh (.int 1), .un, .sh (.lst ([x0, x1, x2, x3, x4, x5, x6, x7, x8, x9, x10, x11, x12, x13, x14].map D.int)), .own (.dT (T4 x0 x1 x2 x3 x4 x5 x6 x7 x8 x9 x10 x11 x12 x13 x14)), .sh (.int 3), .sh (.int o), .un, .un] S = .ok (.ret ⟨false, nD [sumI [x0], sumI [x1], sumI [x2], sumI [x3], sumI [x0, x1], sumI [x0, x2], sumI [x0, x3], sumI [x1, x2], sumI [x1, x3], sumI [x2, x3], sumI [x0, x1, x2], sumI [x0, x1, x3], sumI [x0, x2, x3], sumI [x1, x2, x3], sumI [x0, x1, x2, x3]]⟩) S := by kernel_rfl
theorem g4_2_0 (x0 x1 x2 x3 x4 x5 x6 x7 x8 x9 x10 x11 x12 x13 x14 o : Int) (S : Sto) : t13_4 (call 11) [.ref 0, .sh (.int 4), .sh (.lst GR4), .sh (.int 2), .un, .sh (.lst ([x0, x1, x2, x3, x4, x5, x6, x7, x8, x9, x10, x11, x12, x13, x14].map D.int)), .own (.dT (T4 x0 x1 x2 x3 x4 x5 x6 x7 x8 x9 x10 x11 x12 x13 x14)), .sh (.int 0), .sh (.int o), .un, .un] S = .ok (.ret ⟨false, nD [0 + o, x1 + 0, x2 + 0, x3 + 0, x1 + o, x2 + o, x3 + o, x7 + 0, x8 + 0, x9 + 0, x7 + o, x8 + o, x9 + o, x13 + 0, x13 + o]⟩) S := by kernel_rfl
theorem g4_2_1 (x0 x1 x2 x3 x4 x5 x6 x7 x8 x9 x10 x11 x12 x13 x14 o : Int) (S : Sto) : t13_4 (call 11) [.ref 0, .sh (.int 4), .sh (.lst GR4), .sh (.int 2), .un, .sh (.lst ([x0, x1, x2, x3, x4, x5, x6, x7, x8, x9, x10, x11, x12, x13, x14].map D.int)), .own (.dT (T4 x0 x1 x2 x3 x4 x5 x6 x7 x8 x9 x10 x11 x12 x13 x14)), .sh (.int 1), .sh (.int o), .un, .un] S = .ok (.ret ⟨false, nD [x0 + 0, 0 + o, x2 + 0, x3 + 0, x0 + o, x5 + 0, x6 + 0, x2 + o, x3 + o, x9 + 0, x5 + o, x6 + o, x12 + 0, x9 + o, x12 + o]⟩) S := by kernel_rfl
theorem g4_2_2 (x0 x1 x2 x3 x4 x5 x6 x7 x8 x9 x10 x11 x12 x13 x14 o : Int) (S : Sto) : t13_4 (call 11) [.ref 0, .sh (.int 4), .sh (.lst GR4), .sh (.int 2), .un, .sh (.lst ([x0, x1, x2, x3, x4, x5, x6, x7, x8, x9, x10, x11, x12, x13, x14].map D.int)), .own (.dT (T4 x0 x1 x2 x3 x4 x5 x6 x7 x8 x9 x10 x11 x12 x13 x14)), .sh (.int 2), .sh (.int o), .un, .un] S = .ok (.ret ⟨false, nD [x0 + 0, x1 + 0, 0 + o, x3 + 0, x4 + 0, x0 + o, x6 + 0, x1 + o, x8 + 0, x3 + o, x4 + o, x11 + 0, x6 + o, x8 + o, x11 + o]⟩) S := by kernel_rfl
theorem g4_2_3 (x0 x1 x2 x3 x4 x5 x6 x7 x8 x9 x10 x11 x12 x13 x14 o : Int) (S : Sto) : t13_4 (call 11) [.ref 0, .sh (.int 4), .sh (.lst GR4), .sh (.int 2), .un, .sh (.lst ([x0, x1, x2, x3, x4, x5, x6, x7, x8, x9, x10, x11, x12, x13, x14].map D.int)), .own (.dT (T4 x0 x1 x2 x3 x4 x5 x6 x7 x8 x9 x10 x11 x12 x13 x14)), .sh (.int 3), .sh (.int o), .un, .un] S = .ok (.ret ⟨false, nD [x0 + 0, x1 + 0, x2 + 0, 0 + o, x4 + 0, x5 + 0, x0 + o, x7 + 0, x1 + o, x2 + o, x10 + 0, x4 + o, x5 + o, x7 + o, x10 + o]⟩) S := by kernel_rfl
theorem g4_3_0 (x0 x1 x2 x3 x4 x5 x6 x7 x8 x9 x10 x11 x12 x13 x14 o : Int) (S : Sto) : t13_4 (call 11) [.ref 0, .sh (.int 4), .sh (.lst GR4), .sh (.int 3), .un, .sh (.lst ([x0, x1, x2, x3, x4, x5, x6, x7, x8, x9, x10, x11, x12, x13, x14].map D.int)), .own (.dT (T4 x0 x1 x2 x3 x4 x5 x6 x7 x8 x9 x10 x11 x12 x13 x14)), .sh (.int 0), .sh (.int o), .un, .un] S = .ok (.ret ⟨false, nD [x0, x0, x2, x3, x4, x5, x6, x5, x6, x9, x10, x11, x12, x12, x14]⟩) S := by kernel_rfl
theorem g4_3_1 (x0 x1 x2 x3 x4 x5 x6 x7 x8 x9 x10 x11 x12 x13 x14 o : Int) (S : Sto) : t13_4 (call 11) [.ref 0, .sh (.int 4), .sh (.lst GR4), .sh (.int 3), .un, .sh (.lst ([x0, x1, x2, x3, x4, x5, x6, x7, x8, x9, x10, x11, x12, x13, x14].map D.int)), .own (.dT (T4 x0 x1 x2 x3 x4 x5 x6 x7 x8 x9 x10 x11 x12 x13 x14)), .sh (.int 1), .sh (.int o), .un, .un] S = .ok (.ret ⟨false, nD [x0, x1, x1, x3, x4, x4, x6, x7, x8, x8, x10, x11, x11, x13, x14]⟩) S := by kernel_rfl
theorem g4_3_2 (x0 x1 x2 x3 x4 x5 x6 x7 x8 x9 x10 x11 x12 x13 x14 o : Int) (S : Sto) : t13_4 (call 11) [.ref 0, .sh (.int 4), .sh (.lst GR4), .sh (.int 3), .un, .sh (.lst ([x0, x1, x2, x3, x4, x5, x6, x7, x8, x9, x10, x11, x12, x13, x14].map D.int)), .own (.dT (T4 x0 x1 x2 x3 x4 x5 x6 x7 x8 x9 x10 x11 x12 x13 x14)), .sh (.int 2), .sh (.int o), .un, .un] S = .ok (.ret ⟨false, nD [x0, x1, x2, x2, x4, x5, x5, x7, x7, x9, x10, x10, x12, x13, x14]⟩) S := by kernel_rfl
theorem g4_3_3 (x0 x1 x2 x3 x4 x5 x6 x7 x8 x9 x10 x11 x12 x13 x14 o : Int) (S : Sto) : t13_4 (call 11) [.ref 0, .sh (.int 4), .sh (.lst GR4), .sh (.int 3), .un, .sh (.lst ([x0, x1, x2, x3, x4, x5, x6, x7, x8, x9, x10, x11, x12, x13, x14].map D.int)), .own (.dT (T4 x0 x1 x2 x3 x4 x5 x6 x7 x8 x9 x10 x11 x12 x13 x14)), .sh (.int 3), .sh (.int o), .un, .un] S = .ok (.ret ⟨false, nD [x3, x1, x2, x3, x8, x9, x6, x7, x8, x9, x13, x11, x12, x13, x14]⟩) S := by kernel_rfl
theorem g4_4_0 (x0 x1 x2 x3 x4 x5 x6 x7 x8 x9 x10 x11 x12 x13 x14 o : Int) (S : Sto) : t13_4 (call 11) [.ref 0, .sh (.int 4), .sh (.lst GR4), .sh (.int 4), .un, .sh (.lst ([x0, x1, x2, x3, x4, x5, x6, x7, x8, x9, x10, x11, x12, x13, x14].map D.int)), .own (.dT (T4 x0 x1 x2 x3 x4 x5 x6 x7 x8 x9 x10 x11 x12 x13 x14)), .sh (.int 0), .sh (.int o), .un, .un] S = .ok (.ret ⟨false, nD [0, x1, x2, x3, 0, 0, 0, x7, x8, x9, 0, 0, 0, x13, 0]⟩) S := by kernel_rfl
theorem g4_4_1 (x0 x1 x2 x3 x4 x5 x6 x7 x8 x9 x10 x11 x12 x13 x14 o : Int) (S : Sto) : t13_4 (call 11) [.ref 0, .sh (.int 4), .sh (.lst GR4), .sh (.int 4), .un, .sh (.lst ([x0, x1, x2, x3, x4, x5, x6, x7, x8, x9, x10, x11, x12, x13, x14].map D.int)), .own (.dT (T4 x0 x1 x2 x3 x4 x5 x6 x7 x8 x9 x10 x11 x12 x13 x14)), .sh (.int 1), .sh (.int o), .un, .un] S = .ok (.ret ⟨false, nD [x0, 0, x2, x3, 0, x5, x6, 0, 0, x9, 0, 0, x12, 0, 0]⟩) S := by kernel_rfl
theorem g4_4_2 (x0 x1 x2 x3 x4 x5 x6 x7 x8 x9 x10 x11 x12 x13 x14 o : Int) (S : Sto) : t13_4 (call 11) [.ref 0, .sh (.int 4), .sh (.lst GR4), .sh (.int 4), .un, .sh (.lst ([x0, x1, x2, x3, x4, x5, x6, x7, x8, x9, x10, x11, x12, x13, x14].map D.int)), .own (.dT (T4 x0 x1 x2 x3 x4 x5 x6 x7 x8 x9 x10 x11 x12 x13 x14)), .sh (.int 2), .sh (.int o), .un, .un] S = .ok (.ret ⟨false, nD [x0, x1, 0, x3, x4, 0, x6, 0, x8, 0, 0, x11, 0, 0, 0]⟩) S := by kernel_rfl
theorem g4_4_3 (x0 x1 x2 x3 x4 x5 x6 x7 x8 x9 x10 x11 x12 x13 x14 o : Int) (S : Sto) : t13_4 (call 11) [.ref 0, .sh (.int 4), .sh (.lst GR4), .sh (.int 4), .un, .sh (.lst ([x0, x1, x2, x3, x4, x5, x6, x7, x8, x9, x10, x11, x12, x13, x14].map D.int)), .own (.dT (T4 x0 x1 x2 x3 x4 x5 x6 x7 x8 x9 x10 x11 x12 x13 x14)), .sh (.int 3), .sh (.int o), .un, .un] S = .ok (.ret ⟨false, nD [x0, x1, x2, 0, x4, x5, 0, x7, 0, 0, x10, 0, 0, 0, 0]⟩) S := by kernel_rfl
theorem g4_5_0 (x0 x1 x2 x3 x4 x5 x6 x7 x8 x9 x10 x11 x12 x13 x14 o : Int) (S : Sto) : t13_4 (call 11) [.ref 0, .sh (.int 4), .sh (.lst GR4), .sh (.int 5), .un, .sh (.lst ([x0, x1, x2, x3, x4, x5, x6, x7, x8, x9, x10, x11, x12, x13, x14].map D.int)), .own (.dT (T4 x0 x1 x2 x3 x4 x5 x6 x7 x8 x9 x10 x11 x12 x13 x14)), .sh (.int 0), .sh (.int o), .un, .un] S = .ok (.ret ⟨false, nD [x0, x1, x2, x3, x4, x5, x6, x7, x8, x9, x10, x11, x12, x13, x14]⟩) S := by kernel_rfl
theorem g4_5_1 (x0 x1 x2 x3 x4 x5 x6 x7 x8 x9 x10 x11 x12 x13 x14 o : Int) (S : Sto) : t13_4 (call 11) [.ref 0, .sh (.int 4), .sh (.lst GR4), .sh (.int 5), .un, .sh (.lst ([x0, x1, x2, x3, x4, x5, x6, x7, x8, x9, x10, x11, x12, x13, x14].map D.int)), .own (.dT (T4 x0 x1 x2 x3 x4 x5 x6 x7 x8 x9 x10 x11 x12 x13 x14)), .sh (.int 1), .sh (.int o), .un, .un] S = .ok (.ret ⟨false, nD [x0, x1, x2, x3, x4, x5, x6, x7, x8, x9, x10, x11, x12, x13, x14]⟩) S := by kernel_rfl
theorem g4_5_2 (x0 x1 x2 x3 x4 x5 x6 x7 x8 x9 x10 x11 x12 x13 x14 o : Int) (S : Sto) : t13_4 (call 11) [.ref 0, .sh (.int 4), .sh (.lst GR4), .sh (.int 5), .un, .sh (.lst ([x0, x1, x2, x3, x4, x5, x6, x7, x8, x9, x10, x11, x12, x13, x14].map D.int)), .own (.dT (T4 x0 x1 x2 x3 x4 x5 x6 x7 x8 x9 x10 x11 x12 x13 x14)), .sh (.int 2), .sh (.int o), .un, .un] S = .ok (.ret ⟨false, nD [x0, x1, x2, x3, x4, x5, x6, x7, x8, x9, x10, x11, x12, x13, x14]⟩) S := by kernel_rfl
theorem g4_5_3 (x0 x1 x2 x3 x4 x5 x6 x7 x8 x9 x10 x11 x12 x13 x14 o : Int) (S : Sto) : t13_4 (call 11) [.ref 0, .sh (.int 4), .sh (.lst GR4), .sh (.int 5), .un, .sh (.lst ([x0, x1, x2, x3, x4, x5, x6, x7, x8, x9, x10, x11, x12, x13, x14].map D.int)), .own (.dT (T4 x0 x1 x2 x3 x4 x5 x6 x7 x8 x9 x10 x11 x12 x13 x14)), .sh (.int 3), .sh (.int o), .un, .un] S = .ok (.ret ⟨false, nD [x0, x1, x2, x3, x4, x5, x6, x7, x8, x9, x10, x11, x12, x13, x14]⟩) S := by kernel_rfl
theorem game4 (row : D) (r : RowOk row) : ∃ xs row', xs.length = 15 ∧ (∀ x ∈ xs, -100 ≤ x ∧ x ≤ 100) ∧ RowOk row' ∧ call 12 13 [.ref 0, .sh (.int 4)] [row] = .ok ⟨false, nD xs⟩ [row'] := by
  obtain ⟨k, row1, r1, k0, k1, ek⟩ := taken_ok (m := 6) r (by decide) (by decide)
  obtain ⟨xs, row2, ec, hxl, hxb, r2⟩ := comp_ints (tg := tName 4) (t := con (.bl true)) (e := elt) (env := [.ref 0, .sh (.int 4), .sh (.lst GR4), .sh (.int k), .un, .un, .un, .un, .un, .un, .un]) (fun v => -20 ≤ v ∧ v ≤ 20) (fun d row r => by
    obtain ⟨v, row', e, hv, r'⟩ := elt_ok (env := [.ref 0, .sh (.int 4), .sh (.lst GR4), .sh (.int k), .sh d, .un, .un, .un, .un, .un, .un]) rfl r
    exact ⟨_, v, row', rfl, rfl, e, hv, r'⟩) GR4 row1 r1
  obtain ⟨x0, x1, x2, x3, x4, x5, x6, x7, x8, x9, x10, x11, x12, x13, x14, rfl⟩ := len4 xs hxl
  simp only [List.forall_mem_cons] at hxb
  obtain ⟨h0, h1, h2, h3, h4, h5, h6, h7, h8, h9, h10, h11, h12, h13, h14, _⟩ := hxb
  obtain ⟨w, row3, r3, w0, w1, ew⟩ := taken_ok (m := 4) r2 (by decide) (by decide)
  obtain ⟨x, ⟨o, eo, o0, o1⟩, _, row4, r4, ep⟩ := pick_in (i := 6) (cf := call 10) rfl (d := row3) (l := [.int 0, .int 0, .int 3]) (fun x => ∃ v : Int, x = .int v ∧ 0 ≤ v ∧ v ≤ 3) r3 (by decide) (by decide) (fun x hx => by
    simp only [List.mem_cons, List.not_mem_nil, or_false] at hx
    rcases hx with rfl | rfl | rfl <;> exact ⟨_, rfl, by decide, by decide⟩)
  subst eo
  have fin : ∀ res : List Int, t13_4 (call 11) [.ref 0, .sh (.int 4), .sh (.lst GR4), .sh (.int k), .un, .sh (.lst ([x0, x1, x2, x3, x4, x5, x6, x7, x8, x9, x10, x11, x12, x13, x14].map D.int)), .own (.dT (T4 x0 x1 x2 x3 x4 x5 x6 x7 x8 x9 x10 x11 x12 x13 x14)), .sh (.int w), .sh (.int o), .un, .un] [row4] = .ok (.ret ⟨false, nD res⟩) [row4] → call 12 13 [.ref 0, .sh (.int 4)] [row] = .ok ⟨false, nD res⟩ [row4] := fun res hr =>
    f_ret (a := t13_0 (call 11)) (m := 11) (s_nx (e_par2 (x_call (a_sh rfl rfl) (groupsB4 _)) (x_call (a_ref rfl (a_val rfl rfl)) ek) rfl rfl)
      (s_nx (e_set (e_comp (ds := GR4) rfl (by decide) ec)) (s_nx (e_par2 (x_call (a_sh rfl (a_sh rfl rfl)) (worths4 x0 x1 x2 x3 x4 x5 x6 x7 x8 x9 x10 x11 x12 x13 x14 _)) (x_call (a_ref rfl (a_sh rfl rfl)) ew) rfl rfl)
      (s_nx (e_set (x_call (a_ref rfl (a_val rfl rfl)) ep)) hr))))
  have hk : k = 0 ∨ k = 1 ∨ k = 2 ∨ k = 3 ∨ k = 4 ∨ k = 5 := by omega
  have hw : w = 0 ∨ w = 1 ∨ w = 2 ∨ w = 3 := by omega
  rcases hk with rfl | rfl | rfl | rfl | rfl | rfl <;> rcases hw with rfl | rfl | rfl | rfl
  · exact ⟨[x0, x1, x2, x3, x4, x5, x6, x7, x8, x9, x10, x11, x12, x13, x14], row4, rfl, by simp only [List.forall_mem_cons, sumI]; refine ⟨?_, ?_, ?_, ?_, ?_, ?_, ?_, ?_, ?_, ?_, ?_, ?_, ?_, ?_, ?_, fun _ h => nomatch h⟩ <;> omega, r4, fin _ (g4_0_0 x0 x1 x2 x3 x4 x5 x6 x7 x8 x9 x10 x11 x12 x13 x14 o _)⟩
  · exact ⟨[x0, x1, x2, x3, x4, x5, x6, x7, x8, x9, x10, x11, x12, x13, x14], row4, rfl, by simp only [List.forall_mem_cons, sumI]; refine ⟨?_, ?_, ?_, ?_, ?_, ?_, ?_, ?_, ?_, ?_, ?_, ?_, ?_, ?_, ?_, fun _ h => nomatch h⟩ <;> omega, r4, fin _ (g4_0_1 x0 x1 x2 x3 x4 x5 x6 x7 x8 x9 x10 x11 x12 x13 x14 o _)⟩
  · exact ⟨[x0, x1, x2, x3, x4, x5, x6, x7, x8, x9, x10, x11, x12, x13, x14], row4, rfl, by simp only [List.forall_mem_cons, sumI]; refine ⟨?_, ?_, ?_, ?_, ?_, ?_, ?_, ?_, ?_, ?_, ?_, ?_, ?_, ?_, ?_, fun _ h => nomatch h⟩ <;> omega, r4, fin _ (g4_0_2 x0 x1 x2 x3 x4 x5 x6 x7 x8 x9 x10 x11 x12 x13 x14 o _)⟩
  · exact ⟨[x0, x1, x2, x3, x4, x5, x6, x7, x8, x9, x10, x11, x12, x13, x14], row4, rfl, by simp only [List.forall_mem_cons, sumI]; refine ⟨?_, ?_, ?_, ?_, ?_, ?_, ?_, ?_, ?_, ?_, ?_, ?_, ?_, ?_, ?_, fun _ h => nomatch h⟩ <;> omega, r4, fin _ (g4_0_3 x0 x1 x2 x3 x4 x5 x6 x7 x8 x9 x10 x11 x12 x13 x14 o _)⟩
  · exact ⟨[sumI [x0], sumI [x1], sumI [x2], sumI [x3], sumI [x0, x1], sumI [x0, x2], sumI [x0, x3], sumI [x1, x2], sumI [x1, x3], sumI [x2, x3], sumI [x0, x1, x2], sumI [x0, x1, x3], sumI [x0, x2, x3], sumI [x1, x2, x3], sumI [x0, x1, x2, x3]], row4, rfl, by simp only [List.forall_mem_cons, sumI]; refine ⟨?_, ?_, ?_, ?_, ?_, ?_, ?_, ?_, ?_, ?_, ?_, ?_, ?_, ?_, ?_, fun _ h => nomatch h⟩ <;> omega, r4, fin _ (g4_1_0 x0 x1 x2 x3 x4 x5 x6 x7 x8 x9 x10 x11 x12 x13 x14 o _)⟩
  · exact ⟨[sumI [x0], sumI [x1], sumI [x2], sumI [x3], sumI [x0, x1], sumI [x0, x2], sumI [x0, x3], sumI [x1, x2], sumI [x1, x3], sumI [x2, x3], sumI [x0, x1, x2], sumI [x0, x1, x3], sumI [x0, x2, x3], sumI [x1, x2, x3], sumI [x0, x1, x2, x3]], row4, rfl, by simp only [List.forall_mem_cons, sumI]; refine ⟨?_, ?_, ?_, ?_, ?_, ?_, ?_, ?_, ?_, ?_, ?_, ?_, ?_, ?_, ?_, fun _ h => nomatch h⟩ <;> omega, r4, fin _ (g4_1_1 x0 x1 x2 x3 x4 x5 x6 x7 x8 x9 x10 x11 x12 x13 x14 o _)⟩
  · exact ⟨[sumI [x0], sumI [x1], sumI [x2], sumI [x3], sumI [x0, x1], sumI [x0, x2], sumI [x0, x3], sumI [x1, x2], sumI [x1, x3], sumI [x2, x3], sumI [x0, x1, x2], sumI [x0, x1, x3], sumI [x0, x2, x3], sumI [x1, x2, x3], sumI [x0, x1, x2, x3]], row4, rfl, by simp only [List.forall_mem_cons, sumI]; refine ⟨?_, ?_, ?_, ?_, ?_, ?_, ?_, ?_, ?_, ?_, ?_, ?_, ?_, ?_, ?_, fun _ h => nomatch h⟩ <;> omega, r4, fin _ (g4_1_2 x0 x1 x2 x3 x4 x5 x6 x7 x8 x9 x10 x11 x12 x13 x14 o _)⟩
  · exact ⟨[sumI [x0], sumI [x1], sumI [x2], sumI [x3], sumI [x0, x1], sumI [x0, x2], sumI [x0, x3], sumI [x1, x2], sumI [x1, x3], sumI [x2, x3], sumI [x0, x1, x2], sumI [x0, x1, x3], sumI [x0, x2, x3], sumI [x1, x2, x3], sumI [x0, x1, x2, x3]], row4, rfl, by simp only [List.forall_mem_cons, sumI]; refine ⟨?_, ?_, ?_, ?_, ?_, ?_, ?_, ?_, ?_, ?_, ?_, ?_, ?_, ?_, ?_, fun _ h => nomatch h⟩ <;> omega, r4, fin _ (g4_1_3 x0 x1 x2 x3 x4 x5 x6 x7 x8 x9 x10 x11 x12 x13 x14 o _)⟩
  · exact ⟨[0 + o, x1 + 0, x2 + 0, x3 + 0, x1 + o, x2 + o, x3 + o, x7 + 0, x8 + 0, x9 + 0, x7 + o, x8 + o, x9 + o, x13 + 0, x13 + o], row4, rfl, by simp only [List.forall_mem_cons, sumI]; refine ⟨?_, ?_, ?_, ?_, ?_, ?_, ?_, ?_, ?_, ?_, ?_, ?_, ?_, ?_, ?_, fun _ h => nomatch h⟩ <;> omega, r4, fin _ (g4_2_0 x0 x1 x2 x3 x4 x5 x6 x7 x8 x9 x10 x11 x12 x13 x14 o _)⟩
  · exact ⟨[x0 + 0, 0 + o, x2 + 0, x3 + 0, x0 + o, x5 + 0, x6 + 0, x2 + o, x3 + o, x9 + 0, x5 + o, x6 + o, x12 + 0, x9 + o, x12 + o], row4, rfl, by simp only [List.forall_mem_cons, sumI]; refine ⟨?_, ?_, ?_, ?_, ?_, ?_, ?_, ?_, ?_, ?_, ?_, ?_, ?_, ?_, ?_, fun _ h => nomatch h⟩ <;> omega, r4, fin _ (g4_2_1 x0 x1 x2 x3 x4 x5 x6 x7 x8 x9 x10 x11 x12 x13 x14 o _)⟩
  · exact ⟨[x0 + 0, x1 + 0, 0 + o, x3 + 0, x4 + 0, x0 + o, x6 + 0, x1 + o, x8 + 0, x3 + o, x4 + o, x11 + 0, x6 + o, x8 + o, x11 + o], row4, rfl, by simp only [List.forall_mem_cons, sumI]; refine ⟨?_, ?_, ?_, ?_, ?_, ?_, ?_, ?_, ?_, ?_, ?_, ?_, ?_, ?_, ?_, fun _ h => nomatch h⟩ <;> omega, r4, fin _ (g4_2_2 x0 x1 x2 x3 x4 x5 x6 x7 x8 x9 x10 x11 x12 x13 x14 o _)⟩
  · exact ⟨[x0 + 0, x1 + 0, x2 + 0, 0 + o, x4 + 0, x5 + 0, x0 + o, x7 + 0, x1 + o, x2 + o, x10 + 0, x4 + o, x5 + o, x7 + o, x10 + o], row4, rfl, by simp only [List.forall_mem_cons, sumI]; refine ⟨?_, ?_, ?_, ?_, ?_, ?_, ?_, ?_, ?_, ?_, ?_, ?_, ?_, ?_, ?_, fun _ h => nomatch h⟩ <;> omega, r4, fin _ (g4_2_3 x0 x1 x2 x3 x4 x5 x6 x7 x8 x9 x10 x11 x12 x13 x14 o _)⟩
  · exact ⟨[x0, x0, x2, x3, x4, x5, x6, x5, x6, x9, x10, x11, x12, x12, x14], row4, rfl, by simp only [List.forall_mem_cons, sumI]; refine ⟨?_, ?_, ?_, ?_, ?_, ?_, ?_, ?_, ?_, ?_, ?_, ?_, ?_, ?_, ?_, fun _ h => nomatch h⟩ <;> omega, r4, fin _ (g4_3_0 x0 x1 x2 x3 x4 x5 x6 x7 x8 x9 x10 x11 x12 x13 x14 o _)⟩
  · exact ⟨[x0, x1, x1, x3, x4, x4, x6, x7, x8, x8, x10, x11, x11, x13, x14], row4, rfl, by simp only [List.forall_mem_cons, sumI]; refine ⟨?_, ?_, ?_, ?_, ?_, ?_, ?_, ?_, ?_, ?_, ?_, ?_, ?_, ?_, ?_, fun _ h => nomatch h⟩ <;> omega, r4, fin _ (g4_3_1 x0 x1 x2 x3 x4 x5 x6 x7 x8 x9 x10 x11 x12 x13 x14 o _)⟩
  · exact ⟨[x0, x1, x2, x2, x4, x5, x5, x7, x7, x9, x10, x10, x12, x13, x14], row4, rfl, by simp only [List.forall_mem_cons, sumI]; refine ⟨?_, ?_, ?_, ?_, ?_, ?_, ?_, ?_, ?_, ?_, ?_, ?_, ?_, ?_, ?_, fun _ h => nomatch h⟩ <;> omega, r4, fin _ (g4_3_2 x0 x1 x2 x3 x4 x5 x6 x7 x8 x9 x10 x11 x12 x13 x14 o _)⟩
  · exact ⟨[x3, x1, x2, x3, x8, x9, x6, x7, x8, x9, x13, x11, x12, x13, x14], row4, rfl, by simp only [List.forall_mem_cons, sumI]; refine ⟨?_, ?_, ?_, ?_, ?_, ?_, ?_, ?_, ?_, ?_, ?_, ?_, ?_, ?_, ?_, fun _ h => nomatch h⟩ <;> omega, r4, fin _ (g4_3_3 x0 x1 x2 x3 x4 x5 x6 x7 x8 x9 x10 x11 x12 x13 x14 o _)⟩
  · exact ⟨[0, x1, x2, x3, 0, 0, 0, x7, x8, x9, 0, 0, 0, x13, 0], row4, rfl, by simp only [List.forall_mem_cons, sumI]; refine ⟨?_, ?_, ?_, ?_, ?_, ?_, ?_, ?_, ?_, ?_, ?_, ?_, ?_, ?_, ?_, fun _ h => nomatch h⟩ <;> omega, r4, fin _ (g4_4_0 x0 x1 x2 x3 x4 x5 x6 x7 x8 x9 x10 x11 x12 x13 x14 o _)⟩
  · exact ⟨[x0, 0, x2, x3, 0, x5, x6, 0, 0, x9, 0, 0, x12, 0, 0], row4, rfl, by simp only [List.forall_mem_cons, sumI]; refine ⟨?_, ?_, ?_, ?_, ?_, ?_, ?_, ?_, ?_, ?_, ?_, ?_, ?_, ?_, ?_, fun _ h => nomatch h⟩ <;> omega, r4, fin _ (g4_4_1 x0 x1 x2 x3 x4 x5 x6 x7 x8 x9 x10 x11 x12 x13 x14 o _)⟩
  · exact ⟨[x0, x1, 0, x3, x4, 0, x6, 0, x8, 0, 0, x11, 0, 0, 0], row4, rfl, by simp only [List.forall_mem_cons, sumI]; refine ⟨?_, ?_, ?_, ?_, ?_, ?_, ?_, ?_, ?_, ?_, ?_, ?_, ?_, ?_, ?_, fun _ h => nomatch h⟩ <;> omega, r4, fin _ (g4_4_2 x0 x1 x2 x3 x4 x5 x6 x7 x8 x9 x10 x11 x12 x13 x14 o _)⟩
  · exact ⟨[x0, x1, x2, 0, x4, x5, 0, x7, 0, 0, x10, 0, 0, 0, 0], row4, rfl, by simp only [List.forall_mem_cons, sumI]; refine ⟨?_, ?_, ?_, ?_, ?_, ?_, ?_, ?_, ?_, ?_, ?_, ?_, ?_, ?_, ?_, fun _ h => nomatch h⟩ <;> omega, r4, fin _ (g4_4_3 x0 x1 x2 x3 x4 x5 x6 x7 x8 x9 x10 x11 x12 x13 x14 o _)⟩
  · exact ⟨[x0, x1, x2, x3, x4, x5, x6, x7, x8, x9, x10, x11, x12, x13, x14], row4, rfl, by simp only [List.forall_mem_cons, sumI]; refine ⟨?_, ?_, ?_, ?_, ?_, ?_, ?_, ?_, ?_, ?_, ?_, ?_, ?_, ?_, ?_, fun _ h => nomatch h⟩ <;> omega, r4, fin _ (g4_5_0 x0 x1 x2 x3 x4 x5 x6 x7 x8 x9 x10 x11 x12 x13 x14 o _)⟩
  · exact ⟨[x0, x1, x2, x3, x4, x5, x6, x7, x8, x9, x10, x11, x12, x13, x14], row4, rfl, by simp only [List.forall_mem_cons, sumI]; refine ⟨?_, ?_, ?_, ?_, ?_, ?_, ?_, ?_, ?_, ?_, ?_, ?_, ?_, ?_, ?_, fun _ h => nomatch h⟩ <;> omega, r4, fin _ (g4_5_1 x0 x1 x2 x3 x4 x5 x6 x7 x8 x9 x10 x11 x12 x13 x14 o _)⟩
  · exact ⟨[x0, x1, x2, x3, x4, x5, x6, x7, x8, x9, x10, x11, x12, x13, x14], row4, rfl, by simp only [List.forall_mem_cons, sumI]; refine ⟨?_, ?_, ?_, ?_, ?_, ?_, ?_, ?_, ?_, ?_, ?_, ?_, ?_, ?_, ?_, fun _ h => nomatch h⟩ <;> omega, r4, fin _ (g4_5_2 x0 x1 x2 x3 x4 x5 x6 x7 x8 x9 x10 x11 x12 x13 x14 o _)⟩
  · exact ⟨[x0, x1, x2, x3, x4, x5, x6, x7, x8, x9, x10, x11, x12, x13, x14], row4, rfl, by simp only [List.forall_mem_cons, sumI]; refine ⟨?_, ?_, ?_, ?_, ?_, ?_, ?_, ?_, ?_, ?_, ?_, ?_, ?_, ?_, ?_, fun _ h => nomatch h⟩ <;> omega, r4, fin _ (g4_5_3 x0 x1 x2 x3 x4 x5 x6 x7 x8 x9 x10 x11 x12 x13 x14 o _)⟩
def t15_7 (cf : Nat → List Pv.Arg → Sto → Out R) : Sx := (retS (op2 eqD (toldX (callX cf 5 (aval (callX cf 7 (aname 7 (aval (lstX (lcons (con .non) (lcons (con (.int 5)) (lcons (lstX (lcons (con (.int 0)) (lcons (con (.int 0)) (lcons (con (.int 0)) lnil)))) (lcons (tupX (lcons (con (.int 0)) (lcons (con (.int 0)) (lcons (con (.int 0)) lnil)))) (lcons (con (.bl true)) lnil)))))) anil))) anil)) ans14 ansd14) (con (.str (Str.ofString "text")))))
def t15_6 (cf : Nat → List Pv.Arg → Sto → Out R) : Sx := (seqS (ifS (op2 neD (toldX (callX cf 5 (aval (callX cf 7 (aname 7 (aname 6 anil))) anil)) ans14 ansd14) (con (.str (Str.ofString "invalid")))) (retS (con (.bl false))) skip) (t15_7 cf))
def t15_5 (cf : Nat → List Pv.Arg → Sto → Out R) : Sx := (seqS (setS 6 (lstX (lcons (con (.str (Str.ofString ""))) (lcons (con (.str (Str.ofString "0"))) (lcons (con (.str (Str.ofString "0 0"))) (lcons (con (.str (Str.ofString "0 0 0 0"))) (lcons (var 4) (lcons (op2 addD (var 3) (con (.str (Str.ofString " 0")))) (lcons (op2 addD (op2 addD (var 5) (con (.str (Str.ofString " ")))) (var 4)) lnil))))))))) (t15_6 cf))
def t15_4 (cf : Nat → List Pv.Arg → Sto → Out R) : Sx := (seqS (par2 4 false 5 false (joinX (con (.str (Str.ofString " "))) (compX [8] (tName 8) (iVal (sliceV 2 (osome (con (.int 1))) onone)) (con (.bl true)) (b1V strOfD 8))) (callX cf 7 (aname 7 (aval (lstX (lcons (con (.str (Str.ofString "1001"))) (lcons (con (.str (Str.ofString "-1001"))) (lcons (con (.str (Str.ofString "01"))) (lcons (con (.str (Str.ofString "-0"))) (lcons (con (.str (Str.ofString "+1"))) (lcons (con (.str (Str.ofString "1.0"))) (lcons (con (.str (Str.ofString "a"))) (lcons (con (.str (Str.ofString ""))) (lcons (con (.str (Str.ofString " 1"))) (lcons (con (.str (Str.ofString "1 "))) (lcons (con (.str (Str.ofString "--1"))) (lcons (con (.str (Str.ofString "-"))) (lcons (con (.str (Str.ofString "00"))) (lcons (con (.str (Str.ofString "1/2"))) (lcons (con (.str (Str.ofString "10000"))) lnil)))))))))))))))) anil)))) (t15_5 cf))
def t15_3 (cf : Nat → List Pv.Arg → Sto → Out R) : Sx := (seqS (ifS (orX (op2 neD (callX cf 4 (aname 2 anil)) (var 3)) (notX (callX cf 8 (aval (callX cf 5 (aname 3 anil)) (aname 2 anil))))) (retS (con (.bl false))) skip) (t15_4 cf))
def t15_2 (cf : Nat → List Pv.Arg → Sto → Out R) : Sx := (seqS (setS 3 (joinX (con (.str (Str.ofString " "))) (compX [8] (tName 8) (iVal (var 2)) (con (.bl true)) (b1V strOfD 8)))) (t15_3 cf))
def t15_1 (cf : Nat → List Pv.Arg → Sto → Out R) : Sx := (seqS (setS 2 (op1 tupleD (compX [8] (tName 8) (iVal (callX cf 13 (aname 7 (aname 1 anil)))) (con (.bl true)) (callX cf 7 (aname 7 (aval (lstX (lcons (var 8) (lcons (con (.int 1000)) (lcons (op1 negD (con (.int 1000))) (lcons (con (.int 0)) lnil))))) anil)))))) (t15_2 cf))
def t15_0 (cf : Nat → List Pv.Arg → Sto → Out R) : Sx := (seqS (setS 1 (op2 addD (con (.int 2)) (callX cf 6 (aname 7 (aval (con (.int 3)) anil))))) (t15_1 cf))
def t5_3 (cf : Nat → List Pv.Arg → Sto → Out R) : Sx := (retS (var 1))
def t5_2 (cf : Nat → List Pv.Arg → Sto → Out R) : Sx := (seqS (tryF (exS (callX cf 1 (aname 1 anil))) m_BadGame 3) (t5_3 cf))
def t5_1 (cf : Nat → List Pv.Arg → Sto → Out R) : Sx := (seqS (setS 1 (op1 tupleD (compX [3] (tName 3) (iVal (splitX (var 0) (con (.str (Str.ofString " "))))) (con (.bl true)) (callX cf 3 (aname 3 anil))))) (t5_2 cf))
def t5_0 (cf : Nat → List Pv.Arg → Sto → Out R) : Sx := (seqS (exS (callX cf 2 (aname 0 anil))) (t5_1 cf))
def t4_1 (cf : Nat → List Pv.Arg → Sto → Out R) : Sx := (retS (joinX (con (.str (Str.ofString " "))) (compX [1] (tName 1) (iVal (var 0)) (con (.bl true)) (b1V strOfD 1))))
def t4_0 (cf : Nat → List Pv.Arg → Sto → Out R) : Sx := (seqS (exS (callX cf 1 (aname 0 anil))) (t4_1 cf))
/-! ### numbers and their words -/
theorem nrl (f g : Nat → Out R) (a n : Nat) (h : (List.range n).map (fun i => f (a + i)) = (List.range n).map (fun i => g (a + i))) : ∀ i, a ≤ i → i < a + n → f i = g i := fun i h1 h2 => by
  have := List.map_inj_left.mp h (i - a) (List.mem_range.mpr (by omega))
  rwa [show a + (i - a) = i by omega] at this
abbrev fN (S : Sto) (i : Nat) : Out R := call 11 3 [.sh (.str (Wd ((i : Int) - 1000)))] S
abbrev gN (S : Sto) (i : Nat) : Out R := .ok ⟨false, .int ((i : Int) - 1000)⟩ S
theorem nums0 (S : Sto) : (List.range 250).map (fun i => fN S (0 + i)) = (List.range 250).map (fun i => gN S (0 + i)) := by kernel_rfl
theorem nums1 (S : Sto) : (List.range 250).map (fun i => fN S (250 + i)) = (List.range 250).map (fun i => gN S (250 + i)) := by kernel_rfl
theorem nums2 (S : Sto) : (List.range 250).map (fun i => fN S (500 + i)) = (List.range 250).map (fun i => gN S (500 + i)) := by kernel_rfl
theorem nums3 (S : Sto) : (List.range 250).map (fun i => fN S (750 + i)) = (List.range 250).map (fun i => gN S (750 + i)) := by kernel_rfl
theorem nums4 (S : Sto) : (List.range 250).map (fun i => fN S (1000 + i)) = (List.range 250).map (fun i => gN S (1000 + i)) := by kernel_rfl
theorem nums5 (S : Sto) : (List.range 250).map (fun i => fN S (1250 + i)) = (List.range 250).map (fun i => gN S (1250 + i)) := by kernel_rfl
theorem nums6 (S : Sto) : (List.range 250).map (fun i => fN S (1500 + i)) = (List.range 250).map (fun i => gN S (1500 + i)) := by kernel_rfl
theorem nums7 (S : Sto) : (List.range 250).map (fun i => fN S (1750 + i)) = (List.range 250).map (fun i => gN S (1750 + i)) := by kernel_rfl
theorem nums8 (S : Sto) : (List.range 1).map (fun i => fN S (2000 + i)) = (List.range 1).map (fun i => gN S (2000 + i)) := by kernel_rfl
theorem num_all (S : Sto) (i : Nat) (h : i < 2001) : fN S i = gN S i := by
  by_cases h0 : i < 250
  · exact nrl _ _ 0 250 (nums0 S) i (by omega) (by omega)
  by_cases h1 : i < 500
  · exact nrl _ _ 250 250 (nums1 S) i (by omega) (by omega)
  by_cases h2 : i < 750
  · exact nrl _ _ 500 250 (nums2 S) i (by omega) (by omega)
  by_cases h3 : i < 1000
  · exact nrl _ _ 750 250 (nums3 S) i (by omega) (by omega)
  by_cases h4 : i < 1250
  · exact nrl _ _ 1000 250 (nums4 S) i (by omega) (by omega)
  by_cases h5 : i < 1500
  · exact nrl _ _ 1250 250 (nums5 S) i (by omega) (by omega)
  by_cases h6 : i < 1750
  · exact nrl _ _ 1500 250 (nums6 S) i (by omega) (by omega)
  by_cases h7 : i < 2000
  · exact nrl _ _ 1750 250 (nums7 S) i (by omega) (by omega)
  by_cases h8 : i < 2001
  · exact nrl _ _ 2000 1 (nums8 S) i (by omega) (by omega)
  omega
theorem num_ok (x : Int) (h : -1000 ≤ x ∧ x ≤ 1000) (S : Sto) : call 11 3 [.sh (.str (Wd x))] S = .ok ⟨false, .int x⟩ S := by
  have := num_all S (x + 1000).toNat (by omega)
  have e : (((x + 1000).toNat : Nat) : Int) - 1000 = x := by omega
  unfold fN gN at this
  rwa [e] at this
def wdB (x : Int) : Bool := decide (x.natAbs.log2 < 1920) && (decide ((Wd x).length ≤ 6) && (TL.tl (Wd x)).all fun k => k != 32 && decide (k < 128))
theorem wds : (List.range 2001).all (fun i => wdB ((i : Int) - 1000)) = true := by kernel_rfl
theorem wd_ok (x : Int) (h : -1000 ≤ x ∧ x ≤ 1000) : x.natAbs.log2 < 1920 ∧ (Wd x).length ≤ 6 ∧ 32 ∉ TL.tl (Wd x) ∧ ∀ k ∈ TL.tl (Wd x), k < 128 := by
  have h1 := List.all_eq_true.mp wds (x + 1000).toNat (List.mem_range.mpr (by omega))
  have e : (((x + 1000).toNat : Nat) : Int) - 1000 = x := by omega
  rw [e] at h1
  simp only [wdB, Bool.and_eq_true, decide_eq_true_eq] at h1
  refine ⟨h1.1, h1.2.1, fun hm => ?_, fun k hk => ?_⟩
  · have := List.all_eq_true.mp h1.2.2 32 hm
    simp at this
  · have := List.all_eq_true.mp h1.2.2 k hk
    rw [Bool.and_eq_true, decide_eq_true_eq] at this
    exact this.2
/-- a word without a space, and what number_in says of it -/
structure Wok (w : Str) (e : D) : Prop where
  sp : 32 ∉ TL.tl w
  len : w.length ≤ 6
  num : ∀ S, call 11 3 [.sh (.str w)] S = .ok ⟨false, e⟩ S
theorem wok_int (x : Int) (h : -1000 ≤ x ∧ x ≤ 1000) : Wok (Wd x) (.int x) := ⟨(wd_ok x h).2.2.1, (wd_ok x h).2.1, num_ok x h⟩
abbrev PW := Str × D
abbrev wsP (ps : List PW) : List Str := ps.map (·.1)
abbrev dsP (ps : List PW) : List D := ps.map (·.2)
theorem read_found (ps : List PW) (hp : ∀ p ∈ ps, Wok p.1 p.2) (h0 : ps ≠ []) (hl : ps.length ≤ 20) (S : Sto) (s1 s2 s3 : Sl) :
    setS 1 (op1 tupleD (compX [3] (tName 3) (iVal (splitX (var 0) (con (.str (Str.ofString " "))))) (con (.bl true)) (callX (call 11) 3 (aname 3 anil)))) [.sh (.str (Txt.join spcW (wsP ps))), s1, s2, s3] S = .ok (.nx [.sh (.str (Txt.join spcW (wsP ps))), .sh (.tup (dsP ps)), s2, s3]) S := by
  have hlen : (Txt.join spcW (wsP ps)).length ≤ (wsP ps).length * 7 := join_len (b := 6) fun w hw => by
    obtain ⟨p, hm, rfl⟩ := List.mem_map.mp hw
    exact (hp p hm).len
  have hs : Txt.split (Txt.join spcW (wsP ps)) spcW = wsP ps := Pv.split_join _ (fun e => h0 (List.map_eq_nil_iff.mp e)) fun w hw => by
    obtain ⟨p, hm, rfl⟩ := List.mem_map.mp hw
    exact (hp p hm).sp
  have hwl : (wsP ps).length = ps.length := List.length_map _
  have hsp : splitD (.str (Txt.join spcW (wsP ps))) (.str spcW) = some ⟨true, .lst (ps.map fun p => D.str p.1)⟩ := by
    unfold splitD
    dsimp only
    rw [if_pos ⟨by decide +kernel, by unfold line; omega⟩, hs, wsP, List.map_map] <;> rfl
  have it : iVal (splitX (var 0) (con (.str (Str.ofString " ")))) [.sh (.str (Txt.join spcW (wsP ps))), s1, s2, s3] S = .ok (ps.map fun p => D.str p.1) S := by
    have e : splitX (var 0) (con (.str (Str.ofString " "))) [.sh (.str (Txt.join spcW (wsP ps))), s1, s2, s3] S = .ok ⟨true, .lst (ps.map fun p => D.str p.1)⟩ S := by
      have e0 : var 0 [.sh (.str (Txt.join spcW (wsP ps))), s1, s2, s3] S = .ok ⟨false, .str (Txt.join spcW (wsP ps))⟩ S := rfl
      unfold splitX
      simp only [e0, Out.bind, con, hsp]
    exact e_val e rfl
  exact e_set (r := ⟨false, .tup (dsP ps)⟩) (e_1 (e_comp it (by rw [List.length_map]; unfold line; omega) (comp_fn (fun p : PW => D.str p.1) (fun p : PW => p.2) ps fun p hm => ⟨_, rfl, rfl, false, x_call (a_sh rfl rfl) ((hp p hm).num S)⟩)) rfl)
theorem ntext (t : Str) (S : Sto) : call 11 2 [.sh (.str t)] S = .ok ⟨false, .non⟩ S := rfl
theorem read_ok (ps : List PW) (hp : ∀ p ∈ ps, Wok p.1 p.2) (h0 : ps ≠ []) (hl : ps.length ≤ 20) (S : Sto) (hg : call 11 1 [.sh (.tup (dsP ps))] S = .ok ⟨false, .non⟩ S) : call 12 5 [.sh (.str (Txt.join spcW (wsP ps)))] S = .ok ⟨false, .tup (dsP ps)⟩ S :=
  f_ret (a := t5_0 (call 11)) (m := 4) (as := [.sh (.str (Txt.join spcW (wsP ps)))]) (s_nx (e_ex (x_call (a_sh rfl rfl) (ntext _ S))) (s_nx (read_found ps hp h0 hl S .un .un .un) (s_nx (t_ok (e_ex (x_call (a_sh rfl rfl) hg))) (e_ret rfl))))
theorem read_bad (ps : List PW) (hp : ∀ p ∈ ps, Wok p.1 p.2) (h0 : ps ≠ []) (hl : ps.length ≤ 20) (S : Sto) {fs : List D} (hg : call 11 1 [.sh (.tup (dsP ps))] S = .exc 1 fs S) : call 12 5 [.sh (.str (Txt.join spcW (wsP ps)))] S = .exc 3 [] S :=
  f_exc (a := t5_0 (call 11)) (m := 4) (as := [.sh (.str (Txt.join spcW (wsP ps)))]) (s_nx (e_ex (x_call (a_sh rfl rfl) (ntext _ S))) (s_nx (read_found ps hp h0 hl S .un .un .un) (s_exc (t_exc (e_exx (x_call (a_sh rfl rfl) hg)) rfl))))
theorem c_int (k : Nat) (x : Int) (S : Sto) : call (k + 1) 0 [.sh (.int x)] S = .ok tt' S := rfl
def szOf (m : Nat) : Nat := 2 ^ m - 1
theorem ngame (k m : Nat) (xs : List Int) (S : Sto) (hm : m = 2 ∨ m = 3 ∨ m = 4) (hl : xs.length = szOf m) (h : ∀ x ∈ xs, -1000 ≤ x ∧ x ≤ 1000) : call (k + 2) 1 [.sh (nD xs)] S = .ok ⟨false, .non⟩ S := by
  have e : lenD (nD xs) = some ⟨false, .int (szOf m)⟩ := by rw [nD, len_tup, List.length_map, hl]
  refine needGame2 (i := 0) (sz := ti_SIZES) (cf := call (k + 1)) (c_int k) xs ?_ (by rw [hl]; rcases hm with rfl | rfl | rfl <;> decide) h
  have e2 : b1V lenD 0 [.sh (nD xs), .un] S = .ok ⟨false, .int (szOf m)⟩ S := by
    unfold b1V
    show (match lenD (nD xs) with | some r => Out.ok r S | none => .bad) = _
    rw [e]
  refine e_1 e2 ?_
  rcases hm with rfl | rfl | rfl <;> rfl
/-- a row whose length is none of the sizes -/
theorem nlen (k : Nat) (ds : List D) (S : Sto) (h : ds.length ∈ [1, 2, 4, 6, 14, 8, 16]) : call (k + 1) 1 [.sh (.tup ds)] S = .exc 1 [.non] S := by
  refine needGame_len (sz := ti_SIZES) ds ?_
  have e2 : b1V lenD 0 [.sh (.tup ds), .un] S = .ok ⟨false, .int ds.length⟩ S := rfl
  refine e_1 e2 ?_
  simp only [List.mem_cons, List.not_mem_nil, or_false] at h
  rcases h with h | h | h | h | h | h | h <;> rw [h] <;> rfl
/-- a row whose first is no number of a game -/
theorem nfirst (k m : Nat) (e : D) (ds : List D) (S : Sto) (hm : m = 2 ∨ m = 3 ∨ m = 4) (hl : ds.length + 1 = szOf m) (he : e = .non ∨ e = .int 1001 ∨ e = .int (-1001)) : call (k + 2) 1 [.sh (.tup (e :: ds))] S = .exc 1 [.int 0] S := by
  have hlen : lenD (.tup (e :: ds)) = some ⟨false, .int (szOf m)⟩ := by rw [len_tup, List.length_cons, hl]
  refine needGame_0 (i := 0) (sz := ti_SIZES) (cf := call (k + 1)) e ds ?_ (by rcases hm with rfl | rfl | rfl <;> simp [szOf] at hl <;> omega) ?_
  · have e2 : b1V lenD 0 [.sh (.tup (e :: ds)), .un] S = .ok ⟨false, .int (szOf m)⟩ S := by
      unfold b1V
      show (match lenD (.tup (e :: ds)) with | some r => Out.ok r S | none => .bad) = _
      rw [hlen]
    refine e_1 e2 ?_
    rcases hm with rfl | rfl | rfl <;> rfl
  · rcases he with rfl | rfl | rfl <;> rfl
/-! ### the odd texts -/
def Inv (x : D) : Prop := ∀ S, call 12 5 [.sh x] S = .exc 3 [] S
theorem inv_of (ps : List PW) (hp : ∀ p ∈ ps, Wok p.1 p.2) (h0 : ps ≠ []) (hl : ps.length ≤ 20) (hg : ∀ S, ∃ fs, call 11 1 [.sh (.tup (dsP ps))] S = .exc 1 fs S) : Inv (.str (Txt.join spcW (wsP ps))) := fun S => by
  obtain ⟨fs, h⟩ := hg S
  exact read_bad ps hp h0 hl S h
theorem inv_len (ps : List PW) (hp : ∀ p ∈ ps, Wok p.1 p.2) (h : ps.length ∈ [1, 2, 4, 6, 14, 8, 16]) : Inv (.str (Txt.join spcW (wsP ps))) :=
  inv_of ps hp (fun e => by rw [e] at h; revert h; decide) (by simp only [List.mem_cons, List.not_mem_nil, or_false] at h; omega) fun S => ⟨_, nlen 10 (dsP ps) S (by rw [List.length_map]; exact h)⟩
theorem wok0 : Wok (Str.ofString "0") (.int 0) := ⟨by decide +kernel, by decide +kernel, fun S => by kernel_rfl⟩
theorem wokE : Wok (Str.ofString "") .non := ⟨by decide +kernel, by decide +kernel, fun S => by kernel_rfl⟩
theorem wok1 : Wok (Str.ofString "1") (.int 1) := ⟨by decide +kernel, by decide +kernel, fun S => by kernel_rfl⟩
theorem allc {p : PW} {ps : List PW} (h : Wok p.1 p.2) (hs : ∀ q ∈ ps, Wok q.1 q.2) : ∀ q ∈ p :: ps, Wok q.1 q.2 := fun q hq => by
  rcases List.mem_cons.mp hq with e | e
  · rw [e]; exact h
  · exact hs q e
theorem alln : ∀ q ∈ ([] : List PW), Wok q.1 q.2 := fun q h => nomatch h
theorem odd0 : Inv (.str (Str.ofString "")) := by
  have h := inv_len [(Str.ofString "", .non)] (allc wokE alln) (by decide)
  have e : Txt.join spcW (wsP [(Str.ofString "", .non)]) = Str.ofString "" := (TL.join_eq _ _).trans rfl
  rwa [e] at h
theorem odd1 : Inv (.str (Str.ofString "0")) := by
  have h := inv_len [(Str.ofString "0", .int 0)] (allc wok0 alln) (by decide)
  have e : Txt.join spcW (wsP [(Str.ofString "0", .int 0)]) = Str.ofString "0" := (TL.join_eq _ _).trans rfl
  rwa [e] at h
theorem odd2 : Inv (.str (Str.ofString "0 0")) := by
  have h := inv_len [(Str.ofString "0", .int 0), (Str.ofString "0", .int 0)] (allc wok0 (allc wok0 alln)) (by decide)
  have e : Txt.join spcW (wsP [(Str.ofString "0", .int 0), (Str.ofString "0", .int 0)]) = Str.ofString "0 0" := (TL.join_eq _ _).trans (by decide +kernel)
  rwa [e] at h
theorem odd4 : Inv (.str (Str.ofString "0 0 0 0")) := by
  have h := inv_len [(Str.ofString "0", .int 0), (Str.ofString "0", .int 0), (Str.ofString "0", .int 0), (Str.ofString "0", .int 0)] (allc wok0 (allc wok0 (allc wok0 (allc wok0 alln)))) (by decide)
  have e : Txt.join spcW (wsP [(Str.ofString "0", .int 0), (Str.ofString "0", .int 0), (Str.ofString "0", .int 0), (Str.ofString "0", .int 0)]) = Str.ofString "0 0 0 0" := (TL.join_eq _ _).trans (by decide +kernel)
  rwa [e] at h
abbrev psI (ys : List Int) : List PW := ys.map fun y => (Wd y, .int y)
theorem ws_psI (ys : List Int) : wsP (psI ys) = ys.map Wd := by rw [wsP, psI, List.map_map]; rfl
theorem ds_psI (ys : List Int) : dsP (psI ys) = ys.map D.int := by rw [dsP, psI, List.map_map]; rfl
theorem psI_ok {ys : List Int} (h : ∀ y ∈ ys, -1000 ≤ y ∧ y ≤ 1000) : ∀ p ∈ psI ys, Wok p.1 p.2 := fun p hp => by
  obtain ⟨y, hy, rfl⟩ := List.mem_map.mp hp
  exact wok_int y (h y hy)
abbrev TX (ys : List Int) : Str := Txt.join spcW (ys.map Wd)
/-- less by one -/
theorem odd_rest {ys : List Int} (h : ∀ y ∈ ys, -1000 ≤ y ∧ y ≤ 1000) (hl : ys.length = 2 ∨ ys.length = 6 ∨ ys.length = 14) : Inv (.str (TX ys)) := by
  have h := inv_len (psI ys) (psI_ok h) (by rw [List.length_map]; rcases hl with q | q | q <;> rw [q] <;> decide)
  rwa [ws_psI] at h
/-- more by one -/
theorem odd_more {ys : List Int} (h : ∀ y ∈ ys, -1000 ≤ y ∧ y ≤ 1000) (hl : ys.length = 3 ∨ ys.length = 7 ∨ ys.length = 15) : Inv (.str (TX ys ++ Str.ofString " 0")) := by
  have h2 := inv_len (psI ys ++ [(Str.ofString "0", .int 0)]) (fun p hp => by
    rcases List.mem_append.mp hp with q | q
    · exact psI_ok h p q
    · rw [List.mem_singleton.mp q]; exact wok0) (by rw [List.length_append, List.length_map]; rcases hl with q | q | q <;> rw [q] <;> decide)
  have e : Txt.join spcW (wsP (psI ys ++ [(Str.ofString "0", .int 0)])) = TX ys ++ Str.ofString " 0" := by
    rw [wsP, List.map_append, ← wsP, ws_psI, TL.join_eq, join_app _ _ _ (fun e => by rw [List.map_eq_nil_iff.mp e] at hl; revert hl; decide) (by simp), ← TL.join_eq, cat_assoc]
    congr 1
  rwa [e] at h2
/-- a bad word ahead of the rest -/
theorem odd_bad {w : Str} {b : D} {ys : List Int} (hw : Wok w b) (hb : b = .non ∨ b = .int 1001 ∨ b = .int (-1001)) (h : ∀ y ∈ ys, -1000 ≤ y ∧ y ≤ 1000) (hl : ys.length = 2 ∨ ys.length = 6 ∨ ys.length = 14) : Inv (.str (w ++ spcW ++ TX ys)) := by
  have h2 := inv_of ((w, b) :: psI ys) (allc hw (psI_ok h)) (by simp) (by rw [List.length_cons, List.length_map]; omega) fun S => ⟨_, by
    have e : dsP ((w, b) :: psI ys) = b :: dsP (psI ys) := rfl
    rw [e]
    have hlen : (dsP (psI ys)).length = ys.length := by rw [ds_psI, List.length_map]
    rcases hl with q | q | q
    · exact nfirst 9 2 b (dsP (psI ys)) S (.inl rfl) (by rw [hlen, q]; rfl) hb
    · exact nfirst 9 3 b (dsP (psI ys)) S (.inr (.inl rfl)) (by rw [hlen, q]; rfl) hb
    · exact nfirst 9 4 b (dsP (psI ys)) S (.inr (.inr rfl)) (by rw [hlen, q]; rfl) hb⟩
  have e : Txt.join spcW (wsP ((w, b) :: psI ys)) = w ++ spcW ++ TX ys := by
    rw [TL.join_eq, show wsP ((w, b) :: psI ys) = [w] ++ wsP (psI ys) from rfl, join_app _ _ _ (by simp) (fun e => by rw [ws_psI] at e; rw [List.map_eq_nil_iff.mp e] at hl; revert hl; decide), ws_psI, ← TL.join_eq spcW (ys.map Wd)]
    rfl
  rwa [e] at h2
/-- two words ahead of the rest -/
theorem odd_two {w v : Str} {b c : D} {ys : List Int} (hw : Wok w b) (hv : Wok v c) (h : ∀ y ∈ ys, -1000 ≤ y ∧ y ≤ 1000) (hl : ys.length = 2 ∨ ys.length = 6 ∨ ys.length = 14) : Inv (.str (w ++ spcW ++ v ++ spcW ++ TX ys)) := by
  have h2 := inv_len ((w, b) :: (v, c) :: psI ys) (allc hw (allc hv (psI_ok h))) (by rw [List.length_cons, List.length_cons, List.length_map]; rcases hl with q | q | q <;> rw [q] <;> decide)
  have e : Txt.join spcW (wsP ((w, b) :: (v, c) :: psI ys)) = w ++ spcW ++ v ++ spcW ++ TX ys := by
    rw [TL.join_eq, show wsP ((w, b) :: (v, c) :: psI ys) = [w, v] ++ wsP (psI ys) from rfl, join_app _ _ _ (by simp) (fun e => by rw [ws_psI] at e; rw [List.map_eq_nil_iff.mp e] at hl; revert hl; decide), ws_psI, ← TL.join_eq spcW (ys.map Wd)]
    rfl
  rwa [e] at h2
abbrev BL : List D := [.str (Str.ofString "1001"), .str (Str.ofString "-1001"), .str (Str.ofString "01"), .str (Str.ofString "-0"), .str (Str.ofString "+1"), .str (Str.ofString "1.0"), .str (Str.ofString "a"), .str (Str.ofString ""), .str (Str.ofString " 1"), .str (Str.ofString "1 "), .str (Str.ofString "--1"), .str (Str.ofString "-"), .str (Str.ofString "00"), .str (Str.ofString "1/2"), .str (Str.ofString "10000")]
theorem odd_any {ys : List Int} (h : ∀ y ∈ ys, -1000 ≤ y ∧ y ≤ 1000) (hl : ys.length = 2 ∨ ys.length = 6 ∨ ys.length = 14) (x : D) (hx : x ∈ BL) : ∃ w : Str, x = .str w ∧ w.length ≤ 6 ∧ Inv (.str (w ++ Str.ofString " " ++ TX ys)) := by
  simp only [List.mem_cons, List.not_mem_nil, or_false] at hx
  rcases hx with rfl | rfl | rfl | rfl | rfl | rfl | rfl | rfl | rfl | rfl | rfl | rfl | rfl | rfl | rfl
  · exact ⟨_, rfl, by decide +kernel, odd_bad (w := (Str.ofString "1001")) (b := .int 1001) ⟨by decide +kernel, by decide +kernel, fun S => by kernel_rfl⟩ (.inr (.inl rfl)) h hl⟩
  · exact ⟨_, rfl, by decide +kernel, odd_bad (w := (Str.ofString "-1001")) (b := .int (-1001)) ⟨by decide +kernel, by decide +kernel, fun S => by kernel_rfl⟩ (.inr (.inr rfl)) h hl⟩
  · exact ⟨_, rfl, by decide +kernel, odd_bad (w := (Str.ofString "01")) (b := .non) ⟨by decide +kernel, by decide +kernel, fun S => by kernel_rfl⟩ (.inl rfl) h hl⟩
  · exact ⟨_, rfl, by decide +kernel, odd_bad (w := (Str.ofString "-0")) (b := .non) ⟨by decide +kernel, by decide +kernel, fun S => by kernel_rfl⟩ (.inl rfl) h hl⟩
  · exact ⟨_, rfl, by decide +kernel, odd_bad (w := (Str.ofString "+1")) (b := .non) ⟨by decide +kernel, by decide +kernel, fun S => by kernel_rfl⟩ (.inl rfl) h hl⟩
  · exact ⟨_, rfl, by decide +kernel, odd_bad (w := (Str.ofString "1.0")) (b := .non) ⟨by decide +kernel, by decide +kernel, fun S => by kernel_rfl⟩ (.inl rfl) h hl⟩
  · exact ⟨_, rfl, by decide +kernel, odd_bad (w := (Str.ofString "a")) (b := .non) ⟨by decide +kernel, by decide +kernel, fun S => by kernel_rfl⟩ (.inl rfl) h hl⟩
  · exact ⟨_, rfl, by decide +kernel, odd_bad (w := (Str.ofString "")) (b := .non) ⟨by decide +kernel, by decide +kernel, fun S => by kernel_rfl⟩ (.inl rfl) h hl⟩
  · refine ⟨_, rfl, by decide +kernel, ?_⟩
    have e : (Str.ofString " 1") = (Str.ofString "") ++ spcW ++ (Str.ofString "1") := by decide +kernel
    rw [e]; exact odd_two wokE wok1 h hl
  · refine ⟨_, rfl, by decide +kernel, ?_⟩
    have e : (Str.ofString "1 ") = (Str.ofString "1") ++ spcW ++ (Str.ofString "") := by decide +kernel
    rw [e]; exact odd_two wok1 wokE h hl
  · exact ⟨_, rfl, by decide +kernel, odd_bad (w := (Str.ofString "--1")) (b := .non) ⟨by decide +kernel, by decide +kernel, fun S => by kernel_rfl⟩ (.inl rfl) h hl⟩
  · exact ⟨_, rfl, by decide +kernel, odd_bad (w := (Str.ofString "-")) (b := .non) ⟨by decide +kernel, by decide +kernel, fun S => by kernel_rfl⟩ (.inl rfl) h hl⟩
  · exact ⟨_, rfl, by decide +kernel, odd_bad (w := (Str.ofString "00")) (b := .non) ⟨by decide +kernel, by decide +kernel, fun S => by kernel_rfl⟩ (.inl rfl) h hl⟩
  · exact ⟨_, rfl, by decide +kernel, odd_bad (w := (Str.ofString "1/2")) (b := .non) ⟨by decide +kernel, by decide +kernel, fun S => by kernel_rfl⟩ (.inl rfl) h hl⟩
  · exact ⟨_, rfl, by decide +kernel, odd_bad (w := (Str.ofString "10000")) (b := .non) ⟨by decide +kernel, by decide +kernel, fun S => by kernel_rfl⟩ (.inl rfl) h hl⟩
/-! ### the law's body -/
theorem wd5 {ys : List Int} (h : ∀ y ∈ ys, -1000 ≤ y ∧ y ≤ 1000) : ∀ y ∈ ys, y.natAbs.log2 < 1920 ∧ (Wd y).length ≤ 6 := fun y hy => ⟨(wd_ok y (h y hy)).1, (wd_ok y (h y hy)).2.1⟩
theorem write_ok (m : Nat) (ys : List Int) (S : Sto) (hm : m = 2 ∨ m = 3 ∨ m = 4) (hl : ys.length = szOf m) (h : ∀ y ∈ ys, -1000 ≤ y ∧ y ≤ 1000) : call 12 4 [.sh (nD ys)] S = .ok ⟨false, .str (TX ys)⟩ S :=
  f_ret (a := t4_0 (call 11)) (m := 2) (as := [.sh (nD ys)]) (s_nx (e_ex (x_call (a_sh rfl rfl) (ngame 9 m ys S hm hl h))) (e_ret (join_wd (i := 1) (show 1 < 2 by decide) (e_val (r := ⟨false, nD ys⟩) rfl rfl) (wd5 h) (by rw [hl]; rcases hm with rfl | rfl | rfl <;> decide))))
theorem read_back (m : Nat) (ys : List Int) (S : Sto) (hm : m = 2 ∨ m = 3 ∨ m = 4) (hl : ys.length = szOf m) (h : ∀ y ∈ ys, -1000 ≤ y ∧ y ≤ 1000) : call 12 5 [.sh (.str (TX ys))] S = .ok ⟨false, nD ys⟩ S := by
  have h2 := read_ok (psI ys) (psI_ok h) (fun e => by rw [List.map_eq_nil_iff.mp e] at hl; rcases hm with rfl | rfl | rfl <;> revert hl <;> decide) (by rw [List.length_map, hl]; rcases hm with rfl | rfl | rfl <;> decide) S (by rw [ds_psI]; exact ngame 9 m ys S hm hl h)
  rwa [ws_psI, ds_psI] at h2
theorem tx_cps {ys : List Int} (h : ∀ y ∈ ys, -1000 ≤ y ∧ y ≤ 1000) : ∀ k ∈ TL.tl (TX ys), k < 0x110000 := fun k hk => by
  rcases mem_join _ _ hk with ⟨w, hw, h2⟩ | e
  · obtain ⟨y, hy, rfl⟩ := List.mem_map.mp hw
    have := (wd_ok y (h y hy)).2.2.2 k h2
    omega
  · omega
abbrev V (m : Nat) (scr s2 s3 s4 s5 s6 s8 : Sl) : SEnv := [scr, .sh (.int (m : Int)), s2, s3, s4, s5, s6, .ref 0, s8]
theorem told_odd (ds : List D) (hd : ∀ x ∈ ds, Inv x) (h0 : 0 < ds.length) (h1 : ds.length < 1000) (env : SEnv) (h6 : sget env 6 = .sh (.lst ds)) (h7 : sget env 7 = .ref 0) (row : D) (r : RowOk row) : ∃ row', RowOk row' ∧ toldX (callX (call 12) 5 (aval (callX (call 12) 7 (aname 7 (aname 6 anil))) anil)) ans14 ansd14 env [row] = .ok ⟨false, .str (Str.ofString "invalid")⟩ [row'] := by
  obtain ⟨x, hx, row2, r2, ep⟩ := pick_ok (i := 6) (cf := call 11) rfl (d := row) (l := ds) r h0 h1
  exact ⟨row2, r2, told_exc (n := 3) (fs := []) (x_call (a_val (x_call (a_ref h7 (a_sh h6 rfl)) ep) rfl) (hd x hx _)) rfl⟩
theorem told_other (env : SEnv) (h7 : sget env 7 = .ref 0) (row : D) (r : RowOk row) : ∃ row', RowOk row' ∧ toldX (callX (call 12) 5 (aval (callX (call 12) 7 (aname 7 (aval (lstX (lcons (con .non) (lcons (con (.int 5)) (lcons (lstX (lcons (con (.int 0)) (lcons (con (.int 0)) (lcons (con (.int 0)) lnil)))) (lcons (tupX (lcons (con (.int 0)) (lcons (con (.int 0)) (lcons (con (.int 0)) lnil)))) (lcons (con (.bl true)) lnil)))))) anil))) anil)) ans14 ansd14 env [row] = .ok ⟨false, .str (Str.ofString "text")⟩ [row'] := by
  obtain ⟨x, ex, _, row2, r2, ep⟩ := pick_in (i := 6) (cf := call 11) rfl (d := row) (l := [.non, .int 5, .lst [.int 0, .int 0, .int 0], .tup [.int 0, .int 0, .int 0], .bl true]) (fun x => ∀ S, call 12 5 [.sh x] S = .exc 2 [] S) r (by decide) (by decide) (fun x hx => by
    simp only [List.mem_cons, List.not_mem_nil, or_false] at hx
    rcases hx with rfl | rfl | rfl | rfl | rfl <;> intro S <;> kernel_rfl)
  exact ⟨row2, r2, told_exc (n := 2) (fs := []) (x_call (a_val (x_call (a_ref h7 (a_val rfl rfl)) ep) rfl) (ex _)) rfl⟩
theorem cat_le (a b : Str) (h : a.length + b.length ≤ line) : addD (.str a) (.str b) = some ⟨false, .str (a ++ b)⟩ := by
  show (if a.length + b.length ≤ line then _ else _) = _
  rw [if_pos h]
theorem tx_len {ys : List Int} (h : ∀ y ∈ ys, -1000 ≤ y ∧ y ≤ 1000) (hl : ys.length ≤ 20) : (TX ys).length ≤ 140 := by
  have := join_len (ws := ys.map Wd) (b := 6) fun w hw => by
    obtain ⟨y, hy, rfl⟩ := List.mem_map.mp hw
    exact (wd_ok y (h y hy)).2.1
  rw [List.length_map] at this
  show (Txt.join spcW (ys.map Wd)).length ≤ 140
  omega
theorem body (m : Nat) (hm : m = 2 ∨ m = 3 ∨ m = 4) (scr : Sl) (row : D) (y0 : Int) (ys : List Int) (hl : ys.length + 1 = szOf m) (h : ∀ y ∈ y0 :: ys, -1000 ≤ y ∧ y ≤ 1000) (r : RowOk row)
    (hsl : ∀ (s3 s4 s5 s6 s8 : Sl) (S : Sto), sliceV 2 (osome (con (.int 1))) onone (V m scr (.sh (nD (y0 :: ys))) s3 s4 s5 s6 s8) S = .ok ⟨false, nD ys⟩ S) : ∃ row', t15_2 (call 12) (V m scr (.sh (nD (y0 :: ys))) .un .un .un .un .un) [row] = .ok (.ret tt') [row'] := by
  have h1 : ∀ y ∈ ys, -1000 ≤ y ∧ y ≤ 1000 := fun y hy => h y (List.mem_cons_of_mem _ hy)
  have hl0 : (y0 :: ys).length = szOf m := hl
  have hl1 : ys.length = 2 ∨ ys.length = 6 ∨ ys.length = 14 := by rcases hm with rfl | rfl | rfl <;> simp only [szOf] at hl <;> omega
  have hl2 : (y0 :: ys).length = 3 ∨ (y0 :: ys).length = 7 ∨ (y0 :: ys).length = 15 := by rw [List.length_cons]; omega
  obtain ⟨b, ⟨hbm, w, rfl, hwl, hinv⟩, _, row1, r1, ep⟩ := pick_in (i := 6) (cf := call 11) rfl (d := row) (l := BL) (fun x => x ∈ BL ∧ ∃ w : Str, x = .str w ∧ w.length ≤ 6 ∧ Inv (.str (w ++ Str.ofString " " ++ TX ys))) r (by decide) (by decide) (fun x hx => ⟨hx, odd_any h1 hl1 x hx⟩)
  let odd : List D := [.str (Str.ofString ""), .str (Str.ofString "0"), .str (Str.ofString "0 0"), .str (Str.ofString "0 0 0 0"), .str (TX ys), .str (TX (y0 :: ys) ++ Str.ofString " 0"), .str (w ++ Str.ofString " " ++ TX ys)]
  have hodd : ∀ x ∈ odd, Inv x := fun x hx => by
    simp only [odd, List.mem_cons, List.not_mem_nil, or_false] at hx
    rcases hx with rfl | rfl | rfl | rfl | rfl | rfl | rfl
    · exact odd0
    · exact odd1
    · exact odd2
    · exact odd4
    · exact odd_rest h1 hl1
    · exact odd_more h hl2
    · exact hinv
  have n0 : (Str.ofString " 0").length = 2 := by decide +kernel
  have n1 : (Str.ofString " ").length = 1 := by decide +kernel
  have l1 := tx_len h1 (by omega)
  have l2 := tx_len h (by rw [List.length_cons]; omega)
  have a1 : addD (.str (TX (y0 :: ys))) (.str (Str.ofString " 0")) = some ⟨false, .str (TX (y0 :: ys) ++ Str.ofString " 0")⟩ := cat_le _ _ (by rw [n0]; unfold line; omega)
  have a2 : addD (.str w) (.str (Str.ofString " ")) = some ⟨false, .str (w ++ Str.ofString " ")⟩ := cat_le _ _ (by rw [n1]; unfold line; omega)
  have e3 : (w ++ Str.ofString " ").length ≤ 7 := by
    have q : (TL.tl (w ++ Str.ofString " ")).length = (TL.tl w).length + (TL.tl (Str.ofString " ")).length := by rw [TL.tl_append, List.length_append]
    have q1 : (TL.tl (w ++ Str.ofString " ")).length = (w ++ Str.ofString " ").length := Array.length_toList
    have q2 : (TL.tl w).length = w.length := Array.length_toList
    have q3 : (TL.tl (Str.ofString " ")).length = 1 := by decide +kernel
    omega
  have a3 : addD (.str (w ++ Str.ofString " ")) (.str (TX ys)) = some ⟨false, .str (w ++ Str.ofString " " ++ TX ys)⟩ := cat_le _ _ (by unfold line; omega)
  obtain ⟨row2, r2, eo⟩ := told_odd odd hodd (show 0 < 7 by decide) (show 7 < 1000 by decide) (V m scr (.sh (nD (y0 :: ys))) (.sh (.str (TX (y0 :: ys)))) (.sh (.str (TX ys))) (.sh (.str w)) (.sh (.lst odd)) .un) rfl rfl row1 r1
  obtain ⟨row3, r3, ef⟩ := told_other (V m scr (.sh (nD (y0 :: ys))) (.sh (.str (TX (y0 :: ys)))) (.sh (.str (TX ys))) (.sh (.str w)) (.sh (.lst odd)) .un) rfl row2 r2
  refine ⟨row3, ?_⟩
  refine s_nx (e_set (join_wd (i := 8) (it := iVal (var 2)) (show 8 < 9 by decide) (e_val (r := ⟨false, nD (y0 :: ys)⟩) rfl rfl) (wd5 h) (by rw [hl0]; rcases hm with rfl | rfl | rfl <;> decide))) ?_
  refine s_nx (i_f (or_f (e_2 (x_call (a_sh rfl rfl) (write_ok m (y0 :: ys) [row] hm hl0 h)) rfl (ne_str _ (tx_cps h))) (not_t (x_call (a_val (x_call (a_sh rfl rfl) (read_back m (y0 :: ys) [row] hm hl0 h)) (a_sh rfl rfl)) (alike_nD (i := 8) (cf := call 11) (cf2 := call 10) rfl _ (by rw [hl0]; rcases hm with rfl | rfl | rfl <;> decide))))) rfl) ?_
  refine s_nx (e_par2 (join_wd (i := 8) (show 8 < 9 by decide) (e_val (hsl _ _ _ _ _ _) rfl) (wd5 h1) (by omega)) (x_call (a_ref rfl (a_val rfl rfl)) ep) rfl rfl) ?_
  refine s_nx (e_set (r := ⟨true, .lst odd⟩) (S1 := [row1]) ?_) ?_
  · have v3 : var 3 (V m scr (.sh (nD (y0 :: ys))) (.sh (.str (TX (y0 :: ys)))) (.sh (.str (TX ys))) (.sh (.str w)) .un .un) [row1] = .ok ⟨false, .str (TX (y0 :: ys))⟩ [row1] := rfl
    have v4 : var 4 (V m scr (.sh (nD (y0 :: ys))) (.sh (.str (TX (y0 :: ys)))) (.sh (.str (TX ys))) (.sh (.str w)) .un .un) [row1] = .ok ⟨false, .str (TX ys)⟩ [row1] := rfl
    have v5 : var 5 (V m scr (.sh (nD (y0 :: ys))) (.sh (.str (TX (y0 :: ys)))) (.sh (.str (TX ys))) (.sh (.str w)) .un .un) [row1] = .ok ⟨false, .str w⟩ [row1] := rfl
    have o1 : op2 addD (var 3) (con (.str (Str.ofString " 0"))) (V m scr (.sh (nD (y0 :: ys))) (.sh (.str (TX (y0 :: ys)))) (.sh (.str (TX ys))) (.sh (.str w)) .un .un) [row1] = .ok ⟨false, .str (TX (y0 :: ys) ++ Str.ofString " 0")⟩ [row1] := e_2 v3 rfl a1
    have o2 : op2 addD (op2 addD (var 5) (con (.str (Str.ofString " ")))) (var 4) (V m scr (.sh (nD (y0 :: ys))) (.sh (.str (TX (y0 :: ys)))) (.sh (.str (TX ys))) (.sh (.str w)) .un .un) [row1] = .ok ⟨false, .str (w ++ Str.ofString " " ++ TX ys)⟩ [row1] := e_2 (e_2 v5 rfl a2) v4 a3
    show lstX _ (V m scr (.sh (nD (y0 :: ys))) (.sh (.str (TX (y0 :: ys)))) (.sh (.str (TX ys))) (.sh (.str w)) .un .un) [row1] = _
    simp only [lstX, lcons, lnil, con, Out.bind, v4, o1, o2]
    rfl
  refine s_nx (i_f (e_2 eo rfl (ne_str _ (by decide +kernel))) rfl) (e_ret (r := tt') (e_2 ef rfl ?_))
  kernel_rfl
theorem law2 (scr : Sl) (row : D) (r : RowOk row) : ∃ row', t15_1 (call 12) [scr, .sh (.int 2), .un, .un, .un, .un, .un, .ref 0, .un] [row] = .ok (.ret tt') [row'] := by
  obtain ⟨xs, row1, hl, h, r1, eg⟩ := game2 row r
  obtain ⟨ys, row2, ec, hyl, hyb, r2⟩ := comp_ints2 (tg := tName 8) (t := con (.bl true)) (e := callX (call 12) 7 (aname 7 (aval (lstX (lcons (var 8) (lcons (con (.int 1000)) (lcons (op1 negD (con (.int 1000))) (lcons (con (.int 0)) lnil))))) anil))) (env := [scr, .sh (.int 2), .un, .un, .un, .un, .un, .ref 0, .un]) (fun x => -100 ≤ x ∧ x ≤ 100) (fun v => -1000 ≤ v ∧ v ≤ 1000) (fun x row hx r => by
    obtain ⟨_, ⟨v, rfl, hv⟩, _, row', r', ep⟩ := pick_in (i := 6) (cf := call 11) rfl (d := row) (l := [.int x, .int 1000, .int (-1000), .int 0]) (fun z => ∃ v : Int, z = .int v ∧ (-1000 ≤ v ∧ v ≤ 1000)) r (show 0 < 4 by decide) (show 4 < 1000 by decide) (fun z hz => by
      simp only [List.mem_cons, List.not_mem_nil, or_false] at hz
      rcases hz with rfl | rfl | rfl | rfl <;> refine ⟨_, rfl, ?_⟩ <;> omega)
    exact ⟨_, v, row', rfl, rfl, x_call (a_ref rfl (a_val rfl rfl)) ep, hv, r'⟩) xs row1 h r1
  have hyl2 : ys.length = 3 := hyl.trans hl
  obtain ⟨y0, y1, y2, rfl⟩ := len2 ys hyl2
  obtain ⟨row3, e⟩ := body 2 (.inl rfl) scr row2 y0 [y1, y2] rfl hyb r2 (fun s3 s4 s5 s6 s8 S => by kernel_rfl)
  refine ⟨row3, s_nx (e_set (e_1 (e_comp (e_val (x_call (a_ref rfl (a_sh rfl rfl)) eg) rfl) (by rw [List.length_map, hl]; decide) ec) rfl)) ?_⟩
  exact e
theorem law3 (scr : Sl) (row : D) (r : RowOk row) : ∃ row', t15_1 (call 12) [scr, .sh (.int 3), .un, .un, .un, .un, .un, .ref 0, .un] [row] = .ok (.ret tt') [row'] := by
  obtain ⟨xs, row1, hl, h, r1, eg⟩ := game3 row r
  obtain ⟨ys, row2, ec, hyl, hyb, r2⟩ := comp_ints2 (tg := tName 8) (t := con (.bl true)) (e := callX (call 12) 7 (aname 7 (aval (lstX (lcons (var 8) (lcons (con (.int 1000)) (lcons (op1 negD (con (.int 1000))) (lcons (con (.int 0)) lnil))))) anil))) (env := [scr, .sh (.int 3), .un, .un, .un, .un, .un, .ref 0, .un]) (fun x => -100 ≤ x ∧ x ≤ 100) (fun v => -1000 ≤ v ∧ v ≤ 1000) (fun x row hx r => by
    obtain ⟨_, ⟨v, rfl, hv⟩, _, row', r', ep⟩ := pick_in (i := 6) (cf := call 11) rfl (d := row) (l := [.int x, .int 1000, .int (-1000), .int 0]) (fun z => ∃ v : Int, z = .int v ∧ (-1000 ≤ v ∧ v ≤ 1000)) r (show 0 < 4 by decide) (show 4 < 1000 by decide) (fun z hz => by
      simp only [List.mem_cons, List.not_mem_nil, or_false] at hz
      rcases hz with rfl | rfl | rfl | rfl <;> refine ⟨_, rfl, ?_⟩ <;> omega)
    exact ⟨_, v, row', rfl, rfl, x_call (a_ref rfl (a_val rfl rfl)) ep, hv, r'⟩) xs row1 h r1
  have hyl2 : ys.length = 7 := hyl.trans hl
  obtain ⟨y0, y1, y2, y3, y4, y5, y6, rfl⟩ := len3 ys hyl2
  obtain ⟨row3, e⟩ := body 3 (.inr (.inl rfl)) scr row2 y0 [y1, y2, y3, y4, y5, y6] rfl hyb r2 (fun s3 s4 s5 s6 s8 S => by kernel_rfl)
  refine ⟨row3, s_nx (e_set (e_1 (e_comp (e_val (x_call (a_ref rfl (a_sh rfl rfl)) eg) rfl) (by rw [List.length_map, hl]; decide) ec) rfl)) ?_⟩
  exact e
theorem law4 (scr : Sl) (row : D) (r : RowOk row) : ∃ row', t15_1 (call 12) [scr, .sh (.int 4), .un, .un, .un, .un, .un, .ref 0, .un] [row] = .ok (.ret tt') [row'] := by
  obtain ⟨xs, row1, hl, h, r1, eg⟩ := game4 row r
  obtain ⟨ys, row2, ec, hyl, hyb, r2⟩ := comp_ints2 (tg := tName 8) (t := con (.bl true)) (e := callX (call 12) 7 (aname 7 (aval (lstX (lcons (var 8) (lcons (con (.int 1000)) (lcons (op1 negD (con (.int 1000))) (lcons (con (.int 0)) lnil))))) anil))) (env := [scr, .sh (.int 4), .un, .un, .un, .un, .un, .ref 0, .un]) (fun x => -100 ≤ x ∧ x ≤ 100) (fun v => -1000 ≤ v ∧ v ≤ 1000) (fun x row hx r => by
    obtain ⟨_, ⟨v, rfl, hv⟩, _, row', r', ep⟩ := pick_in (i := 6) (cf := call 11) rfl (d := row) (l := [.int x, .int 1000, .int (-1000), .int 0]) (fun z => ∃ v : Int, z = .int v ∧ (-1000 ≤ v ∧ v ≤ 1000)) r (show 0 < 4 by decide) (show 4 < 1000 by decide) (fun z hz => by
      simp only [List.mem_cons, List.not_mem_nil, or_false] at hz
      rcases hz with rfl | rfl | rfl | rfl <;> refine ⟨_, rfl, ?_⟩ <;> omega)
    exact ⟨_, v, row', rfl, rfl, x_call (a_ref rfl (a_val rfl rfl)) ep, hv, r'⟩) xs row1 h r1
  have hyl2 : ys.length = 15 := hyl.trans hl
  obtain ⟨y0, y1, y2, y3, y4, y5, y6, y7, y8, y9, y10, y11, y12, y13, y14, rfl⟩ := len4 ys hyl2
  obtain ⟨row3, e⟩ := body 4 (.inr (.inr rfl)) scr row2 y0 [y1, y2, y3, y4, y5, y6, y7, y8, y9, y10, y11, y12, y13, y14] rfl hyb r2 (fun s3 s4 s5 s6 s8 S => by kernel_rfl)
  refine ⟨row3, s_nx (e_set (e_1 (e_comp (e_val (x_call (a_ref rfl (a_sh rfl rfl)) eg) rfl) (by rw [List.length_map, hl]; decide) ec) rfl)) ?_⟩
  exact e
theorem law_ok (ns : List Int) : ∃ S, call (deep + 1) 15 [.sh (.ro (scrD ns))] [] = .ok ⟨false, .bl true⟩ S := by
  obtain ⟨v, row1, r1, v0, v1, ev⟩ := taken_ok (m := 3) (row_new ns 15668) (by decide) (by decide)
  have fin : ∀ m row2, m = 2 + v → t15_1 (call 12) [.sh (.ro (scrD ns)), .sh (.int m), .un, .un, .un, .un, .un, .ref 0, .un] [row1] = .ok (.ret tt') [row2] → ∃ S, call (deep + 1) 15 [.sh (.ro (scrD ns))] [] = .ok ⟨false, .bl true⟩ S := fun m row2 hm h => by
    subst hm
    exact ⟨_, f_ret (a := cellS 7 (lstX (lcons (var 0) (lcons (con (.int 0)) (lcons (con (.int 15668)) (lcons (con (.int 0)) lnil))))) (t15_0 (call 12))) (m := 9) (as := [.sh (.ro (scrD ns))]) (e_cell (S1 := []) (d := .lst [.ro (scrD ns), .int 0, .int 15668, .int 0]) rfl rfl (s_nx (e_set (e_2 (S1 := [.lst [.ro (scrD ns), .int 0, .int 15668, .int 0]]) rfl (x_call (a_ref rfl (a_val rfl rfl)) ev) rfl)) h))⟩
  have hv : v = 0 ∨ v = 1 ∨ v = 2 := by omega
  rcases hv with rfl | rfl | rfl
  · obtain ⟨row2, h⟩ := law2 (.sh (.ro (scrD ns))) row1 r1
    exact fin 2 row2 rfl h
  · obtain ⟨row2, h⟩ := law3 (.sh (.ro (scrD ns))) row1 r1
    exact fin 3 row2 rfl h
  · obtain ⟨row2, h⟩ := law4 (.sh (.ro (scrD ns))) row1 r1
    exact fin 4 row2 rfl h
end Lk08
theorem PySem.Challenge.cw_worthshares_k08_whole_texts_holds : PySem.Challenge.rw_worthshares_k08_whole_texts.Holds :=
  holds_of fun ns _ => Lk08.law_ok ns
