import PyProof.Rows.All
import Wide.All
import OpenK.AllK
import Wide.FinOn
import PySem.Challenge.RW_worthshares_k01_whole_rules
import HandS.ForMost
import HandS.WordsExc
import HandS.Walk
import HandS.DictComp
import HandS.Zip
import HandS.Conv
import HandS.TupAny
import HandS.Deep
import HandS.IsInst
import KE.SortData
import KE.KDictZip
import KE.KDictKeyed
import HandS.Star
import KE.GoesZip
import KE.GoesMore
import HandS.Wide
import PyProof.Rows.InDataRows
import PyProof.ListNew
import KE.KDictDisplayH
import KE.KDictCopyH
import HandS.Style
import HandS.HeadEnd
import HandS.Defaults
import HandS.Head0
import HandS.Head1
import HandS.Head2
import HandS.HeadHook1
import HandS.HeadHook2
import HandS.Ends
import KE.KDictWalk
import KE.KPairComp
set_option Elab.async false
set_option linter.all false
set_option maxRecDepth 100000
set_option Elab.async false
set_option linter.all false
set_option maxRecDepth 100000
namespace Pv
open PySem PySem.Spec PyProof.Rows L2

/-! ### values of any depth, what an evaluation gives -/
inductive D where
  | non | bl (b : Bool) | int (i : Int) | str (s : Str) | tup (l : List D) | lst (l : List D) | ro (l : List D) | rt (l : List D)
  | dK (l : List (Key × D)) | dT (l : List (List Key × D)) | obj (c : Nat) (l : List D)
  deriving Inhabited

/-- a slot: no value, a value for good, a list or dict of the def's own, the same while a loop walks it, a shared cell -/
inductive Sl where
  | un | sh (d : D) | own (d : D) | lk (d : D) | ref (n : Nat)
  deriving Inhabited
inductive Arg where
  | sh (d : D) | ref (n : Nat)
  deriving Inhabited
def Arg.sl : Arg → Sl
  | .sh d => .sh d
  | .ref n => .ref n
/-- what an expression gives: fr: a new list or dict that nobody else holds -/
structure R where
  fr : Bool
  d : D
  deriving Inhabited
abbrev Sto := List D
inductive Out (α : Type) where
  | ok (a : α) (S : Sto) | exc (c : Nat) (fs : List D) (S : Sto) | bad
def Out.bind {α β : Type} (o : Out α) (f : α → Sto → Out β) : Out β := match o with
  | .ok a S => f a S
  | .exc c fs S => .exc c fs S
  | .bad => .bad
abbrev SEnv := List Sl
abbrev Ex := SEnv → Sto → Out R
abbrev Ax := SEnv → Sto → Out (List Arg)
abbrev Ix := SEnv → Sto → Out (List D)
inductive Fl where
  | nx (e : SEnv) | ret (r : R)
abbrev Sx := SEnv → Sto → Out Fl
def Out.post {α : Type} (o : Out α) (Q : α → Sto → Prop) (E : Nat → List D → Sto → Prop) : Prop := match o with
  | .ok a S => Q a S
  | .exc c fs S => E c fs S
  | .bad => False
theorem post_bind {α β : Type} {o : Out α} {f : α → Sto → Out β} {Q : β → Sto → Prop} {E : Nat → List D → Sto → Prop} : (o.bind f).post Q E ↔ o.post (fun a S => (f a S).post Q E) E := by
  cases o <;> exact Iff.rfl
theorem post_mono {α : Type} {o : Out α} {Q Q' : α → Sto → Prop} {E E' : Nat → List D → Sto → Prop} (h : o.post Q E) (hQ : ∀ a S, Q a S → Q' a S) (hE : ∀ c fs S, E c fs S → E' c fs S) : o.post Q' E' := by
  cases o with
  | ok a S => exact hQ _ _ h
  | exc c fs S => exact hE _ _ _ h
  | bad => exact h

/-! ### how a value lies in the heap; P: what is there for good -/
mutual
inductive Rep (K : PySem.W.Frag) (G : Nat → Option (Addr × List Str)) (P : Hp) : D → V → Prop
  | non : Rep K G P .non .non
  | bl (b : Bool) : Rep K G P (.bl b) (.bl b)
  | int (i : Int) : Rep K G P (.int i) (.int i)
  | str (s : Str) : Rep K G P (.str s) (.str s)
  | tup {a : Addr} {xs : List V} {l : List D} : P a = some (.tup xs) → Reps K G P l xs → Rep K G P (.tup l) (.ref a)
  | rt {a : Addr} {xs : List V} {l : List D} : SqT K P a xs → Reps K G P l xs → Rep K G P (.rt l) (.ref a)
  | lst {a : Addr} {xs : List V} {l : List D} : P a = some (.lst xs) → Reps K G P l xs → Rep K G P (.lst l) (.ref a)
  | ro {a : Addr} {xs : List V} {l : List D} : SqL K P a xs → Reps K G P l xs → Rep K G P (.ro l) (.ref a)
  | dK {a : Addr} {kvs : List (Key × V)} {l : List (Key × D)} : P a = some (.dK kvs) → RepK K G P l kvs → Rep K G P (.dK l) (.ref a)
  | dT {a : Addr} {kvs : List (List Key × V)} {l : List (List Key × D)} : P a = some (.dT kvs) → RepT K G P l kvs → Rep K G P (.dT l) (.ref a)
  | obj {a C dx : Addr} {fs : List (Str × V)} {ns : List Str} {c : Nat} {l : List D} : P a = some (.ins C dx fs) → G c = some (C, ns) → fs.map (·.1) = ns → Reps K G P l (fs.map (·.2)) → Rep K G P (.obj c l) (.ref a)
inductive Reps (K : PySem.W.Frag) (G : Nat → Option (Addr × List Str)) (P : Hp) : List D → List V → Prop
  | nil : Reps K G P [] []
  | cons {d : D} {v : V} {l : List D} {xs : List V} : Rep K G P d v → Reps K G P l xs → Reps K G P (d :: l) (v :: xs)
inductive RepK (K : PySem.W.Frag) (G : Nat → Option (Addr × List Str)) (P : Hp) : List (Key × D) → List (Key × V) → Prop
  | nil : RepK K G P [] []
  | cons {k : Key} {d : D} {v : V} {l : List (Key × D)} {xs : List (Key × V)} : Rep K G P d v → RepK K G P l xs → RepK K G P ((k, d) :: l) ((k, v) :: xs)
inductive RepT (K : PySem.W.Frag) (G : Nat → Option (Addr × List Str)) (P : Hp) : List (List Key × D) → List (List Key × V) → Prop
  | nil : RepT K G P [] []
  | cons {k : List Key} {d : D} {v : V} {l : List (List Key × D)} {xs : List (List Key × V)} : Rep K G P d v → RepT K G P l xs → RepT K G P ((k, d) :: l) ((k, v) :: xs)
end
section
variable {K : PySem.W.Frag} {G : Nat → Option (Addr × List Str)} {P P' H H' : Hp}
theorem same_sqT {a : Addr} {xs : List V} (e : Same P P') (h : SqT K P a xs) : SqT K P' a xs := by
  rcases h with (h | ⟨o, h⟩) | h
  · exact .inl (.inl (e _ _ h))
  · exact .inl (.inr ⟨o, e _ _ h⟩)
  · exact .inr h
mutual
theorem Rep.mono (e : Same P P') : ∀ {d : D} {v : V}, Rep K G P d v → Rep K G P' d v
  | _, _, .non => .non
  | _, _, .bl b => .bl b
  | _, _, .int b => .int b
  | _, _, .str b => .str b
  | _, _, .tup h r => .tup (e _ _ h) (Reps.mono e r)
  | _, _, .rt h r => .rt (same_sqT e h) (Reps.mono e r)
  | _, _, .lst h r => .lst (e _ _ h) (Reps.mono e r)
  | _, _, .ro h r => .ro (e.seq h) (Reps.mono e r)
  | _, _, .dK h r => .dK (e _ _ h) (RepK.mono e r)
  | _, _, .dT h r => .dT (e _ _ h) (RepT.mono e r)
  | _, _, .obj h g n r => .obj (e _ _ h) g n (Reps.mono e r)
theorem Reps.mono (e : Same P P') : ∀ {d : List D} {v : List V}, Reps K G P d v → Reps K G P' d v
  | _, _, .nil => .nil
  | _, _, .cons h r => .cons (Rep.mono e h) (Reps.mono e r)
theorem RepK.mono (e : Same P P') : ∀ {d : List (Key × D)} {v : List (Key × V)}, RepK K G P d v → RepK K G P' d v
  | _, _, .nil => .nil
  | _, _, .cons h r => .cons (Rep.mono e h) (RepK.mono e r)
theorem RepT.mono (e : Same P P') : ∀ {d : List (List Key × D)} {v : List (List Key × V)}, RepT K G P d v → RepT K G P' d v
  | _, _, .nil => .nil
  | _, _, .cons h r => .cons (Rep.mono e h) (RepT.mono e r)
end
theorem Reps.length : ∀ {l : List D} {xs : List V}, Reps K G P l xs → l.length = xs.length
  | _, _, .nil => rfl
  | _, _, .cons _ r => congrArg (· + 1) (Reps.length r)
theorem Reps.get : ∀ {l : List D} {xs : List V} {i : Nat} {d : D}, Reps K G P l xs → l[i]? = some d → ∃ v, xs[i]? = some v ∧ Rep K G P d v
  | _, _, _, _, .nil, e => by simp at e
  | _, _, 0, _, .cons h r, e => by simp at e; subst e; exact ⟨_, rfl, h⟩
  | _, _, i + 1, d, .cons h r, e => by
    obtain ⟨v, h1, h2⟩ := Reps.get (i := i) (d := d) r (by simpa using e)
    exact ⟨v, by simpa using h1, h2⟩
theorem Reps.getV : ∀ {l : List D} {xs : List V} {i : Nat} {v : V}, Reps K G P l xs → xs[i]? = some v → ∃ d, l[i]? = some d ∧ Rep K G P d v
  | _, _, _, _, .nil, e => by simp at e
  | _, _, 0, _, .cons h r, e => by simp at e; subst e; exact ⟨_, rfl, h⟩
  | _, _, i + 1, d, .cons h r, e => by
    obtain ⟨v, h1, h2⟩ := Reps.getV (i := i) (v := d) r (by simpa using e)
    exact ⟨v, by simpa using h1, h2⟩
theorem Reps.append : ∀ {l l' : List D} {xs xs' : List V}, Reps K G P l xs → Reps K G P l' xs' → Reps K G P (l ++ l') (xs ++ xs')
  | _, _, _, _, .nil, s => s
  | _, _, _, _, .cons h r, s => .cons h (Reps.append r s)
theorem Reps.take : ∀ {l : List D} {xs : List V} (n : Nat), Reps K G P l xs → Reps K G P (l.take n) (xs.take n)
  | _, _, 0, _ => .nil
  | _, _, _ + 1, .nil => .nil
  | _, _, n + 1, .cons h r => .cons h (Reps.take n r)
theorem Reps.drop : ∀ {l : List D} {xs : List V} (n : Nat), Reps K G P l xs → Reps K G P (l.drop n) (xs.drop n)
  | _, _, 0, r => r
  | _, _, _ + 1, .nil => .nil
  | _, _, n + 1, .cons h r => Reps.drop n r
theorem Reps.set {d : D} {v : V} (h : Rep K G P d v) : ∀ {l : List D} {xs : List V} (n : Nat), Reps K G P l xs → Reps K G P (l.set n d) (xs.set n v)
  | _, _, _, .nil => .nil
  | _, _, 0, .cons _ r => .cons h r
  | _, _, n + 1, .cons g r => .cons g (Reps.set h n r)
theorem RepK.length : ∀ {l : List (Key × D)} {xs : List (Key × V)}, RepK K G P l xs → l.length = xs.length
  | _, _, .nil => rfl
  | _, _, .cons _ r => congrArg (· + 1) (RepK.length r)
theorem RepT.length : ∀ {l : List (List Key × D)} {xs : List (List Key × V)}, RepT K G P l xs → l.length = xs.length
  | _, _, .nil => rfl
  | _, _, .cons _ r => congrArg (· + 1) (RepT.length r)

/-- what is there for good stands in the heap (a dict: perhaps locked) -/
def IsDic : HO → Prop
  | .dK _ => True
  | .dT _ => True
  | _ => False
def Le (P H : Hp) : Prop := ∀ a u, P a = some u → H a = some u ∨ (IsDic u ∧ ∃ o, H a = some (.frz o u))
theorem Le.none {a : Addr} (l : Le P H) (h : H a = none) : P a = none := by
  cases q : P a with
  | none => rfl
  | some u =>
    rcases l a u q with e | ⟨_, o, e⟩ <;> rw [h] at e <;> cases e
theorem Le.sqL {a : Addr} {xs : List V} (l : Le P H) (h : SqL K P a xs) : SqL K H a xs := by
  rcases h with (h | ⟨o, h⟩) | h
  · rcases l _ _ h with e | ⟨m, _⟩
    · exact .inl (.inl e)
    · exact m.elim
  · rcases l _ _ h with e | ⟨m, _⟩
    · exact .inl (.inr ⟨o, e⟩)
    · exact m.elim
  · exact .inr h
theorem Le.lst {a : Addr} {xs : List V} (l : Le P H) (h : P a = some (.lst xs)) : H a = some (.lst xs) := by
  rcases l _ _ h with e | ⟨m, _⟩
  · exact e
  · exact m.elim
theorem Le.tup {a : Addr} {xs : List V} (l : Le P H) (h : P a = some (.tup xs)) : H a = some (.tup xs) := by
  rcases l _ _ h with e | ⟨m, _⟩
  · exact e
  · exact m.elim
theorem Le.sqT {a : Addr} {xs : List V} (l : Le P H) (h : SqT K P a xs) : SqT K H a xs := by
  rcases h with (h | ⟨o, h⟩) | h
  · rcases l _ _ h with e | ⟨m, _⟩
    · exact .inl (.inl e)
    · exact m.elim
  · rcases l _ _ h with e | ⟨m, _⟩
    · exact .inl (.inr ⟨o, e⟩)
    · exact m.elim
  · exact .inr h
theorem Le.rd {a : Addr} {u : HO} (l : Le P H) (h : P a = some u) : Rd H a u := by
  rcases l _ _ h with e | ⟨_, o, e⟩
  · exact .inl e
  · exact .inr ⟨o, e⟩

/-- a list or dict that may be written: the root at a, its parts for good -/
inductive Root (K : PySem.W.Frag) (G : Nat → Option (Addr × List Str)) (P H : Hp) : D → Addr → Prop
  | lst {a : Addr} {xs : List V} {l : List D} : H a = some (.lst xs) → Reps K G P l xs → Root K G P H (.lst l) a
  | dK {a : Addr} {kvs : List (Key × V)} {l : List (Key × D)} : H a = some (.dK kvs) → RepK K G P l kvs → Root K G P H (.dK l) a
  | dT {a : Addr} {kvs : List (List Key × V)} {l : List (List Key × D)} : H a = some (.dT kvs) → RepT K G P l kvs → Root K G P H (.dT l) a
theorem Root.there {d : D} {a : Addr} (r : Root K G P H d a) : ∃ u, H a = some u ∧ Mut (some u) := by
  cases r with
  | lst h _ => exact ⟨_, h, trivial⟩
  | dK h _ => exact ⟨_, h, trivial⟩
  | dT h _ => exact ⟨_, h, trivial⟩
theorem Root.mono {d : D} {a : Addr} (r : Root K G P H d a) (e : Same P P') (k : ∀ u, H a = some u → H' a = some u) : Root K G P' H' d a := by
  cases r with
  | lst h r => exact .lst (k _ h) (r.mono e)
  | dK h r => exact .dK (k _ h) (r.mono e)
  | dT h r => exact .dT (k _ h) (r.mono e)
/-- the root laid down for good -/
theorem Root.rep {d : D} {a : Addr} (r : Root K G P H d a) (n : P a = none) : ∃ u, H a = some u ∧ Mut (some u) ∧ Rep K G (upd P a u) d (.ref a) := by
  have sm : ∀ u, Same P (upd P a u) := fun u b o e => by rw [upd_ne (ne_of_none e n)]; exact e
  cases r with
  | lst h r => exact ⟨_, h, trivial, .lst upd_same (r.mono (sm _))⟩
  | dK h r => exact ⟨_, h, trivial, .dK upd_same (r.mono (sm _))⟩
  | dT h r => exact ⟨_, h, trivial, .dT upd_same (r.mono (sm _))⟩

/-! ### a step from (P, H) to (P', H'): cells at ρ may be written, all else stays -/
structure Step (ρ : List Addr) (P H P' H' : Hp) : Prop where
  le : Le P' H'
  pp : Same P P'
  hh : ∀ a u, H a = some u → a ∉ ρ → H' a = some u
  dom : ∀ a, H' a = none → H a = none
  new : ∀ a u, a ∉ ρ → P a = none → H a = some u → (∀ xs, u ≠ .tup xs) → P' a = none
  cel : ∀ a ∈ ρ, P a = none → P' a = none
theorem Step.refl {ρ : List Addr} (l : Le P H) : Step ρ P H P H := ⟨l, Same.refl P, fun _ _ e _ => e, fun _ e => e, fun _ _ _ n _ _ => n, fun _ _ n => n⟩
theorem Step.trans {ρ : List Addr} {P1 H1 P2 H2 : Hp} (a : Step ρ P H P1 H1) (b : Step ρ P1 H1 P2 H2) : Step ρ P H P2 H2 :=
  ⟨b.le, a.pp.trans b.pp, fun c u e n => b.hh c u (a.hh c u e n) n, fun c e => a.dom c (b.dom c e),
    fun c u m n e t => b.new c u m (a.new c u m n e t) (a.hh c u e m) t, fun c m n => b.cel c m (a.cel c m n)⟩
/-- a new object, not yet for good -/
theorem Step.alloc {ρ : List Addr} {p : Addr} {o : HO} (l : Le P H) (n : H p = none) : Step ρ P H P (upd H p o) :=
  ⟨fun a u e => by
      have ne : a ≠ p := fun z => by subst z; rw [l.none n] at e; cases e
      rw [upd_ne ne]; exact l a u e,
    Same.refl P, fun a u e _ => by rw [upd_ne (ne_of_none e n)]; exact e, fun a e => by
      by_cases z : a = p
      · subst z; exact n
      · rw [upd_ne z] at e; exact e,
    fun _ _ _ q _ _ => q, fun _ _ q => q⟩
/-- a new object laid down for good -/
theorem Step.lay {ρ : List Addr} {p : Addr} {o : HO} (l : Le P H) (n : H p = none) (np : p ∉ ρ) : Step ρ P H (upd P p o) (upd H p o) :=
  ⟨fun a u e => by
      by_cases z : a = p
      · subst z; rw [upd_same] at e ⊢; exact .inl e
      · rw [upd_ne z] at e ⊢; exact l a u e,
    fun a u e => by rw [upd_ne (ne_of_none e (l.none n))]; exact e, fun a u e _ => by rw [upd_ne (ne_of_none e n)]; exact e, fun a e => by
      by_cases z : a = p
      · subst z; exact n
      · rw [upd_ne z] at e; exact e,
    fun a u _ q e _ => by rw [upd_ne (ne_of_none e n)]; exact q,
    fun a m q => by rw [upd_ne (show a ≠ p from fun z => np (by rw [← z]; exact m))]; exact q⟩
/-- a new object that stands is laid down for good -/
theorem Step.freeze {ρ : List Addr} {P1 H1 : Hp} {p : Addr} {o : HO} (s : Step ρ P H P1 H1) (n : H p = none) (np : p ∉ ρ) (n1 : P1 p = none) (e1 : H1 p = some o) : Step ρ P H (upd P1 p o) H1 :=
  ⟨fun a u e => by
      by_cases z : a = p
      · subst z; rw [upd_same] at e; cases e; exact .inl e1
      · rw [upd_ne z] at e; exact s.le a u e,
    fun a u e => by
      have ne : a ≠ p := fun z => by subst z; rw [s.pp _ _ e] at n1; cases n1
      rw [upd_ne ne]; exact s.pp a u e, s.hh, s.dom,
    fun a u m q e t => by rw [upd_ne (ne_of_none e n)]; exact s.new a u m q e t,
    fun a m q => by rw [upd_ne (show a ≠ p from fun z => np (by rw [← z]; exact m))]; exact s.cel a m q⟩
/-- a tuple that stands is laid down for good -/
theorem Step.tup {ρ : List Addr} {p : Addr} {xs : List V} (l : Le P H) (np : p ∉ ρ) (e1 : H p = some (.tup xs)) : Step ρ P H (upd P p (.tup xs)) H :=
  ⟨fun a u e => by
      by_cases z : a = p
      · subst z; rw [upd_same] at e; cases e; exact .inl e1
      · rw [upd_ne z] at e; exact l a u e,
    fun a u e => by
      by_cases z : a = p
      · subst z
        rw [upd_same]
        rcases l a u e with q | ⟨_, o, q⟩
        · rw [e1] at q; exact q
        · rw [e1] at q; cases q
      · rw [upd_ne z]; exact e, fun _ _ e _ => e, fun _ e => e,
    fun a u m q e t => by
      have ne : a ≠ p := fun z => by subst z; rw [e1] at e; cases e; exact t _ rfl
      rw [upd_ne ne]; exact q,
    fun a m q => by rw [upd_ne (show a ≠ p from fun z => np (by rw [← z]; exact m))]; exact q⟩

/-! ### the cells -/
structure StoOk (K : PySem.W.Frag) (G : Nat → Option (Addr × List Str)) (ρ : List Addr) (P H : Hp) (S : Sto) : Prop where
  len : ρ.length = S.length
  nd : ρ.Nodup
  at_ : ∀ (n : Nat) (d : D), S[n]? = some d → ∃ a, ρ[n]? = some a ∧ P a = none ∧ Root K G P H d a
theorem StoOk.mem {ρ : List Addr} {S : Sto} (s : StoOk K G ρ P H S) {a : Addr} (h : a ∈ ρ) : P a = none ∧ ∃ u, H a = some u ∧ Mut (some u) := by
  obtain ⟨n, hn, e⟩ := List.getElem_of_mem h
  have hS : n < S.length := by rw [← s.len]; exact hn
  obtain ⟨b, hb, pb, r⟩ := s.at_ n S[n] (List.getElem?_eq_getElem hS)
  rw [List.getElem?_eq_getElem hn] at hb
  have hb' : ρ[n] = b := Option.some.inj hb
  rw [e] at hb'
  subst hb'
  exact ⟨pb, r.there⟩
theorem StoOk.new {ρ : List Addr} {S : Sto} (s : StoOk K G ρ P H S) {a : Addr} (h : H a = none) : a ∉ ρ := fun m => by
  obtain ⟨_, u, e, _⟩ := s.mem m
  rw [h] at e; cases e
theorem StoOk.inP {ρ : List Addr} {S : Sto} (s : StoOk K G ρ P H S) {a : Addr} {u : HO} (h : P a = some u) : a ∉ ρ := fun m => by
  obtain ⟨e, _⟩ := s.mem m
  rw [h] at e; cases e
/-- a step that writes no cell -/
theorem StoOk.step {ρ : List Addr} {S : Sto} (s : StoOk K G ρ P H S) (st : Step ρ P H P' H') (k : ∀ a ∈ ρ, ∀ u, H a = some u → H' a = some u) : StoOk K G ρ P' H' S :=
  ⟨s.len, s.nd, fun n d e => by
    obtain ⟨a, ha, pa, r⟩ := s.at_ n d e
    exact ⟨a, ha, st.cel a (List.mem_of_getElem? ha) pa, r.mono st.pp (k a (List.mem_of_getElem? ha))⟩⟩
theorem StoOk.alloc {ρ : List Addr} {S : Sto} {p : Addr} {o : HO} (s : StoOk K G ρ P H S) (l : Le P H) (n : H p = none) : StoOk K G ρ P (upd H p o) S :=
  s.step (Step.alloc l n) fun a m u e => by rw [upd_ne (ne_of_none e n)]; exact e
theorem StoOk.lay {ρ : List Addr} {S : Sto} {p : Addr} {o : HO} (s : StoOk K G ρ P H S) (l : Le P H) (n : H p = none) : StoOk K G ρ (upd P p o) (upd H p o) S :=
  s.step (Step.lay l n (s.new n)) fun a m u e => by rw [upd_ne (ne_of_none e n)]; exact e
theorem StoOk.freeze {ρ : List Addr} {S : Sto} {p : Addr} {o : HO} (s : StoOk K G ρ P H S) (n : p ∉ ρ) (n1 : P p = none) : StoOk K G ρ (upd P p o) H S :=
  ⟨s.len, s.nd, fun i d e => by
    obtain ⟨a, ha, pa, r⟩ := s.at_ i d e
    have ne : a ≠ p := fun z => n (z ▸ List.mem_of_getElem? ha)
    exact ⟨a, ha, by rw [upd_ne ne]; exact pa, r.mono (fun b u e => by rw [upd_ne (ne_of_none e n1)]; exact e) fun _ e => e⟩⟩

/-! ### what an expression gives -/
def RepR (K : PySem.W.Frag) (G : Nat → Option (Addr × List Str)) (H P' H' : Hp) (r : R) (v : V) : Prop :=
  if r.fr = true then ∃ a, v = .ref a ∧ H a = none ∧ P' a = none ∧ Root K G P' H' r.d a else Rep K G P' r.d v
theorem RepR.sh {P' H' : Hp} {d : D} {v : V} (h : Rep K G P' d v) : RepR K G H P' H' ⟨false, d⟩ v := h
theorem RepR.frz {ρ : List Addr} {S : Sto} {P' H' : Hp} {r : R} {v : V} (h : RepR K G H P' H' r v) (st : Step ρ P H P' H') (so : StoOk K G ρ P' H' S) (so0 : ∀ a, H a = none → a ∉ ρ) :
    ∃ P2, Step ρ P H P2 H' ∧ StoOk K G ρ P2 H' S ∧ Same P' P2 ∧ Rep K G P2 r.d v := by
  unfold RepR at h
  split at h
  · obtain ⟨a, rfl, n, n1, ro⟩ := h
    obtain ⟨u, hu, _, rp⟩ := ro.rep n1
    exact ⟨upd P' a u, st.freeze n (so0 a n) n1 hu, so.freeze (so0 a n) n1, fun b o e => by rw [upd_ne (ne_of_none e n1)]; exact e, rp⟩
  · exact ⟨P', st, so, Same.refl _, h⟩
end
end Pv

set_option Elab.async false
set_option linter.all false
set_option maxRecDepth 100000
namespace Pv
open PySem PySem.Spec PyProof.Rows L2

structure Cc where
  K : PySem.W.Frag
  G : Nat → Option (Addr × List Str)
  xc : Nat → Value
  ρ : List Addr
  P0 : Hp
  H0 : Hp
  E : XK

def SlOk (c : Cc) (P H : Hp) : Sl → Option (Option V) → Prop
  | .un, _ => True
  | .sh d, o => ∃ v, o = some (some v) ∧ Rep c.K c.G P d v
  | .own d, o => ∃ a, o = some (some (.ref a)) ∧ P a = none ∧ c.H0 a = none ∧ Root c.K c.G P H d a
  | .lk d, o => ∃ a od u, o = some (some (.ref a)) ∧ P a = none ∧ c.H0 a = none ∧ H a = some (.frz od u) ∧ Root c.K c.G P (upd H a u) d a
  | .ref n, o => ∃ a, o = some (some (.ref a)) ∧ c.ρ[n]? = some a
def Sl.isOwn : Sl → Bool
  | .own _ => true
  | .lk _ => true
  | _ => false
def sget (env : SEnv) (i : Nat) : Sl := env.getD i .un

structure Stt (c : Cc) (P H : Hp) (env : SEnv) (σ : L2.St) (S : Sto) : Prop where
  st : Step c.ρ c.P0 c.H0 P H
  r0 : ∀ a, c.H0 a = none → a ∉ c.ρ
  so : StoOk c.K c.G c.ρ P H S
  ln : env.length = σ.length
  sl : ∀ i : Nat, SlOk c P H (sget env i) (σ[i]?)
  dj : ∀ (i j : Nat) (a : Addr), (sget env i).isOwn = true → (sget env j).isOwn = true → σ[i]? = some (some (.ref a)) → σ[j]? = some (some (.ref a)) → i = j

section
variable {c : Cc} {P H P1 H1 : Hp} {env : SEnv} {σ : L2.St} {S S1 : Sto}
theorem Stt.le (s : Stt c P H env σ S) : Le P H := s.st.le
theorem own_kept (r0 : ∀ a, c.H0 a = none → a ∉ c.ρ) (st : Step c.ρ P H P1 H1) {a : Addr} {u : HO} (h0 : c.H0 a = none) (hp : P a = none) (hu : H a = some u) (ht : ∀ xs, u ≠ .tup xs) : P1 a = none ∧ H1 a = some u :=
  ⟨st.new a u (r0 a h0) hp hu ht, st.hh a u hu (r0 a h0)⟩
theorem SlOk.step {s : Sl} {o : Option (Option V)} (r0 : ∀ a, c.H0 a = none → a ∉ c.ρ) (st : Step c.ρ P H P1 H1) (h : SlOk c P H s o) : SlOk c P1 H1 s o := by
  cases s with
  | un => trivial
  | sh d => obtain ⟨v, e, r⟩ := h; exact ⟨v, e, r.mono st.pp⟩
  | own d =>
    obtain ⟨a, e, hp, h0, r⟩ := h
    obtain ⟨u, hu, mu⟩ := r.there
    obtain ⟨q1, q2⟩ := own_kept r0 st h0 hp hu (fun xs z => by subst z; exact mu)
    exact ⟨a, e, q1, h0, r.mono st.pp fun w hw => by rw [hu] at hw; cases hw; exact q2⟩
  | lk d =>
    obtain ⟨a, od, u, e, hp, h0, hf, r⟩ := h
    obtain ⟨q1, q2⟩ := own_kept r0 st h0 hp hf (fun xs z => nomatch z)
    exact ⟨a, od, u, e, q1, h0, q2, r.mono st.pp fun w hw => by rw [upd_same] at hw ⊢; exact hw⟩
  | ref n => exact h
theorem Stt.step (s : Stt c P H env σ S) (st : Step c.ρ P H P1 H1) (so : StoOk c.K c.G c.ρ P1 H1 S1) : Stt c P1 H1 env σ S1 :=
  ⟨s.st.trans st, s.r0, so, s.ln, fun i => (s.sl i).step s.r0 st, s.dj⟩
theorem Stt.new0 (s : Stt c P H env σ S) : ∀ a, H a = none → a ∉ c.ρ := fun a h => s.r0 a (s.st.dom a h)

/-! ### what is wanted of an evaluation's end -/
def ExcAt (c : Cc) (P' H' : Hp) (cl : Nat) (fs : List D) (C : Value) (d : Option Addr) : Prop :=
  C = c.xc cl ∧ (match fs with
    | [] => d = none
    | _ => ∃ dx l, d = some dx ∧ H' dx = some (.xd l) ∧ Reps c.K c.G P' fs (l.map (·.2)))
def XP (c : Cc) (P H : Hp) : Nat → List D → Sto → Prop := fun cl fs S' => ∀ C d P' H', Step c.ρ P H P' H' → StoOk c.K c.G c.ρ P' H' S' → ExcAt c P' H' cl fs C d → c.E C d H'
def QX (c : Cc) (P H : Hp) (Q : VK) : R → Sto → Prop := fun r S' => ∀ v P' H', Step c.ρ P H P' H' → StoOk c.K c.G c.ρ P' H' S' → RepR c.K c.G H P' H' r v → Q v H'
def PX (c : Cc) (P H : Hp) (Q : VK) (o : Out R) : Prop := o.post (QX c P H Q) (XP c P H)
theorem XP.step (st : Step c.ρ P H P1 H1) {cl : Nat} {fs : List D} {S' : Sto} (h : XP c P H cl fs S') : XP c P1 H1 cl fs S' := fun C d P' H' s so x => h C d P' H' (st.trans s) so x
theorem QX.step {Q : VK} (st : Step c.ρ P H P1 H1) {r : R} {S' : Sto} (h : QX c P H Q r S') : QX c P1 H1 Q r S' := fun v P' H' s so rr => h v P' H' (st.trans s) so (by
  unfold RepR at rr ⊢
  split at rr
  · rename_i hf
    rw [if_pos hf]
    obtain ⟨a, e, n, q⟩ := rr
    exact ⟨a, e, st.dom a n, q⟩
  · rename_i hf
    rw [if_neg hf]
    exact rr)
theorem PX.step {Q : VK} (st : Step c.ρ P H P1 H1) {o : Out R} (h : PX c P H Q o) : PX c P1 H1 Q o := post_mono h (fun _ _ q => q.step st) fun _ _ _ q => q.step st
/-- a value for good, nothing changed -/
theorem PX.ret {Q : VK} {d : D} {v : V} (s : Stt c P H env σ S) (h : PX c P H Q (.ok ⟨false, d⟩ S)) (r : Rep c.K c.G P d v) : Q v H := h v P H (Step.refl s.le) s.so r

/-! ### readings -/
def TEx (c : Cc) (x : Ex) : TE := fun σ H Q => ∃ P env S, Stt c P H env σ S ∧ PX c P H Q (x env S)
theorem tex_bind {x : Ex} {f : R → Sto → Out R} {Q Q' : VK} (s : Stt c P H env σ S) (h : PX c P H Q ((x env S).bind f))
    (k : ∀ r S1 v P1 H1, Step c.ρ P H P1 H1 → Stt c P1 H1 env σ S1 → Rep c.K c.G P1 r.d v → PX c P1 H1 Q (f r S1) → Q' v H1) : TEx c x σ H Q' :=
  ⟨P, env, S, s, post_mono (post_bind.mp h) (fun r S1 q v P1 H1 st so rr => by
    obtain ⟨P2, st2, so2, _, rp⟩ := rr.frz st so s.new0
    exact k r S1 v P2 H1 st2 (s.step st2 so2) rp (PX.step st2 q)) fun _ _ _ q => q⟩
/-- a test -/
def tru (d : D) : Option Bool := match d with
  | .bl b => some b
  | _ => none
def QT (c : Cc) (P H : Hp) (Q : Bool → Hp → Prop) : R → Sto → Prop := fun r S' => ∃ b, r = ⟨false, .bl b⟩ ∧ ∀ P' H', Step c.ρ P H P' H' → StoOk c.K c.G c.ρ P' H' S' → Q b H'
def TTx (c : Cc) (x : Ex) : TT := fun σ H Q => ∃ P env S, Stt c P H env σ S ∧ (x env S).post (QT c P H Q) (XP c P H)
theorem ttx_bind {α : Type} {x : Ex} {f : R → Sto → Out α} {QQ : α → Sto → Prop} {Q' : Bool → Hp → Prop} (s : Stt c P H env σ S) (h : ((x env S).bind f).post QQ (XP c P H)) (hb : ∀ r S1, (f r S1).post QQ (XP c P H) → ∃ b, r = ⟨false, .bl b⟩)
    (k : ∀ b S1 P1 H1, Step c.ρ P H P1 H1 → Stt c P1 H1 env σ S1 → (f ⟨false, .bl b⟩ S1).post QQ (XP c P H) → Q' b H1) : TTx c x σ H Q' :=
  ⟨P, env, S, s, post_mono (post_bind.mp h) (fun r S1 q => by
    obtain ⟨b, rfl⟩ := hb r S1 q
    exact ⟨b, rfl, fun P1 H1 st so => k b S1 P1 H1 st (s.step st so) q⟩) fun _ _ _ q => q⟩
end
theorem pe_imp {X : Cx} {e : Expr} {t t' : TE} (h : PE X e t) (i : ∀ σ H Q, t' σ H Q → t σ H Q) : PE X e t' := ⟨fun pins s σ H Q I w => h.run pins s σ H Q I (i σ H Q w)⟩
theorem pt_imp {X : Cx} {e : Expr} {t t' : TT} (h : PT X e t) (i : ∀ σ H Q, t' σ H Q → t σ H Q) : PT X e t' := ⟨fun pins s σ H Q I w => h.run pins s σ H Q I (i σ H Q w)⟩
theorem pw_imp {X : Cx} {e : Expr} {t t' : TT} (h : PW X e t) (i : ∀ σ H Q, t' σ H Q → t σ H Q) : PW X e t' := ⟨fun whole pins s σ H Q I w => h.run whole pins s σ H Q I (i σ H Q w)⟩
theorem pa_imp {X : Cx} {e : List Expr} {t t' : TA} (h : PA X e t) (i : ∀ σ H Q, t' σ H Q → t σ H Q) : PA X e t' := ⟨fun pos pins s σ H Q I w => h.run pos pins s σ H Q I (i σ H Q w)⟩
theorem ps_imp {X : Cx} {e : Stmt} {t t' : TS} (h : PS X e t) (i : ∀ D σ H, t' D σ H → t D σ H) : PS X e t' := ⟨fun pins s σ H D I w => h.run pins s σ H D I (i D σ H w)⟩
theorem pss_imp {X : Cx} {e : List Stmt} {t t' : TS} (h : PSs X e t) (i : ∀ D σ H, t' D σ H → t D σ H) : PSs X e t' := ⟨fun pins s σ H D I w => h.run pins s σ H D I (i D σ H w)⟩
theorem pi_imp {X : Cx} {tg e : Expr} {t t' : TI} (h : PI X tg e t) (i : ∀ σ H Q, t' σ H Q → t σ H Q) : PI X tg e t' := ⟨fun pins s σ H Q I w => h.run pins s σ H Q I (i σ H Q w)⟩

/-! ### the language: each word a function -/
def var (i : Nat) : Ex := fun env S => match sget env i with
  | .sh d => .ok ⟨false, d⟩ S
  | _ => .bad
def con (d : D) : Ex := fun _ S => .ok ⟨false, d⟩ S
def op2 (f : D → D → Option R) (x y : Ex) : Ex := fun env S => (x env S).bind fun a S => (y env S).bind fun b S => match f a.d b.d with
  | some r => .ok r S
  | none => .bad
def op1 (f : D → Option R) (x : Ex) : Ex := fun env S => (x env S).bind fun a S => match f a.d with
  | some r => .ok r S
  | none => .bad
/-- by truth, of bools -/
def andX (x y : Ex) : Ex := fun env S => (x env S).bind fun a S => match a with
  | ⟨false, .bl true⟩ => y env S
  | ⟨false, .bl false⟩ => .ok ⟨false, .bl false⟩ S
  | _ => .bad
def orX (x y : Ex) : Ex := fun env S => (x env S).bind fun a S => match a with
  | ⟨false, .bl true⟩ => .ok ⟨false, .bl true⟩ S
  | ⟨false, .bl false⟩ => y env S
  | _ => .bad
def notX (x : Ex) : Ex := fun env S => (x env S).bind fun a S => match a with
  | ⟨false, .bl b⟩ => .ok ⟨false, .bl (!b)⟩ S
  | _ => .bad
def iteX (t x y : Ex) : Ex := fun env S => (t env S).bind fun a S => match a with
  | ⟨false, .bl true⟩ => x env S
  | ⟨false, .bl false⟩ => y env S
  | _ => .bad

section
variable {X : Cx} {c : Cc} {a b : Expr} {x y z : Ex} {pos : Pos}
theorem pd_var (i : Nat) {nm : Str} (hN : X.N[i]? = some nm) (hv : Vis X.env.scope nm) (hd : (nm == ("__debug__" : Str)) = false) (hcd : (nm == ("__classdict__" : Str)) = false) : PE X (.Name nm pos) (TEx c (var i)) :=
  pe_imp (pe_var hN hv hd hcd) fun σ H Q ⟨P, env, S, s, h⟩ => by
    unfold var at h
    cases q : sget env i with
    | sh d =>
      rw [q] at h
      have sl := s.sl i
      rw [q] at sl
      obtain ⟨v, e, r⟩ := sl
      exact ⟨v, e, PX.ret s h r⟩
    | _ => rw [q] at h; exact h.elim
theorem pd_con {e : Expr} {v : V} {d : D} (he : PE X e (tC v)) (r : ∀ P, Rep c.K c.G P d v) : PE X e (TEx c (con d)) :=
  pe_imp he fun σ H Q ⟨P, env, S, s, h⟩ => PX.ret s h (r P)
/-- an operator by values -/
def rOp2 (c : Cc) (f : D → D → Option R) : R2 := fun v w H Q => ∃ P S a b r, Le P H ∧ (∀ a, H a = none → a ∉ c.ρ) ∧ StoOk c.K c.G c.ρ P H S ∧ Rep c.K c.G P a v ∧ Rep c.K c.G P b w ∧ f a b = some r ∧ QX c P H Q r S
def rOp1 (c : Cc) (f : D → Option R) : V → Hp → VK → Prop := fun v H Q => ∃ P S a r, Le P H ∧ (∀ a, H a = none → a ∉ c.ρ) ∧ StoOk c.K c.G c.ρ P H S ∧ Rep c.K c.G P a v ∧ f a = some r ∧ QX c P H Q r S
theorem op2_top {f : D → D → Option R} : ∀ σ H Q, TEx c (op2 f x y) σ H Q → tOp (rOp2 c f) (TEx c x) (TEx c y) σ H Q := fun σ H Q ⟨P, env, S, s, h⟩ =>
  tex_bind s h fun r S1 v P1 H1 st1 s1 rp1 h1 => tex_bind s1 h1 fun r2 S2 w P2 H2 st2 s2 rp2 h2 => by
    cases q : f r.d r2.d with
    | none => simp only [q] at h2; exact h2.elim
    | some r3 =>
      simp only [q] at h2
      exact ⟨P2, S2, r.d, r2.d, r3, s2.le, s2.new0, s2.so, rp1.mono st2.pp, rp2, q, h2⟩
theorem op1_top {f : D → Option R} : ∀ σ H Q, TEx c (op1 f x) σ H Q → tUn (rOp1 c f) (TEx c x) σ H Q := fun σ H Q ⟨P, env, S, s, h⟩ =>
  tex_bind s h fun r S1 v P1 H1 st1 s1 rp1 h1 => by
    cases q : f r.d with
    | none => simp only [q] at h1; exact h1.elim
    | some r3 =>
      simp only [q] at h1
      exact ⟨P1, S1, r.d, r3, s1.le, s1.new0, s1.so, rp1, q, h1⟩
theorem pd_bin {op : Operator} {f : D → D → Option R} (ho : OpR X (binaryOp op) (rOp2 c f)) (ha : PE X a (TEx c x)) (hb : PE X b (TEx c y)) : PE X (.BinOp a op b pos) (TEx c (op2 f x y)) := pe_imp (pe_op ho ha hb) op2_top
theorem pd_cmp {op : CmpOp} {f : D → D → Option R} (ho : OpR X (compareOp op) (rOp2 c f)) (ha : PE X a (TEx c x)) (hb : PE X b (TEx c y)) (hm : behindInMarks op b = false) : PE X (.Compare a [op] [b] pos) (TEx c (op2 f x y)) := pe_imp (pe_cmpR ho ha hb hm) op2_top
theorem pd_un {op : UnaryOp} {f : D → Option R} (ho : UnR X (unaryOp op) (rOp1 c f)) (ha : PE X a (TEx c x)) : PE X (.UnaryOp op a pos) (TEx c (op1 f x)) := pe_imp (pe_un ho ha) op1_top
/-- bools only -/
def boolR (f : D → D → Option R) : Prop := ∀ a b r, f a b = some r → ∃ k, r = ⟨false, .bl k⟩
theorem pq_cmp {op : CmpOp} {f : D → D → Option R} (hf : boolR f) (ho : OpR X (compareOp op) (rOp2 c f)) (ha : PE X a (TEx c x)) (hb : PE X b (TEx c y)) (hm : behindInMarks op b = false) : PT X (.Compare a [op] [b] pos) (TTx c (op2 f x y)) :=
  pt_imp (pt_cmpR ho ha hb hm) fun σ H Q ⟨P, env, S, s, h⟩ => op2_top (c := c) (f := f) σ H _ ⟨P, env, S, s, post_bind.mpr (post_mono (post_bind.mp h) (fun r S1 q => post_bind.mpr (post_mono (post_bind.mp q) (fun r2 S2 q2 => by
    cases e : f r.d r2.d with
    | none => simp only [e] at q2 ⊢; exact q2
    | some r3 =>
      simp only [e] at q2 ⊢
      obtain ⟨k, rfl⟩ := hf _ _ _ e
      intro v P' H' st so rr
      obtain ⟨b, eb, w⟩ := q2
      cases eb
      cases rr
      exact ⟨k, rfl, w P' H' st so⟩) fun _ _ _ q => q)) fun _ _ _ q => q)⟩
/-- an expression whose value is a bool, as a test -/
theorem pq_val {e : Expr} (h : PE X e (TEx c x)) (he : ∀ whole, isTrue e X.env whole = (do let v ← whole; standAt e.pos; holding [v] (truthy v))) : PT X e (TTx c x) :=
  pt_imp (pt_val h he) fun σ H Q ⟨P, env, S, s, h⟩ => ⟨P, env, S, s, post_mono h (fun r S1 q v P' H' st so rr => by
    obtain ⟨b, rfl, w⟩ := q
    cases rr
    exact ⟨b, rfl, w P' H' st so⟩) fun _ _ _ q => q⟩
end
end Pv

set_option Elab.async false
set_option linter.all false
set_option maxRecDepth 100000
namespace Pv
open PySem PySem.Spec PyProof.Rows L2

section
variable {c : Cc} {P H P1 H1 : Hp} {env : SEnv} {σ : L2.St} {S S1 : Sto}
theorem tex_bindG {α : Type} {x : Ex} {f : R → Sto → Out α} {QQ : α → Sto → Prop} {Q' : VK} (s : Stt c P H env σ S) (h : ((x env S).bind f).post QQ (XP c P H))
    (k : ∀ r S1 v P1 H1, Step c.ρ P H P1 H1 → Stt c P1 H1 env σ S1 → Rep c.K c.G P1 r.d v → (f r S1).post QQ (XP c P H) → Q' v H1) : TEx c x σ H Q' :=
  ⟨P, env, S, s, post_mono (post_bind.mp h) (fun r S1 q v P1 H1 st so rr => by
    obtain ⟨P2, st2, so2, _, rp⟩ := rr.frz st so s.new0
    exact k r S1 v P2 H1 st2 (s.step st2 so2) rp q) fun _ _ _ q => q⟩
theorem xp_step {α : Type} {o : Out α} {QQ QQ' : α → Sto → Prop} (st : Step c.ρ P H P1 H1) (h : o.post QQ (XP c P H)) (hq : ∀ a S, QQ a S → QQ' a S) : o.post QQ' (XP c P1 H1) := post_mono h hq fun _ _ _ q => q.step st
end

section
variable {X : Cx} {c : Cc} {a b e : Expr} {es : List Expr} {x y z : Ex} {pos : Pos}
/-! ### and, or, not, if .. else -/
theorem bool_eq {r : R} {b : Bool} (h : r = ⟨false, .bl b⟩) : r = ⟨false, .bl b⟩ := h
theorem and_inv {α : Type} {r : R} {g : Out R} {S1 : Sto} {QQ : R → Sto → Prop} {E : Nat → List D → Sto → Prop}
    (h : ((match r with | ⟨false, .bl true⟩ => g | ⟨false, .bl false⟩ => .ok ⟨false, .bl false⟩ S1 | _ => .bad : Out R)).post QQ E) : ∃ b, r = ⟨false, .bl b⟩ := by
  obtain ⟨fr, d⟩ := r
  cases fr with
  | true => exact h.elim
  | false =>
    cases d with
    | bl b => exact ⟨b, rfl⟩
    | _ => exact h.elim
theorem or_inv {r : R} {g : Out R} {S1 : Sto} {QQ : R → Sto → Prop} {E : Nat → List D → Sto → Prop}
    (h : ((match r with | ⟨false, .bl true⟩ => .ok ⟨false, .bl true⟩ S1 | ⟨false, .bl false⟩ => g | _ => .bad : Out R)).post QQ E) : ∃ b, r = ⟨false, .bl b⟩ := by
  obtain ⟨fr, d⟩ := r
  cases fr with
  | true => exact h.elim
  | false =>
    cases d with
    | bl b => exact ⟨b, rfl⟩
    | _ => exact h.elim
theorem not_inv {r : R} {S1 : Sto} {QQ : R → Sto → Prop} {E : Nat → List D → Sto → Prop}
    (h : ((match r with | ⟨false, .bl b⟩ => .ok ⟨false, .bl (!b)⟩ S1 | _ => .bad : Out R)).post QQ E) : ∃ b, r = ⟨false, .bl b⟩ := by
  obtain ⟨fr, d⟩ := r
  cases fr with
  | true => exact h.elim
  | false =>
    cases d with
    | bl b => exact ⟨b, rfl⟩
    | _ => exact h.elim
theorem ite_inv {α : Type} {r : R} {g g' : Out α} {QQ : α → Sto → Prop} {E : Nat → List D → Sto → Prop}
    (h : ((match r with | ⟨false, .bl true⟩ => g | ⟨false, .bl false⟩ => g' | _ => .bad : Out α)).post QQ E) : ∃ b, r = ⟨false, .bl b⟩ := by
  obtain ⟨fr, d⟩ := r
  cases fr with
  | true => exact h.elim
  | false =>
    cases d with
    | bl b => exact ⟨b, rfl⟩
    | _ => exact h.elim
theorem qt_step {P H P1 H1 : Hp} {Q : Bool → Hp → Prop} {r : R} {S : Sto} (st : Step c.ρ P H P1 H1) (h : QT c P H Q r S) : QT c P1 H1 Q r S := by
  obtain ⟨b, e, w⟩ := h
  exact ⟨b, e, fun P' H' s so => w P' H' (st.trans s) so⟩
theorem pw1_and (ha : PT X a (TTx c x)) : PW X (.BoolOp .And [a] pos) (TTx c x) := pw_and1 ha
theorem pw1_or (ha : PT X a (TTx c x)) : PW X (.BoolOp .Or [a] pos) (TTx c x) := pw_or1 ha
theorem pww_and {rest : List Expr} (ha : PT X a (TTx c x)) (hb : PW X (.BoolOp .And (b :: rest) pos) (TTx c y)) : PW X (.BoolOp .And (a :: b :: rest) pos) (TTx c (andX x y)) :=
  pw_imp (pw_and ha hb) fun σ H Q ⟨P, env, S, s, h⟩ => ttx_bind s h (fun r S1 q => and_inv (α := Unit) q) fun k S1 P1 H1 st1 s1 q => by
    cases k with
    | true => exact ⟨P1, env, S1, s1, xp_step st1 q fun _ _ w => qt_step st1 w⟩
    | false =>
      obtain ⟨k, ek, w⟩ := q
      cases ek
      exact w P1 H1 st1 s1.so
theorem pww_or {rest : List Expr} (ha : PT X a (TTx c x)) (hb : PW X (.BoolOp .Or (b :: rest) pos) (TTx c y)) : PW X (.BoolOp .Or (a :: b :: rest) pos) (TTx c (orX x y)) :=
  pw_imp (pw_or ha hb) fun σ H Q ⟨P, env, S, s, h⟩ => ttx_bind s h (fun r S1 q => or_inv q) fun k S1 P1 H1 st1 s1 q => by
    cases k with
    | false => exact ⟨P1, env, S1, s1, xp_step st1 q fun _ _ w => qt_step st1 w⟩
    | true =>
      obtain ⟨k, ek, w⟩ := q
      cases ek
      exact w P1 H1 st1 s1.so
theorem pq_not (ha : PT X a (TTx c x)) : PT X (.UnaryOp .Not a pos) (TTx c (notX x)) :=
  pt_imp (pt_not ha) fun σ H Q ⟨P, env, S, s, h⟩ => ttx_bind s h (fun r S1 q => not_inv q) fun k S1 P1 H1 st1 s1 q => by
    obtain ⟨k', ek, w⟩ := q
    cases ek
    exact w P1 H1 st1 s1.so
/-- .. as values -/
theorem pd_one {op} (h : PE X a (TEx c x)) : PE X (.BoolOp op [a] pos) (TEx c x) := pe_one h
theorem pd_and {rest : List Expr} (ha : PE X a (TEx c x)) (hb : PE X (.BoolOp .And (b :: rest) pos) (TEx c y)) : PE X (.BoolOp .And (a :: b :: rest) pos) (TEx c (andX x y)) :=
  pe_imp (pe_and ha hb) fun σ H Q ⟨P, env, S, s, h⟩ => tex_bind s h fun r S1 v P1 H1 st1 s1 rp q => by
    obtain ⟨k, rfl⟩ := and_inv (α := Unit) q
    cases rp
    refine ⟨k, rfl, ?_⟩
    cases k with
    | true => exact iteT ⟨P1, env, S1, s1, q⟩
    | false => exact iteF (PX.ret s1 q (.bl false))
theorem pd_or {rest : List Expr} (ha : PE X a (TEx c x)) (hb : PE X (.BoolOp .Or (b :: rest) pos) (TEx c y)) : PE X (.BoolOp .Or (a :: b :: rest) pos) (TEx c (orX x y)) :=
  pe_imp (pe_or ha hb) fun σ H Q ⟨P, env, S, s, h⟩ => tex_bind s h fun r S1 v P1 H1 st1 s1 rp q => by
    obtain ⟨k, rfl⟩ := or_inv q
    cases rp
    refine ⟨k, rfl, ?_⟩
    cases k with
    | true => exact iteT (PX.ret s1 q (.bl true))
    | false => exact iteF ⟨P1, env, S1, s1, q⟩
theorem pd_not (ha : PE X a (TEx c x)) : PE X (.UnaryOp .Not a pos) (TEx c (notX x)) :=
  pe_imp (pe_not ha) fun σ H Q ⟨P, env, S, s, h⟩ => tex_bind s h fun r S1 v P1 H1 st1 s1 rp q => by
    obtain ⟨k, rfl⟩ := not_inv q
    cases rp
    exact ⟨k, rfl, PX.ret s1 q (.bl _)⟩
theorem pd_ite {t : Expr} (ht : PT X t (TTx c z)) (ha : PE X a (TEx c x)) (hb : PE X b (TEx c y)) : PE X (.IfExp t a b pos) (TEx c (iteX z x y)) :=
  pe_imp (pe_ifExp ht ha hb) fun σ H Q ⟨P, env, S, s, h⟩ => ttx_bind s h (fun r S1 q => ite_inv q) fun k S1 P1 H1 st1 s1 q => by
    cases k with
    | true => exact iteT ⟨P1, env, S1, s1, xp_step st1 q fun _ _ w => QX.step st1 w⟩
    | false => exact iteF ⟨P1, env, S1, s1, xp_step st1 q fun _ _ w => QX.step st1 w⟩
/-- a < b < c -/
def chain (f g : D → D → Option R) (x y z : Ex) : Ex := fun env S => (x env S).bind fun a S => (y env S).bind fun b S => match f a.d b.d with
  | some ⟨false, .bl true⟩ => (z env S).bind fun e S => match g b.d e.d with
    | some r => .ok r S
    | none => .bad
  | some ⟨false, .bl false⟩ => .ok ⟨false, .bl false⟩ S
  | _ => .bad
theorem chain_inv {o : Option R} {g g' : Out R} {QQ : R → Sto → Prop} {E : Nat → List D → Sto → Prop}
    (h : ((match o with | some ⟨false, .bl true⟩ => g | some ⟨false, .bl false⟩ => g' | _ => .bad : Out R)).post QQ E) : ∃ b, o = some ⟨false, .bl b⟩ := by
  cases o with
  | none => exact h.elim
  | some r =>
    obtain ⟨fr, d⟩ := r
    cases fr with
    | true => exact h.elim
    | false =>
      cases d with
      | bl b => exact ⟨b, rfl⟩
      | _ => exact h.elim
theorem pd_chain {op op' : CmpOp} {f g : D → D → Option R} {t : Expr} (hf : OpR X (compareOp op) (rOp2 c f)) (hg : OpR X (compareOp op') (rOp2 c g)) (ha : PE X a (TEx c x)) (hb : PE X b (TEx c y)) (ht : PE X t (TEx c z))
    (hm : lastMarks [op, op'] [b, t] = false) : PE X (.Compare a [op, op'] [b, t] pos) (TEx c (chain f g x y z)) := by
  refine pe_imp (pe_chain hf hg ha hb ht hm) fun σ H Q ⟨P, env, S, s, h⟩ => ?_
  refine tex_bind s h fun r S1 v P1 H1 st1 s1 rp1 h1 => tex_bind s1 h1 fun r2 S2 w P2 H2 st2 s2 rp2 h2 => ?_
  obtain ⟨k, ek⟩ := chain_inv h2
  refine ⟨P2, S2, r.d, r2.d, _, s2.le, s2.new0, s2.so, rp1.mono st2.pp, rp2, ek, fun v3 P3 H3 st3 so3 rr => ?_⟩
  cases rr
  refine ⟨k, rfl, ?_⟩
  rw [ek] at h2
  have s3 := s2.step st3 so3
  cases k with
  | false => exact iteF (PX.ret s3 (PX.step st3 h2) (.bl false))
  | true =>
    refine iteT (tex_bind s3 (PX.step st3 h2) fun r4 S4 v4 P4 H4 st4 s4 rp4 h4 => ?_)
    cases q : g r2.d r4.d with
    | none => simp only [q] at h4; exact h4.elim
    | some r5 =>
      simp only [q] at h4
      exact ⟨P4, S4, r2.d, r4.d, r5, s4.le, s4.new0, s4.so, rp2.mono (st3.pp.trans st4.pp), rp4, q, h4⟩
theorem pq_chain {op op' : CmpOp} {f g : D → D → Option R} {t : Expr} (hgb : boolR g) (hf : OpR X (compareOp op) (rOp2 c f)) (hg : OpR X (compareOp op') (rOp2 c g)) (ha : PE X a (TEx c x)) (hb : PE X b (TEx c y)) (ht : PE X t (TEx c z))
    (hm : lastMarks [op, op'] [b, t] = false) : PT X (.Compare a [op, op'] [b, t] pos) (TTx c (chain f g x y z)) := by
  refine pt_imp (pt_chain hf hg ha hb ht hm) fun σ H Q ⟨P, env, S, s, h⟩ => ?_
  refine tex_bindG s h fun r S1 v P1 H1 st1 s1 rp1 h1 => tex_bindG s1 (xp_step st1 h1 fun _ _ w => qt_step st1 w) fun r2 S2 w P2 H2 st2 s2 rp2 h2 => ?_
  obtain ⟨k, ek⟩ := chain_inv h2
  refine ⟨P2, S2, r.d, r2.d, _, s2.le, s2.new0, s2.so, rp1.mono st2.pp, rp2, ek, fun v3 P3 H3 st3 so3 rr => ?_⟩
  cases rr
  refine ⟨k, rfl, ?_⟩
  rw [ek] at h2
  have s3 := s2.step st3 so3
  cases k with
  | false =>
    obtain ⟨b, eb, w⟩ := h2
    cases eb
    exact iteF ⟨false, rfl, w P3 H3 (st2.trans st3) so3⟩
  | true =>
    refine iteT (tex_bindG s3 (xp_step (st2.trans st3) h2 fun _ _ w => qt_step (st2.trans st3) w) fun r4 S4 v4 P4 H4 st4 s4 rp4 h4 => ?_)
    cases q : g r2.d r4.d with
    | none => simp only [q] at h4; exact h4.elim
    | some r5 =>
      simp only [q] at h4
      obtain ⟨k2, rfl⟩ := hgb _ _ _ q
      obtain ⟨b, eb, w⟩ := h4
      cases eb
      refine ⟨P4, S4, r2.d, r4.d, _, s4.le, s4.new0, s4.so, rp2.mono (st3.pp.trans st4.pp), rp4, q, fun v5 P5 H5 st5 so5 rr => ?_⟩
      cases rr
      exact ⟨k2, rfl, w P5 H5 (st4.trans st5) so5⟩

/-! ### items of a display, of a built-in's call -/
abbrev Lx := SEnv → Sto → Out (List D)
def lnil : Lx := fun _ S => .ok [] S
def lcons (x : Ex) (l : Lx) : Lx := fun env S => (x env S).bind fun a S => (l env S).bind fun ds S => .ok (a.d :: ds) S
def seqD : D → Option (List D)
  | .tup l => some l
  | .lst l => some l
  | .rt l => some l
  | _ => none
def lstar (x : Ex) (l : Lx) : Lx := fun env S => (x env S).bind fun a S => match seqD a.d with
  | some l0 => (l env S).bind fun ds S => .ok (l0 ++ ds) S
  | none => .bad
def QL (c : Cc) (P H : Hp) (Q : List V → Hp → Prop) : List D → Sto → Prop := fun ds S' => ∀ vs P' H', Step c.ρ P H P' H' → StoOk c.K c.G c.ρ P' H' S' → Reps c.K c.G P' ds vs → Q vs H'
theorem ql_step {P H P1 H1 : Hp} {Q : List V → Hp → Prop} {r : List D} {S : Sto} (st : Step c.ρ P H P1 H1) (h : QL c P H Q r S) : QL c P1 H1 Q r S := fun vs P' H' s so => h vs P' H' (st.trans s) so
def TLx (c : Cc) (l : Lx) : TA := fun σ H Q => ∃ P env S, Stt c P H env σ S ∧ (l env S).post (QL c P H Q) (XP c P H)
theorem tlx_bind {α : Type} {P H : Hp} {env : SEnv} {σ : L2.St} {S : Sto} {l : Lx} {f : List D → Sto → Out α} {QQ : α → Sto → Prop} {Q' : List V → Hp → Prop} (s : Stt c P H env σ S) (h : ((l env S).bind f).post QQ (XP c P H))
    (k : ∀ r S1 v P1 H1, Step c.ρ P H P1 H1 → Stt c P1 H1 env σ S1 → Reps c.K c.G P1 r v → (f r S1).post QQ (XP c P H) → Q' v H1) : TLx c l σ H Q' :=
  ⟨P, env, S, s, post_mono (post_bind.mp h) (fun r S1 q v P1 H1 st so rr => k r S1 v P1 H1 st (s.step st so) rr q) fun _ _ _ q => q⟩
theorem pl_nil : PA X [] (TLx c lnil) := pa_imp pa_nil fun σ H Q ⟨P, env, S, s, h⟩ => h [] P H (Step.refl s.le) s.so .nil
theorem pl_cons {l : Lx} (ha : PE X e (TEx c x)) (hr : PA X es (TLx c l)) (hs : starEach (e :: es) X.env = (false, eval e X.env) :: starEach es X.env) : PA X (e :: es) (TLx c (lcons x l)) :=
  pa_imp (pa_cons ha hr hs) fun σ H Q ⟨P, env, S, s, h⟩ => tex_bindG s h fun r S1 v P1 H1 st1 s1 rp1 h1 => tlx_bind s1 (xp_step st1 h1 fun _ _ w => ql_step st1 w) fun ds S2 vs P2 H2 st2 s2 rp2 h2 =>
    h2 (v :: vs) P2 H2 st2 s2.so (.cons (rp1.mono st2.pp) rp2)
theorem seqD_rep {d : D} {l : List D} {K : PySem.W.Frag} {G : Nat → Option (Addr × List Str)} {P H : Hp} {v : V} (e : seqD d = some l) (r : Rep K G P d v) (le : Le P H) : ∃ p xs, v = V.ref p ∧ (SqT K H p xs ∨ SqL K H p xs) ∧ Reps K G P l xs := by
  cases r with
  | tup h r => cases e; exact ⟨_, _, rfl, .inl (.inl (.inl (le.tup h))), r⟩
  | rt h r => cases e; exact ⟨_, _, rfl, .inl (le.sqT h), r⟩
  | lst h r => cases e; exact ⟨_, _, rfl, .inr (.inl (.inl (le.lst h))), r⟩
  | _ => cases e
theorem pl_star {l : Lx} {p : Pos} (hK : X.K = c.K) (ha : PE X e (TEx c x)) (hr : PA X es (TLx c l)) : PA X (.Starred e p :: es) (TLx c (lstar x l)) :=
  pa_imp (StX.pa_star ha hr) fun σ H Q ⟨P, env, S, s, h⟩ => tex_bindG s h fun r S1 v P1 H1 st1 s1 rp1 h1 => by
    cases q : seqD r.d with
    | none => simp only [q] at h1; exact h1.elim
    | some l0 =>
      simp only [q] at h1
      obtain ⟨p, xs, e1, sq, rx⟩ := seqD_rep q rp1 s1.le
      refine ⟨p, xs, e1, by rw [hK]; exact sq, tlx_bind s1 (xp_step st1 h1 fun _ _ w => ql_step st1 w) fun ds S2 vs P2 H2 st2 s2 rp2 h2 => ?_⟩
      exact h2 (xs ++ vs) P2 H2 st2 s2.so ((rx.mono st2.pp).append rp2)
def line : Nat := 16777216
theorem line_eq : line = sizeLine := by rw [sizeLine_eq]; rfl
def tupX (l : Lx) : Ex := fun env S => (l env S).bind fun ds S => if ds.length ≤ line then .ok ⟨false, .tup ds⟩ S else .bad
def lstX (l : Lx) : Ex := fun env S => (l env S).bind fun ds S => if ds.length ≤ line then .ok ⟨true, .lst ds⟩ S else .bad
theorem px_tup {P H : Hp} {env : SEnv} {σ : L2.St} {S : Sto} {Q : VK} {ds : List D} {vs : List V} (s : Stt c P H env σ S) (r : Reps c.K c.G P ds vs) (h : PX c P H Q (.ok ⟨false, .tup ds⟩ S)) : ∀ p, H p = none → Q (.ref p) (upd H p (.tup vs)) := fun p n =>
  h (.ref p) (upd P p (.tup vs)) _ (Step.lay s.le n (s.new0 p n)) (s.so.lay s.le n) (RepR.sh (.tup upd_same (r.mono fun b o e => by rw [upd_ne (ne_of_none e (s.le.none n))]; exact e)))
theorem px_lst {P H : Hp} {env : SEnv} {σ : L2.St} {S : Sto} {Q : VK} {ds : List D} {vs : List V} (s : Stt c P H env σ S) (r : Reps c.K c.G P ds vs) (h : PX c P H Q (.ok ⟨true, .lst ds⟩ S)) : ∀ p, H p = none → Q (.ref p) (upd H p (.lst vs)) := fun p n =>
  h (.ref p) P _ (Step.alloc s.le n) (s.so.alloc s.le n) (by unfold RepR; rw [if_pos rfl]; exact ⟨p, rfl, n, s.le.none n, .lst upd_same r⟩)
theorem pd_tup {l : Lx} {k : Nat} (h : PA X es (TLx c l)) : PE X (.Tuple es k pos) (TEx c (tupX l)) :=
  pe_imp (pe_tup h) fun σ H Q ⟨P, env, S, s, h⟩ => tlx_bind s h fun ds S1 vs P1 H1 st1 s1 rp h1 => by
    by_cases hl : ds.length ≤ line
    · rw [if_pos hl] at h1
      exact ⟨by rw [← rp.length, ← line_eq]; exact hl, px_tup s1 rp (QX.step st1 h1)⟩
    · rw [if_neg hl] at h1; exact h1.elim
theorem pd_lst {l : Lx} (h : PA X es (TLx c l)) : PE X (.List es pos) (TEx c (lstX l)) :=
  pe_imp (pe_lst h) fun σ H Q ⟨P, env, S, s, h⟩ => tlx_bind s h fun ds S1 vs P1 H1 st1 s1 rp h1 => by
    by_cases hl : ds.length ≤ line
    · rw [if_pos hl] at h1
      exact ⟨by rw [← rp.length, ← line_eq]; exact hl, px_lst s1 rp (QX.step st1 h1)⟩
    · rw [if_neg hl] at h1; exact h1.elim
/-- a built-in's call by values -/
def biX (f : List D → Option R) (l : Lx) : Ex := fun env S => (l env S).bind fun ds S => match f ds with
  | some r => .ok r S
  | none => .bad
def rBi (c : Cc) (f : List D → Option R) : List V → Hp → VK → Prop := fun vs H Q => ∃ P S ds r, Le P H ∧ (∀ a, H a = none → a ∉ c.ρ) ∧ StoOk c.K c.G c.ρ P H S ∧ Reps c.K c.G P ds vs ∧ f ds = some r ∧ QX c P H Q r S
theorem bi_top {f : List D → Option R} {l : Lx} : ∀ σ H Q, TEx c (biX f l) σ H Q → tCB (rBi c f) (TLx c l) σ H Q := fun σ H Q ⟨P, env, S, s, h⟩ =>
  tlx_bind s h fun ds S1 vs P1 H1 st1 s1 rp h1 => by
    cases q : f ds with
    | none => simp only [q] at h1; exact h1.elim
    | some r3 =>
      simp only [q] at h1
      exact ⟨P1, S1, ds, r3, s1.le, s1.new0, s1.so, rp, q, QX.step st1 h1⟩
end
end Pv

set_option Elab.async false
set_option linter.all false
set_option maxRecDepth 100000
namespace Pv
open PySem PySem.Spec PyProof.Rows L2

/-! ### arguments, calls -/
def ArgOk (K : PySem.W.Frag) (G : Nat → Option (Addr × List Str)) (ρ : List Addr) (P : Hp) : Arg → V → Prop
  | .sh d, v => Rep K G P d v
  | .ref n, v => ∃ a, v = .ref a ∧ ρ[n]? = some a
abbrev ArgsOk (K : PySem.W.Frag) (G : Nat → Option (Addr × List Str)) (ρ : List Addr) (P : Hp) : List Arg → List V → Prop := Paired (ArgOk K G ρ P)
theorem ArgOk.mono {K : PySem.W.Frag} {G : Nat → Option (Addr × List Str)} {ρ : List Addr} {P P' : Hp} (e : Same P P') : ∀ {a : Arg} {v : V}, ArgOk K G ρ P a v → ArgOk K G ρ P' a v
  | .sh _, _, h => Rep.mono e h
  | .ref _, _, h => h
def anil : Ax := fun _ S => .ok [] S
def aval (x : Ex) (l : Ax) : Ax := fun env S => (x env S).bind fun a S => (l env S).bind fun as S => .ok (.sh a.d :: as) S
def aname (i : Nat) (l : Ax) : Ax := fun env S => match sget env i with
  | .sh d => (l env S).bind fun as S => .ok (.sh d :: as) S
  | .ref n => (l env S).bind fun as S => .ok (.ref n :: as) S
  | _ => .bad
def callX (cf : Nat → List Arg → Sto → Out R) (f : Nat) (l : Ax) : Ex := fun env S => (l env S).bind fun as S => cf f as S
def QA (c : Cc) (P H : Hp) (Q : List V → Hp → Prop) : List Arg → Sto → Prop := fun as S' => ∀ vs P' H', Step c.ρ P H P' H' → StoOk c.K c.G c.ρ P' H' S' → ArgsOk c.K c.G c.ρ P' as vs → Q vs H'
theorem qa_step {c : Cc} {P H P1 H1 : Hp} {Q : List V → Hp → Prop} {r : List Arg} {S : Sto} (st : Step c.ρ P H P1 H1) (h : QA c P H Q r S) : QA c P1 H1 Q r S := fun vs P' H' s so => h vs P' H' (st.trans s) so
def TAx (c : Cc) (l : Ax) : TA := fun σ H Q => ∃ P env S, Stt c P H env σ S ∧ (l env S).post (QA c P H Q) (XP c P H)
/-- a def's promise: it gives what cf says -/
def spF (K : PySem.W.Frag) (G : Nat → Option (Addr × List Str)) (xc : Nat → Value) (n : Nat) (cf : List Arg → Sto → Out R) : Sp := fun vs H Q E => ∃ ρ P S as, Le P H ∧ StoOk K G ρ P H S ∧ ArgsOk K G ρ P as vs ∧ vs.length = n ∧ PX ⟨K, G, xc, ρ, P, H, E⟩ P H Q (cf as S)

section
variable {X : Cx} {c : Cc} {a b e : Expr} {es : List Expr} {x y z : Ex} {pos : Pos} {P H P1 H1 : Hp} {env : SEnv} {σ : L2.St} {S S1 : Sto}
theorem tax_bind {α : Type} {l : Ax} {f : List Arg → Sto → Out α} {QQ : α → Sto → Prop} {Q' : List V → Hp → Prop} (s : Stt c P H env σ S) (h : ((l env S).bind f).post QQ (XP c P H))
    (k : ∀ r S1 v P1 H1, Step c.ρ P H P1 H1 → Stt c P1 H1 env σ S1 → ArgsOk c.K c.G c.ρ P1 r v → (f r S1).post QQ (XP c P H) → Q' v H1) : TAx c l σ H Q' :=
  ⟨P, env, S, s, post_mono (post_bind.mp h) (fun r S1 q v P1 H1 st so rr => k r S1 v P1 H1 st (s.step st so) rr q) fun _ _ _ q => q⟩
theorem px_nil : PA X [] (TAx c anil) := pa_imp pa_nil fun σ H Q ⟨P, env, S, s, h⟩ => h [] P H (Step.refl s.le) s.so .nil
theorem px_val {l : Ax} (ha : PE X e (TEx c x)) (hr : PA X es (TAx c l)) (hs : starEach (e :: es) X.env = (false, eval e X.env) :: starEach es X.env) : PA X (e :: es) (TAx c (aval x l)) :=
  pa_imp (pa_cons ha hr hs) fun σ H Q ⟨P, env, S, s, h⟩ => tex_bindG s h fun r S1 v P1 H1 st1 s1 rp1 h1 => tax_bind s1 (xp_step st1 h1 fun _ _ w => qa_step st1 w) fun ds S2 vs P2 H2 st2 s2 rp2 h2 =>
    h2 (v :: vs) P2 H2 st2 s2.so (.cons (show ArgOk _ _ _ _ (.sh r.d) v from rp1.mono st2.pp) rp2)
theorem px_name {l : Ax} (i : Nat) {nm : Str} {p : Pos} (hN : X.N[i]? = some nm) (hv : Vis X.env.scope nm) (hd : (nm == ("__debug__" : Str)) = false) (hcd : (nm == ("__classdict__" : Str)) = false) (hr : PA X es (TAx c l)) : PA X (.Name nm p :: es) (TAx c (aname i l)) :=
  pa_imp (pa_cons (pe_var hN hv hd hcd) hr (by rfl)) fun σ H Q ⟨P, env, S, s, h⟩ => by
    unfold aname at h
    have sl := s.sl i
    cases q : sget env i with
    | sh d =>
      rw [q] at h sl
      obtain ⟨v, e, r⟩ := sl
      exact ⟨v, e, tax_bind s h fun ds S2 vs P2 H2 st2 s2 rp2 h2 => h2 (v :: vs) P2 H2 st2 s2.so (.cons (show ArgOk _ _ _ _ (.sh d) v from r.mono st2.pp) rp2)⟩
    | ref n =>
      rw [q] at h sl
      obtain ⟨a, e, r⟩ := sl
      exact ⟨.ref a, e, tax_bind s h fun ds S2 vs P2 H2 st2 s2 rp2 h2 => h2 (.ref a :: vs) P2 H2 st2 s2.so (.cons (show ArgOk _ _ _ _ (.ref n) (.ref a) from ⟨a, rfl, r⟩) rp2)⟩
    | _ => rw [q] at h; exact h.elim
theorem call_top {cf : Nat → List Arg → Sto → Out R} {f n : Nat} {l : Ax} (hl : ∀ P H env σ S as S1, Stt c P H env σ S → l env S = .ok as S1 → as.length = n) : ∀ σ H Q, TEx c (callX cf f l) σ H Q → tCall (spF c.K c.G c.xc n (cf f)) [] c.E (TAx c l) σ H Q := fun σ H Q ⟨P, env, S, s, h⟩ => by
  have hlen : (l env S).post (fun as _ => as.length = n) fun _ _ _ => True := by
    cases q : l env S with
    | ok as S1 => exact hl _ _ _ _ _ _ _ s q
    | exc _ _ _ => trivial
    | bad => unfold PX callX at h; rw [q] at h; exact h.elim
  refine ⟨P, env, S, s, ?_⟩
  have h2 := post_bind.mp (show ((l env S).bind fun as S => cf f as S).post (QX c P H Q) (XP c P H) from h)
  cases q : l env S with
  | ok as S1 =>
    rw [q] at h2 hlen
    intro vs P1 H1 st so rr
    refine ⟨c.ρ, P1, S1, as, st.le, so, by rw [List.append_nil]; exact rr, by rw [List.append_nil, ← Paired.length rr]; exact hlen, ?_⟩
    exact PX.step (c := c) st (show PX c P H Q (cf f as S1) from h2)
  | exc cl fs S1 => rw [q] at h2; exact h2
  | bad => rw [q] at h2; exact h2.elim

/-! ### statements -/
def QF (c : Cc) (P : Hp) (D : Ends) : Fl → Sto → Prop := fun fl S' => match fl with
  | .nx env' => ∀ P' H' σ', Same P P' → Stt c P' H' env' σ' S' → D.nx σ' H'
  | .ret r => ∀ v P' H', Step c.ρ c.P0 c.H0 P' H' → StoOk c.K c.G c.ρ P' H' S' → RepR c.K c.G c.H0 P' H' r v → D.rt v H'
def PF (c : Cc) (P : Hp) (D : Ends) (o : Out Fl) : Prop := o.post (QF c P D) (XP c c.P0 c.H0)
theorem QF.step {D : Ends} {fl : Fl} {S' : Sto} (e : Same P P1) (h : QF c P D fl S') : QF c P1 D fl S' := by
  cases fl with
  | nx env' => exact fun P' H' σ' s st => h P' H' σ' (e.trans s) st
  | ret r => exact h
theorem PF.step {D : Ends} {o : Out Fl} (e : Same P P1) (h : PF c P D o) : PF c P1 D o := post_mono h (fun _ _ q => q.step e) fun _ _ _ q => q
def TSx (c : Cc) (b : Sx) : TS := fun D σ H => ∃ P env S, Stt c P H env σ S ∧ PF c P D (b env S)
def skip : Sx := fun env S => .ok (.nx env) S
def seqS (a b : Sx) : Sx := fun env S => (a env S).bind fun fl S => match fl with
  | .nx env' => b env' S
  | .ret r => .ok (.ret r) S
theorem sx_nil : PSs X [] (TSx c skip) := pss_imp pss_nil fun D σ H ⟨P, env, S, s, h⟩ => h P H σ (Same.refl P) s
theorem sx_one {st : Stmt} {a : Sx} (h : PS X st (TSx c a)) : PSs X [st] (TSx c a) := pss_one h
theorem sx_cons {st : Stmt} {rest : List Stmt} {a b : Sx} (h1 : PS X st (TSx c a)) (h2 : PSs X rest (TSx c b)) : PSs X (st :: rest) (TSx c (seqS a b)) :=
  pss_imp (pss_cons h1 h2) fun D σ H ⟨P, env, S, s, h⟩ => ⟨P, env, S, s, post_mono (post_bind.mp h) (fun fl S1 q => by
    cases fl with
    | nx env' => exact fun P' H' σ' e s' => ⟨P', env', S1, s', PF.step e q⟩
    | ret r => exact q) fun _ _ _ q => q⟩
/-- an expression within a statement -/
theorem te_in {α : Type} {f : R → Sto → Out α} {QQ : α → Sto → Prop} {Q' : VK} (s : Stt c P H env σ S) (h : ((x env S).bind f).post QQ (XP c c.P0 c.H0))
    (k : ∀ r S1 v P1 H1, Step c.ρ P H P1 H1 → Stt c P1 H1 env σ S1 → Rep c.K c.G P1 r.d v → (f r S1).post QQ (XP c c.P0 c.H0) → Q' v H1) : TEx c x σ H Q' :=
  ⟨P, env, S, s, post_mono (post_bind.mp h) (fun r S1 q v P1 H1 st so rr => by
    obtain ⟨P2, st2, so2, _, rp⟩ := rr.frz st so s.new0
    exact k r S1 v P2 H1 st2 (s.step st2 so2) rp q) fun _ _ _ q => q.step s.st⟩
theorem tt_in {α : Type} {f : R → Sto → Out α} {QQ : α → Sto → Prop} {Q' : Bool → Hp → Prop} (s : Stt c P H env σ S) (h : ((x env S).bind f).post QQ (XP c c.P0 c.H0)) (hb : ∀ r S1, (f r S1).post QQ (XP c c.P0 c.H0) → ∃ b, r = ⟨false, .bl b⟩)
    (k : ∀ b S1 P1 H1, Step c.ρ P H P1 H1 → Stt c P1 H1 env σ S1 → (f ⟨false, .bl b⟩ S1).post QQ (XP c c.P0 c.H0) → Q' b H1) : TTx c x σ H Q' :=
  ⟨P, env, S, s, post_mono (post_bind.mp h) (fun r S1 q => by
    obtain ⟨b, rfl⟩ := hb r S1 q
    exact ⟨b, rfl, fun P1 H1 st so => k b S1 P1 H1 st (s.step st so) q⟩) fun _ _ _ q => q.step s.st⟩

theorem sget_set_self {i : Nat} {s : Sl} (h : i < env.length) : sget (env.set i s) i = s := by
  unfold sget
  rw [List.getD_eq_getElem?_getD, List.getElem?_set_self h]
  rfl
theorem sget_set_ne {i j : Nat} {s : Sl} (h : i ≠ j) : sget (env.set i s) j = sget env j := by
  unfold sget
  rw [List.getD_eq_getElem?_getD, List.getD_eq_getElem?_getD, List.getElem?_set_ne h]
/-- a slot takes a value -/
theorem Stt.setG {i : Nat} {s' : Sl} {v : V} (s : Stt c P H env σ S) (ok : SlOk c P H s' (some (some v))) (dj : s'.isOwn = true → ∀ j a, j ≠ i → v = .ref a → (sget env j).isOwn = true → σ[j]? ≠ some (some (.ref a))) :
    Stt c P H (env.set i s') (σ.set i (some v)) S := by
  by_cases hi : i < env.length
  · have hs : i < σ.length := by rw [← s.ln]; exact hi
    refine ⟨s.st, s.r0, s.so, by rw [List.length_set, List.length_set]; exact s.ln, fun j => ?_, fun j k a e1 e2 e3 e4 => ?_⟩
    · by_cases hj : i = j
      · subst hj
        rw [sget_set_self hi, List.getElem?_set_self hs]
        exact ok
      · rw [sget_set_ne hj, List.getElem?_set_ne hj]
        exact s.sl j
    · by_cases hj : i = j
      · by_cases hk : i = k
        · exact hj.symm.trans hk
        · subst hj
          rw [sget_set_self hi] at e1
          rw [sget_set_ne hk] at e2
          rw [List.getElem?_set_self hs] at e3
          rw [List.getElem?_set_ne hk] at e4
          exact absurd e4 (dj e1 k a (Ne.symm hk) (Option.some.inj (Option.some.inj e3)) e2)
      · by_cases hk : i = k
        · subst hk
          rw [sget_set_self hi] at e2
          rw [sget_set_ne hj] at e1
          rw [List.getElem?_set_self hs] at e4
          rw [List.getElem?_set_ne hj] at e3
          exact absurd e3 (dj e2 j a (Ne.symm hj) (Option.some.inj (Option.some.inj e4)) e1)
        · rw [sget_set_ne hj] at e1
          rw [sget_set_ne hk] at e2
          rw [List.getElem?_set_ne hj] at e3
          rw [List.getElem?_set_ne hk] at e4
          exact s.dj j k a e1 e2 e3 e4
  · rw [List.set_eq_of_length_le (by omega), List.set_eq_of_length_le (by rw [← s.ln]; omega)]
    exact s
theorem Stt.set {i : Nat} {d : D} {v : V} (s : Stt c P H env σ S) (r : Rep c.K c.G P d v) : Stt c P H (env.set i (.sh d)) (σ.set i (some v)) S :=
  s.setG ⟨v, rfl, r⟩ fun h => by cases h
/-- where the own ones lie -/
theorem Stt.ownAt (s : Stt c P H env σ S) {j : Nat} {a : Addr} (h : (sget env j).isOwn = true) (e : σ[j]? = some (some (.ref a))) : P a = none ∧ c.H0 a = none ∧ ∃ u, H a = some u := by
  have sl := s.sl j
  cases q : sget env j with
  | own d =>
    rw [q] at sl
    obtain ⟨b, e2, hp, h0, r⟩ := sl
    rw [e] at e2; cases e2
    obtain ⟨u, hu, _⟩ := r.there
    exact ⟨hp, h0, u, hu⟩
  | lk d =>
    rw [q] at sl
    obtain ⟨b, od, u, e2, hp, h0, hf, r⟩ := sl
    rw [e] at e2; cases e2
    exact ⟨hp, h0, _, hf⟩
  | _ => rw [q] at h; cases h
theorem Stt.setOwn {i : Nat} {d : D} {a : Addr} (s : Stt c P H env σ S) (h0 : c.H0 a = none) (hp : P a = none) (r : Root c.K c.G P H d a) (hn : ∀ j, j ≠ i → (sget env j).isOwn = true → σ[j]? ≠ some (some (.ref a))) :
    Stt c P H (env.set i (.own d)) (σ.set i (some (.ref a))) S :=
  s.setG ⟨a, rfl, hp, h0, r⟩ fun _ j b hj e ho q => by cases e; exact hn j hj ho q

def setS (i : Nat) (x : Ex) : Sx := fun env S => (x env S).bind fun r S => .ok (.nx (env.set i (.sh r.d))) S
def setO (i : Nat) (x : Ex) : Sx := fun env S => (x env S).bind fun r S => if r.fr = true then .ok (.nx (env.set i (.own r.d))) S else .bad
def retS (x : Ex) : Sx := fun env S => (x env S).bind fun r S => .ok (.ret r) S
def retO (i : Nat) : Sx := fun env S => match sget env i with
  | .own d => .ok (.ret ⟨true, d⟩) S
  | _ => .bad
def exS (x : Ex) : Sx := fun env S => (x env S).bind fun _ S => .ok (.nx env) S
def ifS (t : Ex) (a b : Sx) : Sx := fun env S => (t env S).bind fun r S => match r with
  | ⟨false, .bl true⟩ => a env S
  | ⟨false, .bl false⟩ => b env S
  | _ => .bad
theorem set_top {i : Nat} : ∀ D σ H, TSx c (setS i x) D σ H → tAsg (TEx c x) (gName i) D σ H := fun D σ H ⟨P, env, S, s, h⟩ =>
  te_in s h fun r S1 v P1 H1 st1 s1 rp h1 => h1 P1 H1 _ st1.pp (s1.set rp)
theorem setO_top {i : Nat} : ∀ D σ H, TSx c (setO i x) D σ H → tAsg (TEx c x) (gName i) D σ H := fun D σ H ⟨P, env, S, s, h⟩ =>
  ⟨P, env, S, s, post_mono (post_bind.mp h) (fun r S1 q v P1 H1 st so rr => by
    by_cases hf : r.fr = true
    · rw [if_pos hf] at q
      unfold RepR at rr
      rw [if_pos hf] at rr
      obtain ⟨a, rfl, n, n1, ro⟩ := rr
      have s1 := s.step st so
      refine q P1 H1 _ st.pp (s1.setOwn (s.st.dom a n) n1 ro fun j hj ho e => ?_)
      obtain ⟨_, _, u, hu⟩ := s.ownAt ho e
      rw [n] at hu; cases hu
    · rw [if_neg hf] at q; exact q.elim) fun _ _ _ q => q.step s.st⟩
theorem repR_up {r : R} {v : V} {P' H' : Hp} (st : Step c.ρ c.P0 c.H0 P H) (h : RepR c.K c.G H P' H' r v) : RepR c.K c.G c.H0 P' H' r v := by
  unfold RepR at h ⊢
  split at h
  · rename_i hf
    rw [if_pos hf]
    obtain ⟨a, e, n, q⟩ := h
    exact ⟨a, e, st.dom a n, q⟩
  · rename_i hf
    rw [if_neg hf]
    exact h
theorem sx_ret (he : PE X e (TEx c x)) : PS X (.Return (some e) pos) (TSx c (retS x)) :=
  ps_imp (ps_ret he) fun D σ H ⟨P, env, S, s, h⟩ => ⟨P, env, S, s, post_mono (post_bind.mp h) (fun r S1 q v P1 H1 st so rr => q v P1 H1 (s.st.trans st) so (repR_up s.st rr)) fun _ _ _ q => q.step s.st⟩
theorem sx_retN : PS X (.Return none pos) (TSx c (retS (con .non))) :=
  ps_imp ps_retN fun D σ H ⟨P, env, S, s, h⟩ => h .non P H s.st s.so (RepR.sh .non)
theorem sx_retO (i : Nat) {nm : Str} {p : Pos} (hN : X.N[i]? = some nm) (hv : Vis X.env.scope nm) (hd : (nm == ("__debug__" : Str)) = false) (hcd : (nm == ("__classdict__" : Str)) = false) : PS X (.Return (some (.Name nm p)) pos) (TSx c (retO i)) :=
  ps_imp (ps_ret (pe_var hN hv hd hcd)) fun D σ H ⟨P, env, S, s, h⟩ => by
    unfold retO at h
    have sl := s.sl i
    cases q : sget env i with
    | own d =>
      rw [q] at h sl
      obtain ⟨a, e, hp, h0, r⟩ := sl
      exact ⟨.ref a, e, h (.ref a) P H s.st s.so (by unfold RepR; rw [if_pos rfl]; exact ⟨a, rfl, h0, hp, r⟩)⟩
    | _ => rw [q] at h; exact h.elim
theorem sx_ex (he : PE X e (TEx c x)) (hs : swapsWith e none pos.line X.env = pure false) : PS X (.Expr e pos) (TSx c (exS x)) :=
  ps_imp (ps_expr he hs) fun D σ H ⟨P, env, S, s, h⟩ => te_in s h fun r S1 v P1 H1 st1 s1 rp h1 => h1 P1 H1 _ st1.pp s1
theorem sx_pass : PS X (.Pass pos) (TSx c skip) := ps_imp ps_pass fun D σ H ⟨P, env, S, s, h⟩ => h P H σ (Same.refl P) s
theorem sx_if {t : Expr} {as bs : List Stmt} {a b : Sx} (ht : PT X t (TTx c z)) (ha : PSs X as (TSx c a)) (hb : PSs X bs (TSx c b)) : PS X (.If t as bs pos) (TSx c (ifS z a b)) :=
  ps_imp (ps_if ht ha hb) fun D σ H ⟨P, env, S, s, h⟩ => tt_in s h (fun r S1 q => ite_inv q) fun k S1 P1 H1 st1 s1 q => by
    cases k with
    | true => exact iteT ⟨P1, env, S1, s1, PF.step st1.pp q⟩
    | false => exact iteF ⟨P1, env, S1, s1, PF.step st1.pp q⟩

/-! ### targets, loops -/
abbrev Tx := SEnv → D → Option SEnv
def tName (i : Nat) : Tx := fun env d => some (env.set i (.sh d))
def setAll : List Nat → List D → SEnv → Option SEnv
  | [], [], env => some env
  | i :: is, d :: ds, env => setAll is ds (env.set i (.sh d))
  | _, _, _ => none
def tTupl (is : List Nat) : Tx := fun env d => match d with
  | .tup ds => setAll is ds env
  | _ => none
/-- is: the slots that it stores to -/
def TGx (c : Cc) (is : List Nat) (tg : Tx) : TG := fun v σ H Q => ∃ P env S d env', Stt c P H env σ S ∧ Rep c.K c.G P d v ∧ tg env d = some env' ∧ ∀ σ', Stt c P H env' σ' S → (∀ vs : List Nat, (∀ i ∈ is, i ∈ vs) → wipe σ' vs = wipe σ vs) → Q σ' H
theorem wipe_set {σ : L2.St} {i : Nat} {x : Option V} : ∀ {vs : List Nat}, i ∈ vs → wipe (σ.set i x) vs = wipe σ vs
  | [], h => by cases h
  | v :: vs, h => by
    unfold wipe
    by_cases e : i = v
    · subst e
      by_cases hm : i ∈ vs
      · rw [wipe_set hm]
      · rw [wipe_out_set hm, List.set_set]
    · have hm : i ∈ vs := by
        rcases List.mem_cons.mp h with z | z
        · exact absurd z e
        · exact z
      rw [wipe_set hm]
where
  wipe_out_set {σ : L2.St} {i : Nat} {x : Option V} : ∀ {vs : List Nat}, i ∉ vs → wipe (σ.set i x) vs = (wipe σ vs).set i x
  | [], _ => rfl
  | v :: vs, h => by
    unfold wipe
    rw [wipe_out_set fun z => h (List.mem_cons_of_mem _ z), List.set_comm _ _ fun z => h (by rw [z]; exact List.mem_cons_self)]
theorem pg_imp {tg : Expr} {t t' : TG} (h : PG X tg t) (i : ∀ v σ H Q, t' v σ H Q → t v σ H Q) : PG X tg t' := ⟨fun pins s σ H v u Q I r w => h.run pins s σ H v u Q I r (i v σ H Q w)⟩
theorem tg_name {tg : Expr} {i : Nat} (h : PG X tg (gName i)) : PG X tg (TGx c [i] (tName i)) := pg_imp h fun v σ H Q ⟨P, env, S, d, env', s, r, e, k⟩ => by
  cases e
  exact k _ (s.set r) fun vs hv => wipe_set (hv i (by simp))
def gNames : List Nat → TGs
  | [] => gNil
  | i :: is => gCons (gName i) (gNames is)
theorem setAll_ok : ∀ {is : List Nat} {ds : List D} {vs : List V} {env env' : SEnv} {σ : L2.St} {Q : L2.St → Hp → Prop}, Stt c P H env σ S → Reps c.K c.G P ds vs → setAll is ds env = some env' → (∀ σ', Stt c P H env' σ' S → (∀ vs : List Nat, (∀ i ∈ is, i ∈ vs) → wipe σ' vs = wipe σ vs) → Q σ' H) → gNames is vs σ H Q
  | [], [], _, env, env', σ, Q, s, r, e, k => by
    cases r
    cases e
    exact ⟨rfl, k _ s fun _ _ => rfl⟩
  | [], _ :: _, _, _, _, _, _, _, _, e, _ => by cases e
  | _ :: _, [], _, _, _, _, _, _, _, e, _ => by cases e
  | i :: is, d :: ds, _, env, env', σ, Q, s, r, e, k => by
    cases r with
    | cons r1 r2 => exact ⟨_, _, rfl, setAll_ok (is := is) (s.set r1) r2 e fun σ' s' hw => k σ' s' fun vs hv => (hw vs fun j hj => hv j (List.mem_cons_of_mem _ hj)).trans (wipe_set (hv i List.mem_cons_self))⟩
theorem setAll_len : ∀ {is : List Nat} {ds : List D} {env env' : SEnv}, setAll is ds env = some env' → ds.length = is.length
  | [], [], _, _, _ => rfl
  | [], _ :: _, _, _, e => by cases e
  | _ :: _, [], _, _, e => by cases e
  | i :: is, d :: ds, env, env', e => congrArg (· + 1) (setAll_len (is := is) e)
theorem tg_tup {es : List Expr} {k : Nat} {is : List Nat} {p : Pos} (hK : X.K = c.K) (hc : X.calm = true) (h : PGs X es (gNames is)) (hn : (assignEach es X.env).length = is.length) (hst : (assignEach es X.env).findIdx? (·.1) = none) : PG X (.Tuple es k p) (TGx c is (tTupl is)) :=
  pg_imp (pg_tup hc h hn hst) fun v σ H Q ⟨P, env, S, d, env', s, r, e, k⟩ => by
    unfold tTupl at e
    cases r with
    | tup sq rs =>
      refine ⟨_, _, rfl, by rw [hK]; exact .inl (.inl (s.le.tup sq)), ?_, setAll_ok s rs e k⟩
      rw [← rs.length, setAll_len e]
    | _ => cases e
/-- what a loop walks: the items -/
structure WalkD (c : Cc) (J : It) (P1 : Hp) (ds : List D) : Prop where
  w : Walk J ds.length (fun H => Le P1 H) (fun i H x H' => ∃ d, ds[i]? = some d ∧ ∀ P S, Same P1 P → Le P H → StoOk c.K c.G c.ρ P H S → ∃ P', Step c.ρ P H P' H' ∧ StoOk c.K c.G c.ρ P' H' S ∧ Rep c.K c.G P' d x)
def QI (c : Cc) (P H : Hp) (R : It → Hp → Prop) : List D → Sto → Prop := fun ds S1 => ∀ J P1 H1, Step c.ρ P H P1 H1 → StoOk c.K c.G c.ρ P1 H1 S1 → WalkD c J P1 ds → R J H1
def TIx (c : Cc) (it : Ix) : TI := fun σ H R => ∃ P env S, Stt c P H env σ S ∧ (it env S).post (QI c P H R) (XP c P H)
def forL (tg : Tx) (b : Sx) : List D → SEnv → Sto → Out Fl
  | [], env, S => .ok (.nx env) S
  | d :: ds, env, S => match tg env d with
    | none => .bad
    | some env1 => (b env1 S).bind fun fl S => match fl with
      | .nx env2 => forL tg b ds env2 S
      | .ret r => .ok (.ret r) S
def forS (tg : Tx) (it : Ix) (b : Sx) : Sx := fun env S => (it env S).bind fun ds S => forL tg b ds env S
theorem sx_for {tgt iter : Expr} {body : List Stmt} {tg : Tx} {it : Ix} {b : Sx} (hp : PassesOwn (model X.prog X.w) X.A X.env X.xe) (hc : X.calm = true) (hi : PI X tgt iter (TIx c it)) {is : List Nat} (hg : PG X tgt (TGx c is tg)) (hb : PSs X body (TSx c b))
    (hs : ∀ x, foldedSetIterable iter X.env x = pure x) : PS X (.For tgt iter body [] pos) (TSx c (forS tg it b)) := by
  refine ps_imp (ps_for hp hc hi hg hb hs) fun D σ H ⟨P, env, S, s, h⟩ => ⟨P, env, S, s, post_mono (post_bind.mp h) (fun ds S1 q J P1 H1 st so wd => ?_) fun _ _ _ q => q.step s.st⟩
  have s1 := s.step st so
  refine for_it wd.w (fun i σ H => ∃ P env S, Stt c P H env σ S ∧ Same P1 P ∧ PF c P1 D (forL tg b (ds.drop i) env S)) ⟨P1, env, S1, s1, Same.refl _, PF.step st.pp q⟩ (fun i σ H _ ⟨P, _, _, s, e, _⟩ a u h => s.le a u (e a u h)) ?_ ?_
  · rintro i x σ2 H2 H3 hi ⟨P2, env2, S2, s2, e2, q2⟩ ⟨d, hd, y⟩
    obtain ⟨P3, st3, so3, r3⟩ := y P2 S2 e2 s2.le s2.so
    have s3 := s2.step st3 so3
    have hdr : ds.drop i = d :: ds.drop (i + 1) := by
      rw [List.drop_eq_getElem_cons hi]
      rw [List.getElem?_eq_getElem hi] at hd
      rw [Option.some.inj hd]
    rw [hdr] at q2
    unfold forL at q2
    cases qt : tg env2 d with
    | none => rw [qt] at q2; exact q2.elim
    | some env3 =>
      rw [qt] at q2
      refine ⟨P3, env2, S2, d, env3, s3, r3, qt, fun σ' s4 _ => ⟨P3, env3, S2, s4, post_mono (post_bind.mp q2) (fun fl S4 q4 => ?_) fun _ _ _ q => q⟩⟩
      cases fl with
      | nx env5 => exact fun P5 H5 σ5 e5 s5 => ⟨P5, env5, S4, s5, e2.trans (st3.pp.trans e5), q4⟩
      | ret r => exact q4
  · rintro σ2 H2 ⟨P2, env2, S2, s2, e2, q2⟩
    rw [List.drop_length] at q2
    exact q2 P2 H2 σ2 e2 s2
def whileL (t : Ex) (b : Sx) : Nat → SEnv → Sto → Out Fl
  | 0, _, _ => .bad
  | n + 1, env, S => (t env S).bind fun r S => match r with
    | ⟨false, .bl true⟩ => (b env S).bind fun fl S => match fl with
      | .nx env2 => whileL t b n env2 S
      | .ret r => .ok (.ret r) S
    | ⟨false, .bl false⟩ => .ok (.nx env) S
    | _ => .bad
def whileS (n : Nat) (t : Ex) (b : Sx) : Sx := fun env S => whileL t b n env S
theorem sx_while {t : Expr} {body : List Stmt} {b : Sx} (n : Nat) (hp : PassesOwn (model X.prog X.w) X.A X.env X.xe) (ht : PT X t (TTx c z)) (hb : PSs X body (TSx c b)) : PS X (.While t body [] pos) (TSx c (whileS n z b)) := by
  refine ps_imp (ps_while hp ht hb) fun D σ H ⟨P, env, S, s, h⟩ => ⟨fun m σ H => ∃ P2 env S, Stt c P2 H env σ S ∧ Same P P2 ∧ PF c P D (whileL z b m env S), ⟨n, P, env, S, s, Same.refl _, h⟩, ?_⟩
  rintro m σ2 H2 ⟨P2, env2, S2, s2, e2, q2⟩
  cases m with
  | zero => exact q2.elim
  | succ m =>
    unfold whileL at q2
    refine tt_in s2 q2 (fun r S1 q => ite_inv q) fun k S1 P3 H3 st3 s3 q3 => ?_
    cases k with
    | true =>
      refine iteT ⟨_, fun σ' H' w => ⟨m, Nat.lt_succ_self m, w⟩, P3, env2, S1, s3, post_mono (post_bind.mp q3) (fun fl S4 q4 => ?_) fun _ _ _ q => q⟩
      cases fl with
      | nx env5 => exact fun P5 H5 σ5 e5 s5 => ⟨P5, env5, S4, s5, e2.trans (st3.pp.trans e5), q4⟩
      | ret r => exact q4
    | false => exact iteF (q3 P3 H3 σ2 (e2.trans st3.pp) s3)

/-! ### a def -/
def runF (b : Sx) (m : Nat) (as : List Arg) (S : Sto) : Out R := (b (as.map Arg.sl ++ List.replicate (m - as.length) .un) S).bind fun fl S => match fl with
  | .nx _ => .ok ⟨false, .non⟩ S
  | .ret r => .ok r S
theorem start_ok {K : PySem.W.Frag} {G : Nat → Option (Addr × List Str)} {xc : Nat → Value} {ρ : List Addr} {as : List Arg} {vs : List V} {E : XK} {N : List Str} (le : Le P H) (so : StoOk K G ρ P H S) (ra : ArgsOk K G ρ P as vs) (hl : vs.length ≤ N.length) :
    Stt ⟨K, G, xc, ρ, P, H, E⟩ P H (as.map Arg.sl ++ List.replicate (N.length - as.length) .un) (L2.start N vs) S := by
  have al := Paired.length ra
  have own : ∀ i, (sget (as.map Arg.sl ++ List.replicate (N.length - as.length) .un) i).isOwn = false := fun i => by
    unfold sget
    rw [List.getD_eq_getElem?_getD]
    by_cases hi : i < as.length
    · rw [List.getElem?_append_left (by simpa using hi), List.getElem?_map, List.getElem?_eq_getElem hi]
      show (Arg.sl as[i]).isOwn = false
      cases as[i] <;> rfl
    · rw [List.getElem?_append_right (by simpa using hi), List.getElem?_replicate]
      split <;> rfl
  refine ⟨Step.refl le, fun a h => so.new h, so, ?_, fun i => ?_, fun i j a e => by rw [own i] at e; cases e⟩
  · unfold L2.start
    rw [List.length_append, List.length_append, List.length_map, List.length_map, List.length_replicate, List.length_replicate]
    omega
  · unfold sget L2.start
    rw [List.getD_eq_getElem?_getD]
    by_cases hi : i < as.length
    · have hv : i < vs.length := by omega
      rw [List.getElem?_append_left (by simpa using hi), List.getElem?_map, List.getElem?_eq_getElem hi, List.getElem?_append_left (by simpa using hv), List.getElem?_map, List.getElem?_eq_getElem hv]
      obtain ⟨v, e, r⟩ := paired_get ra (List.getElem?_eq_getElem hi)
      rw [List.getElem?_eq_getElem hv] at e
      cases e
      show SlOk _ P H (Arg.sl as[i]) (some (some vs[i]))
      cases q : as[i] with
      | sh d => rw [q] at r; exact ⟨_, rfl, r⟩
      | ref n =>
        rw [q] at r
        obtain ⟨a, e, w⟩ := r
        exact ⟨a, by rw [e], w⟩
    · rw [List.getElem?_append_right (by simpa using hi), List.getElem?_replicate]
      have : ((if i - (as.map Arg.sl).length < N.length - as.length then some Sl.un else none) : Option Sl).getD .un = .un := by split <;> rfl
      rw [this]
      trivial
end
end Pv

set_option Elab.async false
set_option linter.all false
set_option maxRecDepth 100000
namespace Pv
open PySem PySem.Spec PyProof.Rows L2

def clr (env : SEnv) : List Nat → SEnv
  | [] => env
  | v :: vs => (clr env vs).set v .un
def nox {α : Type} (o : Out α) : Out α := match o with
  | .ok a S => .ok a S
  | _ => .bad
theorem nox_post {α : Type} {o : Out α} {QQ : α → Sto → Prop} {E E' : Nat → List D → Sto → Prop} (h : (nox o).post QQ E) : o.post QQ E' := by
  cases o with
  | ok a S => exact h
  | _ => exact h.elim
/-- within a comprehension's block nothing is raised -/
abbrev Cc.in0 (c : Cc) : Cc := { c with E := E0 }
section
variable {X : Cx} {c : Cc} {P H P1 H1 : Hp} {env : SEnv} {σ : L2.St} {S S1 : Sto} {x y z : Ex} {pos : Pos}
theorem Stt.setUn (i : Nat) (s : Stt c P H env σ S) : Stt c P H (env.set i .un) (σ.set i none) S := by
  by_cases hi : i < env.length
  · have hs : i < σ.length := by rw [← s.ln]; exact hi
    refine ⟨s.st, s.r0, s.so, by rw [List.length_set, List.length_set]; exact s.ln, fun j => ?_, fun j k a e1 e2 e3 e4 => ?_⟩
    · by_cases hj : i = j
      · subst hj
        rw [sget_set_self hi]
        trivial
      · rw [sget_set_ne hj, List.getElem?_set_ne hj]
        exact s.sl j
    · by_cases hj : i = j
      · subst hj; rw [sget_set_self hi] at e1; cases e1
      · by_cases hk : i = k
        · subst hk; rw [sget_set_self hi] at e2; cases e2
        · rw [sget_set_ne hj] at e1
          rw [sget_set_ne hk] at e2
          rw [List.getElem?_set_ne hj] at e3
          rw [List.getElem?_set_ne hk] at e4
          exact s.dj j k a e1 e2 e3 e4
  · rw [List.set_eq_of_length_le (by omega), List.set_eq_of_length_le (by rw [← s.ln]; omega)]
    exact s
theorem Stt.clr (s : Stt c P H env σ S) : ∀ vs : List Nat, Stt c P H (Pv.clr env vs) (wipe σ vs) S
  | [] => s
  | v :: vs => (Stt.clr s vs).setUn v
theorem SlOk.in0 {s : Sl} {o : Option (Option V)} (h : SlOk c P H s o) : SlOk c.in0 P H s o := by cases s <;> exact h
theorem Stt.in0 (s : Stt c P H env σ S) : Stt c.in0 P H env σ S := ⟨s.st, s.r0, s.so, s.ln, fun i => (s.sl i).in0, s.dj⟩
/-- the object at D, new since (P1, H1), is changed -/
theorem Step.wr {ρ : List Addr} {D : Addr} {u : HO} (st : Step ρ P H P1 H1) (n : H D = none) (p1 : P1 D = none) (hd : H1 D ≠ none) : Step ρ P H P1 (upd H1 D u) :=
  ⟨fun a w e => by
      have ne : a ≠ D := fun z => by subst z; rw [p1] at e; cases e
      rw [upd_ne ne]; exact st.le a w e,
    st.pp, fun a w e m => by
      have ne : a ≠ D := fun z => by subst z; rw [n] at e; cases e
      rw [upd_ne ne]; exact st.hh a w e m,
    fun a e => by
      by_cases z : a = D
      · subst z; rw [upd_same] at e; cases e
      · rw [upd_ne z] at e; exact st.dom a e, st.new, st.cel⟩
theorem StoOk.wr {K : PySem.W.Frag} {G : Nat → Option (Addr × List Str)} {ρ : List Addr} {D : Addr} {u : HO} (s : StoOk K G ρ P H S) (nd : D ∉ ρ) : StoOk K G ρ P (upd H D u) S :=
  ⟨s.len, s.nd, fun n d e => by
    obtain ⟨a, ha, pa, r⟩ := s.at_ n d e
    have ne : a ≠ D := fun z => nd (z ▸ List.mem_of_getElem? ha)
    exact ⟨a, ha, pa, r.mono (Same.refl P) fun w hw => by rw [upd_ne ne]; exact hw⟩⟩
theorem Stt.wr {D : Addr} {u : HO} (s : Stt c P H env σ S) (n : c.H0 D = none) (p : P D = none) (hd : H D ≠ none) (hn : ∀ j, (sget env j).isOwn = true → σ[j]? ≠ some (some (.ref D))) : Stt c P (upd H D u) env σ S := by
  refine ⟨s.st.wr n p hd, s.r0, s.so.wr (s.r0 D n), s.ln, fun i => ?_, s.dj⟩
  have sl := s.sl i
  have hni := hn i
  cases q : sget env i with
  | un => trivial
  | sh d => rw [q] at sl; exact sl
  | ref m => rw [q] at sl; exact sl
  | own d =>
    rw [q] at sl hni
    obtain ⟨a, e, hp, h0, r⟩ := sl
    have ne : a ≠ D := fun z => hni rfl (by rw [e, z])
    exact ⟨a, e, hp, h0, r.mono (Same.refl P) fun w hw => by rw [upd_ne ne]; exact hw⟩
  | lk d =>
    rw [q] at sl hni
    obtain ⟨a, od, w, e, hp, h0, hf, r⟩ := sl
    have ne : a ≠ D := fun z => hni rfl (by rw [e, z])
    exact ⟨a, od, w, e, hp, h0, by rw [upd_ne ne]; exact hf, r.mono (Same.refl P) fun w' hw => by rw [upd_same] at hw ⊢; exact hw⟩

/-! ### what is walked within an expression: all that stands, stays -/
structure WalkE (c : Cc) (J : It) (P1 H1 : Hp) (ds : List D) : Prop where
  w : Walk J ds.length (fun H => ∃ P, Step c.ρ P1 H1 P H) (fun i H x H' => ∃ d, ds[i]? = some d ∧ ∀ P S, Same P1 P → Le P H → StoOk c.K c.G c.ρ P H S → ∃ P', Step c.ρ P H P' H' ∧ StoOk c.K c.G c.ρ P' H' S ∧ Rep c.K c.G P' d x)
theorem WalkD.e {J : It} {ds : List D} (w : WalkD c J P1 ds) : WalkE c J P1 H1 ds := ⟨w.w.mono (fun H ⟨P, st⟩ a u e => st.le a u (st.pp a u e)) fun _ _ _ _ _ _ y => y⟩
def QIe (c : Cc) (P H : Hp) (R : It → Hp → Prop) : List D → Sto → Prop := fun ds S1 => ∀ J P1 H1, Step c.ρ P H P1 H1 → StoOk c.K c.G c.ρ P1 H1 S1 → WalkE c J P1 H1 ds → R J H1
def TIe (c : Cc) (it : Ix) : TI := fun σ H R => ∃ P env S, Stt c P H env σ S ∧ (it env S).post (QIe c P H R) (XP c P H)
theorem ti_e {tg e : Expr} {it : Ix} (h : PI X tg e (TIx c it)) : PI X tg e (TIe c it) := pi_imp h fun σ H R ⟨P, env, S, s, h⟩ => ⟨P, env, S, s, post_mono h (fun ds S1 q J P1 H1 st so w => q J P1 H1 st so w.e) fun _ _ _ q => q⟩
/-! ### list comprehensions -/
def compL (tg : Tx) (t e : Ex) (env : SEnv) : List D → Sto → Out (List D)
  | [], S => .ok [] S
  | d :: ds, S => match tg env d with
    | none => .bad
    | some env1 => (nox (t env1 S)).bind fun r S => match r with
      | ⟨false, .bl true⟩ => (nox (e env1 S)).bind fun v S => (compL tg t e env ds S).bind fun out S => .ok (v.d :: out) S
      | ⟨false, .bl false⟩ => compL tg t e env ds S
      | _ => .bad
def compX (vs : List Nat) (tg : Tx) (it : Ix) (t e : Ex) : Ex := fun env S => (it env S).bind fun ds S => if ds.length ≤ line then (compL tg t e (clr env vs) ds S).bind fun out S => .ok ⟨true, .lst out⟩ S else .bad
def EF : Nat → List D → Sto → Prop := fun _ _ _ => False
theorem nox_in {α : Type} {x : Ex} {f : R → Sto → Out α} {QQ : α → Sto → Prop} {E : Nat → List D → Sto → Prop} {Q' : VK} (s : Stt c P H env σ S) (h : ((nox (x env S)).bind f).post QQ E)
    (k : ∀ r S1 v P1 H1, Step c.ρ P H P1 H1 → Stt c P1 H1 env σ S1 → Rep c.K c.G P1 r.d v → (f r S1).post QQ E → Q' v H1) : TEx c.in0 x σ H Q' :=
  ⟨P, env, S, s.in0, post_mono (nox_post (E' := EF) (post_bind.mp h)) (fun r S1 q v P1 H1 st so rr => by
    obtain ⟨P2, st2, so2, _, rp⟩ := rr.frz st so s.new0
    exact k r S1 v P2 H1 st2 (s.step st2 so2) rp q) fun _ _ _ q => q.elim⟩
theorem nox_tt {α : Type} {x : Ex} {f : R → Sto → Out α} {QQ : α → Sto → Prop} {E : Nat → List D → Sto → Prop} {Q' : Bool → Hp → Prop} (s : Stt c P H env σ S) (h : ((nox (x env S)).bind f).post QQ E) (hb : ∀ r S1, (f r S1).post QQ E → ∃ b, r = ⟨false, .bl b⟩)
    (k : ∀ b S1 P1 H1, Step c.ρ P H P1 H1 → Stt c P1 H1 env σ S1 → (f ⟨false, .bl b⟩ S1).post QQ E → Q' b H1) : TTx c.in0 x σ H Q' :=
  ⟨P, env, S, s.in0, post_mono (nox_post (E' := EF) (post_bind.mp h)) (fun r S1 q => by
    obtain ⟨b, rfl⟩ := hb r S1 q
    exact ⟨b, rfl, fun P1 H1 st so => k b S1 P1 H1 st (s.step st so) q⟩) fun _ _ _ q => q.elim⟩
/-- the state of a comprehension's loop at turn i -/
def LcInv (c : Cc) (tg : Tx) (t e : Ex) (env : SEnv) (σ : L2.St) (P1 H1 : Hp) (D0 : Addr) (ds : List D) (QQ : List D → Sto → Prop) (E : Nat → List D → Sto → Prop) (i : Nat) (H : Hp) : Prop :=
  ∃ P S acc av, Stt c P H env σ S ∧ Step c.ρ P1 H1 P H ∧ P D0 = none ∧ H D0 = some (.lst av) ∧ Reps c.K c.G P acc av ∧ acc.length ≤ i ∧ (compL tg t e env (ds.drop i) S).post (fun out S' => QQ (acc ++ out) S') E
theorem lc_top {vs : List Nat} {tg : Tx} {it : Ix} {t e : Ex} {is : List Nat} (his : ∀ i ∈ is, i ∈ vs) : ∀ σ H Q, TEx c (compX vs tg it t e) σ H Q → tLc (TIe c it) (TGx c.in0 is tg) (TTx c.in0 t) (TEx c.in0 e) vs σ H Q := by
  rintro σ H Q ⟨P, env, S, s, h⟩
  refine ⟨P, env, S, s, post_mono (post_bind.mp h) (fun ds S1 q J P1 H1 st so wd D0 nD => ?_) fun _ _ _ q => q⟩
  have s1 := s.step st so
  have hl : ds.length ≤ line := by
    by_cases hl : ds.length ≤ line
    · exact hl
    · rw [if_neg hl] at q; exact q.elim
  rw [if_pos hl] at q
  have q := post_bind.mp q
  have nP : P1 D0 = none := st.le.none nD
  have n0 : c.H0 D0 = none := s1.st.dom D0 nD
  have nown : ∀ j, (sget (Pv.clr env vs) j).isOwn = true → (wipe σ vs)[j]? ≠ some (some (.ref D0)) := fun j hj e2 => by
    obtain ⟨_, _, u, hu⟩ := (s1.clr vs).ownAt hj e2
    rw [nD] at hu; cases hu
  have sa : Stt c P1 (upd H1 D0 (.lst [])) (Pv.clr env vs) (wipe σ vs) S1 := (s1.clr vs).step (Step.alloc st.le nD) (so.alloc st.le nD)
  refine lc_it wd.w (D := D0) (LcInv c tg t e (Pv.clr env vs) (wipe σ vs) P1 H1 D0 ds (fun out S' => QX c P H Q ⟨true, .lst out⟩ S') (XP c P H)) ⟨P1, S1, [], [], sa, Step.alloc st.le nD, nP, upd_same, .nil, Nat.le_refl _, by rw [List.drop_zero]; exact q⟩ ?_ ?_ ?_
  · rintro i H2 _ ⟨P2, S2, acc, av, s2, st2, _⟩
    exact ⟨P2, st2⟩
  · rintro i x H2 H3 hi ⟨P2, S2, acc, av, s2, st2, p2, d2, r2, l2, q2⟩ ⟨d, hd, y⟩
    obtain ⟨P3, st3, so3, r3⟩ := y P2 S2 st2.pp s2.le s2.so
    have s3 := s2.step st3 so3
    have hdr : ds.drop i = d :: ds.drop (i + 1) := by
      rw [List.drop_eq_getElem_cons hi]
      rw [List.getElem?_eq_getElem hi] at hd
      rw [Option.some.inj hd]
    rw [hdr] at q2
    unfold compL at q2
    have kD : ∀ {Pa Ha Pb Hb : Hp}, Step c.ρ Pa Ha Pb Hb → Pa D0 = none → (∀ {w}, Ha D0 = some (.lst w) → Pb D0 = none ∧ Hb D0 = some (.lst w)) := fun {Pa Ha Pb Hb} sx pa {w} hw =>
      ⟨sx.new D0 _ (s.r0 D0 n0) pa hw (fun xs z => nomatch z), sx.hh D0 _ hw (s.r0 D0 n0)⟩
    obtain ⟨p3, d3⟩ := kD st3 p2 d2
    cases qt : tg (Pv.clr env vs) d with
    | none => rw [qt] at q2; exact q2.elim
    | some env3 =>
      rw [qt] at q2
      refine ⟨P3, Pv.clr env vs, S2, d, env3, s3.in0, r3, qt, fun σ' s4' hw => ⟨(hw vs his).trans (wipe_wipe σ vs), ?_⟩⟩
      have s4 : Stt c P3 H3 env3 σ' S2 := ⟨s4'.st, s4'.r0, s4'.so, s4'.ln, fun j => by have := s4'.sl j; cases hq : sget env3 j <;> rw [hq] at this <;> exact this, s4'.dj⟩
      refine nox_tt s4 q2 (fun r Sx q => ite_inv q) fun k S5 P5 H5 st5 s5 q5 => ?_
      obtain ⟨p5, d5⟩ := kD st5 p3 d3
      have back : ∀ {Pk Hk : Hp} {Sk : Sto}, Step c.ρ P1 H1 Pk Hk → StoOk c.K c.G c.ρ Pk Hk Sk → Stt c Pk Hk (Pv.clr env vs) (wipe σ vs) Sk := fun {Pk Hk Sk} a b => (s1.clr vs).step a b
      have st15 := st2.trans (st3.trans st5)
      cases k with
      | false => exact iteF ⟨P5, S5, acc, av, back st15 s5.so, st15, p5, d5, r2.mono (st3.pp.trans st5.pp), Nat.le_succ_of_le l2, q5⟩
      | true =>
        refine iteT (nox_in s5 q5 fun r S6 v P6 H6 st6 s6 r6 q6 => ?_)
        obtain ⟨p6, d6⟩ := kD st6 p5 d5
        have st16 := st15.trans st6
        have la := r2.length
        refine ⟨av, d6, by rw [← la, ← line_eq]; omega, P6, S6, acc ++ [r.d], av ++ [v], ?_, st16.wr nD p6 (by rw [d6]; exact fun z => nomatch z), p6, upd_same, (r2.mono (st3.pp.trans (st5.pp.trans st6.pp))).append (.cons r6 .nil), by rw [List.length_append]; exact Nat.succ_le_succ l2, ?_⟩
        · exact (back st16 s6.so).wr n0 p6 (by rw [d6]; exact fun z => nomatch z) nown
        · exact post_mono (post_bind.mp q6) (fun out S7 q7 => by rw [List.append_assoc]; exact q7) fun _ _ _ q => q
  · rintro H2 ⟨P2, S2, acc, av, s2, st2, p2, d2, r2, l2, q2⟩
    rw [List.drop_length] at q2
    have q2 : QX c P H Q ⟨true, .lst (acc ++ [])⟩ S2 := q2
    rw [List.append_nil] at q2
    refine q2 (.ref D0) P2 H2 (st.trans st2) s2.so ?_
    unfold RepR
    rw [if_pos rfl]
    exact ⟨D0, rfl, st.dom D0 nD, p2, .lst d2 r2⟩
where
  wipe_wipe (σ : L2.St) : ∀ vs : List Nat, wipe (wipe σ vs) vs = wipe σ vs := fun vs => ww σ vs vs fun _ h => h
  ww (σ : L2.St) : ∀ (us vs : List Nat), (∀ i ∈ us, i ∈ vs) → wipe (wipe σ us) vs = wipe σ vs
    | [], _, _ => rfl
    | u :: us, vs, h => by
      show wipe ((wipe σ us).set u none) vs = _
      rw [wipe_set (h u List.mem_cons_self)]
      exact ww σ us vs fun i hi => h i (List.mem_cons_of_mem _ hi)
theorem pd_lc {elt tgt iter : Expr} {ifs : List Expr} {scope : Scope} {own : List (Str × Nat)} {tg : Tx} {it : Ix} {t e : Ex} {is : List Nat} (hc : X.calm = true) (hN : X.N.Nodup) (hi : PI X tgt iter (TIe c it)) (ok : BlkOk X.N X.env.scope scope own) (his : ∀ i ∈ is, i ∈ own.map (·.2))
    (hg : ∀ (s : Shared) (H : Hp) (C : Addr) (cl : List (Str × Addr)) (fp : List Addr), PG (X.blk s H scope (compEnvC scope cl C X.env) fp) tgt (TGx c.in0 is tg)) (ht : ∀ (s : Shared) (H : Hp) (C : Addr) (cl : List (Str × Addr)) (fp : List Addr), PTs (X.blk s H scope (compEnvC scope cl C X.env) fp) ifs (TTx c.in0 t))
    (he : ∀ (s : Shared) (H : Hp) (C : Addr) (cl : List (Str × Addr)) (fp : List Addr), PE (X.blk s H scope (compEnvC scope cl C X.env) fp) elt (TEx c.in0 e)) (hs : ∀ x, foldedSetIterable iter X.env x = pure x) :
    PE X (.ListComp elt [⟨tgt, iter, ifs, 0⟩] scope pos) (TEx c (compX (own.map (·.2)) tg it t e)) := pe_imp (pe_lc hc hN hi ok hg ht he hs) (lc_top his)
theorem pts_imp {es : List Expr} {t t' : TT} (h : PTs X es t) (i : ∀ σ H Q, t' σ H Q → t σ H Q) : PTs X es t' := ⟨fun pins s σ H Q I w => h.run pins s σ H Q I (i σ H Q w)⟩
theorem pts_none : PTs X [] (TTx c (con (.bl true))) := pts_imp pts_nil fun σ H Q ⟨P, env, S, s, h⟩ => by
  obtain ⟨b, e, w⟩ := h
  cases e
  exact w P H (Step.refl s.le) s.so
/-- name = [..] -/
theorem tAsg_lc {i : Nat} {vs : List Nat} {tg : Tx} {it : Ix} {t e : Ex} {is : List Nat} (his : ∀ i ∈ is, i ∈ vs) : ∀ D σ H, TSx c (setS i (compX vs tg it t e)) D σ H → tAsg (tLc (TIe c it) (TGx c.in0 is tg) (TTx c.in0 t) (TEx c.in0 e) vs) (gName i) D σ H := fun D σ H h =>
  lc_top his σ H _ (set_top D σ H h)
theorem tAsg_lcO {i : Nat} {vs : List Nat} {tg : Tx} {it : Ix} {t e : Ex} {is : List Nat} (his : ∀ i ∈ is, i ∈ vs) : ∀ D σ H, TSx c (setO i (compX vs tg it t e)) D σ H → tAsg (tLc (TIe c it) (TGx c.in0 is tg) (TTx c.in0 t) (TEx c.in0 e) vs) (gName i) D σ H := fun D σ H h =>
  lc_top his σ H _ (setO_top D σ H h)

/-! ### what is walked -/
def iVal (x : Ex) : Ix := fun env S => (x env S).bind fun a S => match seqD a.d with
  | some l => .ok l S
  | none => .bad
def iRange1 (x : Ex) : Ix := fun env S => (x env S).bind fun a S => match a.d with
  | .int n => if n ≤ line then .ok ((List.range n.toNat).map fun (i : Nat) => D.int i) S else .bad
  | _ => .bad
def iRange2 (x y : Ex) : Ix := fun env S => (x env S).bind fun a S => (y env S).bind fun b S => match a.d, b.d with
  | .int m, .int n => if -line ≤ m ∧ n ≤ line then .ok ((List.range (n - m).toNat).map fun (i : Nat) => D.int (m + i)) S else .bad
  | _, _ => .bad
theorem qi_step {P H P1 H1 : Hp} {R : It → Hp → Prop} {r : List D} {S : Sto} (st : Step c.ρ P H P1 H1) (h : QI c P H R r S) : QI c P1 H1 R r S := fun J P' H' s so w => h J P' H' (st.trans s) so w
theorem walkD_at {J : It} {ds : List D} {xs : List V} {Gq : Hp → Prop} (w : Walk J ds.length Gq (YAt xs)) (hg : ∀ H, Le P1 H → Gq H) (r : Reps c.K c.G P1 ds xs) : WalkD c J P1 ds :=
  ⟨w.mono hg fun i H x H' hi _ y => by
    obtain ⟨rfl, e⟩ := y
    obtain ⟨d, hd, rd⟩ := r.getV e
    exact ⟨d, hd, fun P S e2 le so => ⟨P, Step.refl le, so, rd.mono e2⟩⟩⟩
end
end Pv

set_option Elab.async false
set_option linter.all false
set_option maxRecDepth 100000
namespace Pv
open PySem PySem.Spec PyProof.Rows L2

/-! ### zip of two sequences, each a list (false) or a tuple (true) -/
def ItK (k : Bool) (h : Heap) (it l : Addr) (i : Nat) : Prop := if k = true then h.IsTupleIter it l i else h.IsListIter it l i
def SqK (k : Bool) (h : Heap) (l : Addr) (its : Array Value) : Prop := if k = true then h.IsTuple l its else h.IsList l its
def nmK (k : Bool) : String := if k = true then "tuple_iterator" else "list_iterator"
theorem itK_obj {k : Bool} {h : Heap} {it l : Addr} {i : Nat} (x : ItK k h it l i) : ∃ o, h.get? it = some o ∧ ∀ v, o.data ≠ .cell v := by
  cases k with
  | true => obtain ⟨o, e, _, d⟩ := (show h.IsTupleIter it l i from x); exact ⟨o, e, fun v z => by rw [d] at z; cases z⟩
  | false => obtain ⟨o, e, _, d⟩ := (show h.IsListIter it l i from x); exact ⟨o, e, fun v z => by rw [d] at z; cases z⟩
theorem itK_keep {k : Bool} {h h' : Heap} {it l : Addr} {i : Nat} (x : ItK k h it l i) (hk : ∀ o, h.get? it = some o → h'.get? it = some o) : ItK k h' it l i := by
  cases k with
  | true => exact (show h.IsTupleIter it l i from x).at hk
  | false => exact (show h.IsListIter it l i from x).at hk
theorem drawK {prog : Program} {w : World} {A : Around} (k : Bool) (hh : A.handled = none) (it l : Addr) (ne : l ≠ it) (its : Array Value) :
    Draws prog w A it [it, l] its.size (fun i v => its[i]? = some v) (fun i h => ItK k h it l i ∧ SqK k h l its) := by
  cases k with
  | true => exact Draws.tuple hh it l ne its
  | false => exact Draws.list hh it l ne its
theorem sqK_lt {k : Bool} {h : Heap} {l : Addr} {its : Array Value} (x : SqK k h l its) : l < h.objs.size := by
  cases k with
  | true => obtain ⟨o, e, _⟩ := (show h.IsTuple l its from x); exact Heap.lt_size e
  | false => obtain ⟨o, e, _⟩ := (show h.IsList l its from x); exact Heap.lt_size e
def h1K (k : Bool) (h : Heap) (l : Addr) : Heap := h.push { cls := .type (nmK k), data := .fields #[.ref l, .int 0 0] }
def zipK (k1 k2 : Bool) (h : Heap) (l1 l2 : Addr) : Heap :=
  (((h1K k2 (h1K k1 h l1) l2).push { cls := .type "tuple", data := .seq #[.ref h.objs.size, .ref (h.objs.size + 1)] }).push { cls := .type "tuple", data := .seq #[.none, .none] }).push
    { cls := .type "zip", data := .fields #[.none, .bool false, .bool false, .ref (h.objs.size + 2), .ref (h.objs.size + 3)] }
theorem pyIterK {prog : Program} {w : World} {A : Around} {E : Value → Shared → Prop} {s : Shared} {l : Addr} {its : Array Value} {Q : Value → Shared → Prop} (k : Bool) (h : SqK k s.heap l its)
    (q : Q (.ref s.heap.objs.size) { s with heap := h1K k s.heap l }) : wpAny (model prog w) A (pyIter (.ref l)) Q E s := by
  cases k with
  | true => exact wpAny_pyIter_tuple (show s.heap.IsTuple l its from h) q
  | false => exact wpAny_pyIter_list (show s.heap.IsList l its from h) q
theorem sqK_push {k : Bool} {h : Heap} {l : Addr} {its : Array Value} (x : SqK k h l its) (o : Obj) : SqK k (h.push o) l its := by
  cases k with
  | true => exact Heap.IsTuple.push (show h.IsTuple l its from x) _
  | false => exact Heap.IsList.push (show h.IsList l its from x) _
theorem newK (k1 k2 : Bool) (l1 l2 : Addr) (xs ys : Array Value) :
    Meets (Builtin.«zip.__new__» ⟨[.type "zip", .ref l1, .ref l2], []⟩)
      (fun _ Q s => SqK k1 s.heap l1 xs ∧ SqK k2 s.heap l2 ys ∧ Q (.ok (.ret (.ref (s.heap.objs.size + 4)))) { s with heap := zipK k1 k2 s.heap l1 l2 }) :=
  Meets.of_wp fun prog w A Q s hyp => by
    obtain ⟨h0, gens, dr, tk, os⟩ := s
    obtain ⟨a1, a2, q⟩ := hyp
    have isZ := sub_zip
    have b1 : SqK k1 (Shared.heap ⟨h0, gens, dr, tk, os⟩) l1 xs := a1
    have b2 : SqK k2 (Shared.heap ⟨h1K k1 h0 l1, gens, dr, tk, os⟩) l2 ys := sqK_push a2 _
    have e1 : (h1K k1 h0 l1).objs.size = h0.objs.size + 1 := Heap.size_push ..
    have e2 : (h1K k2 (h1K k1 h0 l1) l2).objs.size = h0.objs.size + 2 := (Heap.size_push ..).trans (congrArg (· + 1) e1)
    wp_walk using pyIterK k1 b1, pyIterK k2 b2
    refine ⟨_, rfl, ?_⟩
    simp only [zipK, e1, e2, Heap.size_push, Nat.add_assoc] at q ⊢
    exact q

section
variable {prog : Program} {w : World} {A : Around} {E : Value → Shared → Prop} {s : Shared}
theorem call_zipK (k1 k2 : Bool) {l1 l2 : Addr} {xs ys : Array Value} {Q : Value → Shared → Prop} (a1 : SqK k1 s.heap l1 xs) (a2 : SqK k2 s.heap l2 ys)
    (h : ∀ h', IsZip h' (s.heap.objs.size + 4) (s.heap.objs.size + 2) (s.heap.objs.size + 3) .none →
      IsTupOf2 h' (s.heap.objs.size + 2) (.ref s.heap.objs.size) (.ref (s.heap.objs.size + 1)) →
      IsTupOf2 h' (s.heap.objs.size + 3) .none .none → ItK k1 h' s.heap.objs.size l1 0 → ItK k2 h' (s.heap.objs.size + 1) l2 0 →
      (∀ b o, s.heap.get? b = some o → h'.get? b = some o) → Q (.ref (s.heap.objs.size + 4)) { s with heap := h' }) :
    wpAny (model prog w) A (call (.type "zip") [.ref l1, .ref l2]) Q E s := by
  have n1 : (h1K k1 s.heap l1).objs.size = s.heap.objs.size + 1 := Heap.size_push ..
  have n2 : (h1K k2 (h1K k1 s.heap l1) l2).objs.size = s.heap.objs.size + 2 := (Heap.size_push ..).trans (congrArg (· + 1) n1)
  have i1 : (h1K k1 s.heap l1).get? s.heap.objs.size = some { cls := .type (nmK k1), data := .fields #[.ref l1, .int 0 0] } := Heap.get?_push_size _ rfl
  have i2 : (h1K k2 (h1K k1 s.heap l1) l2).get? (s.heap.objs.size + 1) = some { cls := .type (nmK k2), data := .fields #[.ref l2, .int 0 0] } := by
    rw [← n1]; exact Heap.get?_push_size _ rfl
  generalize hb : h1K k2 (h1K k1 s.heap l1) l2 = hB at n2 i2
  have i1' : hB.get? s.heap.objs.size = some { cls := .type (nmK k1), data := .fields #[.ref l1, .int 0 0] } := by rw [← hb]; exact Heap.get?_push_of_some _ i1
  have old : ∀ b o, s.heap.get? b = some o → hB.get? b = some o := fun b o e => by
    rw [← hb]; exact Heap.get?_push_of_some _ (Heap.get?_push_of_some _ e)
  have mk : ∀ {k : Bool} {hh : Heap} {it l : Addr}, hh.get? it = some { cls := .type (nmK k), data := .fields #[.ref l, .int 0 0] } → ItK k hh it l 0 := fun {k hh it l} e => by
    cases k <;> exact ⟨_, e, rfl, rfl⟩
  refine callType_new F.called_zip (by decide) (F.typeCall_zip_2 (.ref l1) (.ref l2)) (F.newCall_zip_2 (.ref l1) (.ref l2))
    (fun z => F.args_object_init_3 z (.ref l1) (.ref l2)) F.entry_zip_new (newK k1 k2 l1 l2 xs ys) ⟨a1, a2, ?_⟩
  have key : ∀ {T : Obj} {U : Obj} {W : Obj}, T.isFreed = false → U.isFreed = false → W.isFreed = false → let hE := ((hB.push T).push U).push W
      hE.get? (s.heap.objs.size + 2) = some T ∧ hE.get? (s.heap.objs.size + 3) = some U ∧ hE.get? (s.heap.objs.size + 4) = some W ∧ ∀ b o, hB.get? b = some o → hE.get? b = some o := by
    intro T U W fT fU fW
    have m1 : (hB.push T).objs.size = s.heap.objs.size + 3 := (Heap.size_push ..).trans (congrArg (· + 1) n2)
    have m2 : ((hB.push T).push U).objs.size = s.heap.objs.size + 4 := (Heap.size_push ..).trans (congrArg (· + 1) m1)
    refine ⟨?_, ?_, ?_, fun b o e => ?_⟩
    · rw [← n2]; exact Heap.get?_push_of_some _ (Heap.get?_push_of_some _ (Heap.get?_push_size _ fT))
    · rw [← m1]; exact Heap.get?_push_of_some _ (Heap.get?_push_size _ fU)
    · rw [← m2]; exact Heap.get?_push_size _ fW
    · exact Heap.get?_push_of_some _ (Heap.get?_push_of_some _ (Heap.get?_push_of_some _ e))
  have hz : zipK k1 k2 s.heap l1 l2 = ((hB.push { cls := .type "tuple", data := .seq #[.ref s.heap.objs.size, .ref (s.heap.objs.size + 1)] }).push { cls := .type "tuple", data := .seq #[.none, .none] }).push
    { cls := .type "zip", data := .fields #[.none, .bool false, .bool false, .ref (s.heap.objs.size + 2), .ref (s.heap.objs.size + 3)] } := by rw [← hb]; rfl
  obtain ⟨q2, q3, q4, qo⟩ := key (T := { cls := .type "tuple", data := .seq #[.ref s.heap.objs.size, .ref (s.heap.objs.size + 1)] }) (U := { cls := .type "tuple", data := .seq #[.none, .none] })
    (W := { cls := .type "zip", data := .fields #[.none, .bool false, .bool false, .ref (s.heap.objs.size + 2), .ref (s.heap.objs.size + 3)] }) rfl rfl rfl
  rw [← hz] at q2 q3 q4 qo
  exact ⟨⟨_, q4, rfl⟩, h _ q4 q2 q3 (mk (qo _ _ i1')) (mk (qo _ _ i2)) fun b o e => qo _ _ (old b o e)⟩
end

/-- a list or a tuple that is read -/
def SqA (K : PySem.W.Frag) (H : Hp) (k : Bool) (a : Addr) (xs : List V) : Prop := if k = true then SqT K H a xs else SqL K H a xs
theorem inv_sqA {X : Cx} {pins : List (Addr × Obj)} {σ : L2.St} {H : Hp} {s : Shared} {k : Bool} {a : Addr} {xs : List V} (I : Inv X pins σ H s) (h : SqA X.K H k a xs) : ∃ its : List Value, Vals xs its ∧ SqK k s.heap a its.toArray := by
  cases k with
  | true =>
    obtain ⟨its, r, p, _⟩ := I.tuple (show SqT X.K H a xs from h)
    exact ⟨its, r, p⟩
  | false =>
    obtain ⟨its, r, p, _⟩ := I.list (show SqL X.K H a xs from h)
    exact ⟨its, r, p.isList⟩
theorem inv_sqA_inj {X : Cx} {pins : List (Addr × Obj)} {σ : L2.St} {H : Hp} {s : Shared} {k : Bool} {a : Addr} {xs ys : List V} (I : Inv X pins σ H s) (h : SqA X.K H k a xs) (h' : SqA X.K H k a ys) : xs = ys := by
  cases k with
  | true => exact I.tuple_inj h h'
  | false => exact I.list_inj h h'
def ItzK (K : PySem.W.Frag) (k1 k2 : Bool) (a b : Addr) : It :=
  ⟨fun i H => ∃ (xs ys : List V) (x y : V), SqA K H k1 a xs ∧ SqA K H k2 b ys ∧ xs[i]? = some x ∧ ys[i]? = some y,
    fun i H v H' => ∃ T x y, v = .ref T ∧ H T = none ∧ H' = upd H T (.tup [x, y]) ∧ (∀ xs, SqA K H k1 a xs → xs[i]? = some x) ∧ ∀ ys, SqA K H k2 b ys → ys[i]? = some y,
    fun i H => ∃ xs ys : List V, SqA K H k1 a xs ∧ SqA K H k2 b ys ∧ i = min xs.length ys.length⟩
theorem turn_zipK {P : Program} {w : World} {K : PySem.W.Frag} {elts : List Expr} {kk : Nat} {tpos : Pos} {k1 k2 : Bool} {a b z TI TO i1 i2 : Addr} (ne1 : a ≠ i1) (ne2 : b ≠ i2) (S : ZipSep2 z TI TO i1 i2 [i1, a] [i2, b]) :
    Turn P w K (.Tuple elts kk tpos) (ItzK K k1 k2 a b) [z, TI, TO, i1, i2] z
      (fun i h => IsZip h z TI TO .none ∧ IsTupOf2 h TI (.ref i1) (.ref i2) ∧ (∃ x y, IsTupOf2 h TO x y) ∧ ItK k1 h i1 a i ∧ ItK k2 h i2 b i) where
  mem := by simp
  obj := fun i h st d hd => by
    obtain ⟨hz, hTI, ⟨x, y, hTO⟩, h1, h2⟩ := st
    simp only [List.mem_cons, List.not_mem_nil, or_false] at hd
    rcases hd with q | q | q | q | q <;> subst q
    · exact ⟨_, hz, fun v q => nomatch q⟩
    · exact ⟨_, hTI, fun v q => nomatch q⟩
    · exact ⟨_, hTO, fun v q => nomatch q⟩
    · exact itK_obj h1
    · exact itK_obj h2
  keep := fun i h h' st k => by
    obtain ⟨hz, hTI, ⟨x, y, hTO⟩, h1, h2⟩ := st
    exact ⟨k z (by simp) _ hz, k TI (by simp) _ hTI, ⟨x, y, k TO (by simp) _ hTO⟩, itK_keep h1 (k i1 (by simp)), itK_keep h2 (k i2 (by simp))⟩
  item := by
    intro X hP hw hK hc i pins s σ H E I hf st hg
    subst hP hw hK
    obtain ⟨hz, hTI, ⟨x0, y0, hTO⟩, h1, h2⟩ := st
    obtain ⟨xs, ys, x, y, sx, sy, gx, gy⟩ := hg
    obtain ⟨us, rx, px⟩ := inv_sqA I sx
    obtain ⟨vs, ry, py⟩ := inv_sqA I sy
    have lx := rx.length
    have ly := ry.length
    obtain ⟨lx1, _⟩ := List.getElem?_eq_some_iff.mp gx
    obtain ⟨ly1, _⟩ := List.getElem?_eq_some_iff.mp gy
    have hh : X.A.in1.handled = none := I.ok.hd hc
    have zl : z < s.heap.objs.size := Heap.lt_size hz
    refine wpAny_pyNext_zipD2_item S (drawK k1 hh i1 a ne1 us.toArray) (drawK k2 hh i2 b ne2 vs.toArray) hz hTI hTO ⟨h1, px⟩ ⟨h2, py⟩ (by rw [List.size_toArray]; omega) (by rw [List.size_toArray]; omega)
      fun u v h' tk eu ev z' TO' t1 t2 nT hsz kp => ?_
    obtain ⟨u', hu', ru⟩ := rx.get gx
    obtain ⟨v', hv', rv⟩ := ry.get gy
    have eu' : u' = u := by
      have e : us[i]? = some u := by simpa using eu
      rw [hu'] at e; exact Option.some.inj e
    have ev' : v' = v := by
      have e : vs[i]? = some v := by simpa using ev
      rw [hv'] at e; exact Option.some.inj e
    subst eu' ev'
    refine ⟨_, rfl, wpAny_letOwnedTupleGo_zip (s := { s with heap := h', toks := tk }) z' fun h2' z'' sb => ?_⟩
    have hT2 : h2'.get? s.heap.objs.size = some { cls := .type "tuple", data := .seq #[u', v'] } := (sb.2 _ (Nat.ne_of_gt zl)).trans nT
    have pairOk : ObjOk X.prog X.w (upd H s.heap.objs.size (.tup [x, y])) h2' s.heap.objs.size (.tup [x, y]) :=
      ⟨by show 2 ≤ sizeLine; decide, [u', v'], .cons ru (.cons rv .nil), ⟨_, hT2, rfl, _, rfl⟩⟩
    have I1 : Inv X pins σ (upd H s.heap.objs.size (.tup [x, y])) { s with heap := h2', toks := tk } :=
      I.turnedNew (t' := tk) (ch := [z, TI, TO, i1, i2]) (fun d o hb q => by
        simp only [List.mem_cons, List.not_mem_nil, or_false, not_or] at hb
        exact (sb.2 d hb.1).trans (kp d o hb.1 hb.2.2.1 hb.2.2.2.1 hb.2.2.2.2 q)) hf (Nat.le_refl _) pairOk
    have lt5 : ∀ d ∈ [z, TI, TO, i1, i2], d < s.heap.objs.size := fun d hd => by
      simp only [List.mem_cons, List.not_mem_nil, or_false] at hd
      rcases hd with q | q | q | q | q <;> subst q
      · exact zl
      · exact Heap.lt_size hTI
      · exact Heap.lt_size hTO
      · obtain ⟨_, e, _⟩ := itK_obj h1; exact Heap.lt_size e
      · obtain ⟨_, e, _⟩ := itK_obj h2; exact Heap.lt_size e
    refine ⟨.ref s.heap.objs.size, _, I1, rfl, ⟨_, x, y, rfl, I.hok.fresh (Nat.le_refl _), rfl, fun l hl => by rw [inv_sqA_inj I hl sx]; exact gx, fun l hl => by rw [inv_sqA_inj I hl sy]; exact gy⟩,
      ⟨z'', (sb.2 _ S.TIz).trans (kp _ _ S.TIz S.TITO S.TIi1 S.TIi2 hTI), ⟨_, _, (sb.2 _ S.TOz).trans TO'⟩, itK_keep t1.1 fun o q => (sb.2 _ (Ne.symm S.zi1)).trans q, itK_keep t2.1 fun o q => (sb.2 _ (Ne.symm S.zi2)).trans q⟩, fun d hd => ?_⟩
    rw [upd_ne (Nat.ne_of_lt (lt5 d hd))]
    exact (hf d hd).1
  done := by
    intro X hP hw hK hc i pins s σ H E I hf st hg
    subst hP hw hK
    obtain ⟨hz, hTI, ⟨x0, y0, hTO⟩, h1, h2⟩ := st
    obtain ⟨xs, ys, sx, sy, ei⟩ := hg
    obtain ⟨us, rx, px⟩ := inv_sqA I sx
    obtain ⟨vs, ry, py⟩ := inv_sqA I sy
    have lx := rx.length
    have ly := ry.length
    have hh : X.A.in1.handled = none := I.ok.hd hc
    have s1 : us.toArray.size = xs.length := by rw [List.size_toArray]; exact lx.symm
    have s2 : vs.toArray.size = ys.length := by rw [List.size_toArray]; exact ly.symm
    refine wpAny_pyNext_zipD2_end S (drawK k1 hh i1 a ne1 us.toArray) (drawK k2 hh i2 b ne2 vs.toArray) hz hTI hTO ⟨h1, px⟩ ⟨h2, py⟩ (by rw [s1]; omega) (by rw [s2]; omega) (by rw [s1, s2]; omega) fun h' tk kp => ?_
    exact ⟨rfl, I.turnedL (t' := tk) (ch := [z, TI, TO, i1, i2]) (fun d o hb q => by
      simp only [List.mem_cons, List.not_mem_nil, or_false, not_or] at hb
      exact kp d o hb.1 hb.2.2.1 hb.2.2.2.1 hb.2.2.2.2 q) hf⟩
  self := fun A i s Q E st h => wpAny_pyIter_zip st.1 h
theorem nmem2 {n x y : Nat} (h1 : n ≠ x) (h2 : n ≠ y) : n ∉ [x, y] := by simp [h1, h2]
theorem sepK {n a b : Nat} (ha : a < n) (hb : b < n) : ZipSep2 (n + 4) (n + 2) (n + 3) n (n + 1) [n, a] [n + 1, b] where
  TIz := Nat.ne_of_lt (by omega)
  TOz := Nat.ne_of_lt (by omega)
  TITO := Nat.ne_of_lt (by omega)
  TIi1 := Nat.ne_of_gt (by omega)
  mem1 := List.mem_cons_self
  zf1 := nmem2 (Nat.ne_of_gt (by omega)) (Nat.ne_of_gt (by omega))
  Tf1 := nmem2 (Nat.ne_of_gt (by omega)) (Nat.ne_of_gt (by omega))
  TIi2 := Nat.ne_of_gt (by omega)
  mem2 := List.mem_cons_self
  zf2 := nmem2 (Nat.ne_of_gt (by omega)) (Nat.ne_of_gt (by omega))
  Tf2 := nmem2 (Nat.ne_of_gt (by omega)) (Nat.ne_of_gt (by omega))
  sep1_2 := nmem2 (Nat.ne_of_lt (by omega)) (Nat.ne_of_gt hb)
  sep2_1 := nmem2 (Nat.ne_of_gt (by omega)) (Nat.ne_of_gt (by omega))
def iZipK (K : PySem.W.Frag) (ta : TA) : TI := fun σ H R => ta σ H fun vs H1 => ∃ k1 k2 a b xs ys, vs = [.ref a, .ref b] ∧ SqA K H1 k1 a xs ∧ SqA K H1 k2 b ys ∧ R (ItzK K k1 k2 a b) H1
theorem pi_zipK {X : Cx} {e e2 : Expr} {ta : TA} {p pos tpos : Pos} {elts : List Expr} {kk : Nat} (hg : Gl X "zip") (hm : X.mg "zip" = none) (ha : PA X [e, e2] ta)
    (hs : starEach [e, e2] X.env = (false, eval e X.env) :: starEach [e2] X.env) (hpl : (backTo pos (starEach [e2] X.env)).any (·.1) = false) :
    PI X (.Tuple elts kk tpos) (.Call (.Name "zip" p) [e, e2] [] pos) (iZipK X.K ta) := by
  refine ⟨fun pins s σ H R I hyp => ?_⟩
  refine Call_ (ld_blt I hg hm boot_zip (PyProof.Rows.callWith_type1 (thn (ha.run pos pins s σ H _ I hyp) fun us s1 ⟨vs, H1, I1, r1, q1⟩ => ?_) hs hpl))
  obtain ⟨k1, k2, a, b, xs, ys, ex, sx, sy, q⟩ := q1
  subst ex
  obtain ⟨u1, u2, rfl, e1, e2⟩ := vals2 r1
  cases e1
  cases e2
  obtain ⟨its, rv, px⟩ := inv_sqA I1 sx
  obtain ⟨its2, rv2, py⟩ := inv_sqA I1 sy
  have la := sqK_lt px
  have lb := sqK_lt py
  refine call_zipK k1 k2 px py fun h' hz hTI hTO i1 i2 kp => wpAny_pyIter_zip hz ?_
  have I2 : Inv X pins σ H1 { s1 with heap := h' } := I1.kept (t' := s1.toks) kp
  refine ⟨s1.heap.objs.size + 4, [s1.heap.objs.size + 4, s1.heap.objs.size + 2, s1.heap.objs.size + 3, s1.heap.objs.size, s1.heap.objs.size + 1], _, _, H1, rfl, I2,
    turn_zipK (k1 := k1) (k2 := k2) (Nat.ne_of_lt la) (Nat.ne_of_lt (Nat.lt_succ_of_lt lb)) (sepK la lb),
    ⟨hz, hTI, ⟨_, _, hTO⟩, i1, i2⟩, fun d hd => ?_, q⟩
  have hle : s1.heap.objs.size ≤ d := by
    simp only [List.mem_cons, List.not_mem_nil, or_false] at hd
    rcases hd with q | q | q | q | q <;> subst q <;> omega
  exact I1.fpOk hle (I1.hok.fresh hle)
/-- the walk of a zip -/
theorem walk_zipK {K : PySem.W.Frag} {k1 k2 : Bool} {a b : Addr} {xs ys : List V} {n : Nat} (hn : n = min xs.length ys.length) :
    Walk (ItzK K k1 k2 a b) n (fun H => SqA K H k1 a xs ∧ SqA K H k2 b ys) (YPair (fun i => xs[i]?) (fun i => ys[i]?)) := by
  subst hn
  refine ⟨fun i _ hi q => ?_, fun _ q => ⟨xs, ys, q.1, q.2, rfl⟩, fun i H v H' _ q y => ?_⟩
  · have h1 : i < xs.length := by omega
    have h2 : i < ys.length := by omega
    exact ⟨xs, ys, xs[i], ys[i], q.1, q.2, by simp [h1], by simp [h2]⟩
  · obtain ⟨T, x, z, e1, e2, e3, e4, e5⟩ := y
    exact ⟨T, x, z, e1, e2, e3, e4 xs q.1, e5 ys q.2⟩
end Pv

set_option Elab.async false
set_option linter.all false
set_option maxRecDepth 100000
namespace Pv
open PySem PySem.Spec PyProof.Rows L2

section
variable {X : Cx} {c : Cc} {P H P1 H1 : Hp} {env : SEnv} {σ : L2.St} {S S1 : Sto} {x y z : Ex} {pos : Pos} {e e2 tgt : Expr}
/-! ### walked: a list or a tuple -/
def itA (K : PySem.W.Frag) (k : Bool) (a : Addr) : It := if k = true then Itt K a else Itl K a
def iSeq (K : PySem.W.Frag) (tl : TE) : TI := fun σ H R => tl σ H fun x H1 => ∃ a k xs, x = V.ref a ∧ SqA K H1 k a xs ∧ R (itA K k a) H1
theorem pi_seq {tl : TE} (hl : PE X e tl) : PI X tgt e (iSeq X.K tl) := by
  refine ⟨fun pins s σ H R I hyp => thn (hl.run pins s σ H _ I hyp) fun v s1 ⟨x, H1, I1, r1, a, k, xs, ex, sq, q⟩ => ?_⟩
  subst ex
  cases r1
  have new1 : ∀ b ∈ [s1.heap.objs.size], FpOk X pins H1 b := fun b hb => by
    rw [List.mem_singleton.mp hb]
    exact I1.fpOk (Nat.le_refl _) (I1.hok.fresh (Nat.le_refl _))
  cases k with
  | true =>
    obtain ⟨its, rv, p, _⟩ := I1.tuple (show SqT X.K H1 a xs from sq)
    exact wpAny_pyIter_tuple (show s1.heap.IsTuple a its.toArray from p) ⟨s1.heap.objs.size, [s1.heap.objs.size], _, _, H1, rfl, I1.kept (t' := s1.toks) fun b o e => Heap.get?_push_of_some _ e,
      turn_tuple a _, ⟨_, Heap.get?_push_size _ rfl, rfl, rfl⟩, new1, q⟩
  | false =>
    obtain ⟨its, rv, p, _⟩ := I1.list (show SqL X.K H1 a xs from sq)
    exact wpAny_pyIter_list p.isList ⟨s1.heap.objs.size, [s1.heap.objs.size], _, _, H1, rfl, I1.kept (t' := s1.toks) fun b o e => Heap.get?_push_of_some _ e,
      turn_list a _, ⟨_, Heap.get?_push_size _ rfl, rfl, rfl⟩, new1, q⟩
theorem seqD_rep2 {d : D} {l : List D} {v : V} (q : seqD d = some l) (r : Rep c.K c.G P d v) : ∃ k a xs, v = V.ref a ∧ (∀ H, Le P H → SqA c.K H k a xs) ∧ Reps c.K c.G P l xs := by
  cases r with
  | tup h r => cases q; exact ⟨true, _, _, rfl, fun H le => .inl (.inl (le.tup h)), r⟩
  | rt h r => cases q; exact ⟨true, _, _, rfl, fun H le => le.sqT h, r⟩
  | lst h r => cases q; exact ⟨false, _, _, rfl, fun H le => .inl (.inl (le.lst h)), r⟩
  | _ => cases q
theorem walkD_seq {k : Bool} {a : Addr} {l : List D} {xs : List V} (sq : ∀ H, Le P1 H → SqA c.K H k a xs) (r : Reps c.K c.G P1 l xs) : WalkD c (itA c.K k a) P1 l := by
  cases k with
  | true => exact walkD_at (xs := xs) (by rw [r.length]; exact walk_tup) sq r
  | false => exact walkD_at (xs := xs) (by rw [r.length]; exact walk_list) sq r
theorem ti_val (hK : X.K = c.K) (he : PE X e (TEx c x)) : PI X tgt e (TIx c (iVal x)) :=
  pi_imp (pi_seq he) fun σ H R ⟨P, env, S, s, h⟩ => tex_bindG s h fun r S1 v P1 H1 st1 s1 rp h1 => by
    cases q : seqD r.d with
    | none => simp only [q] at h1; exact h1.elim
    | some l =>
      simp only [q] at h1
      obtain ⟨k, a, xs, e, sq, rx⟩ := seqD_rep2 q rp
      rw [hK]
      exact ⟨a, k, xs, e, sq H1 s1.le, h1 _ P1 H1 st1 s1.so (walkD_seq sq rx)⟩
/-! ### ranges -/
def iRg1 (l : Lx) : Ix := fun env S => (l env S).bind fun ds S => match ds with
  | [.int n] => if -line ≤ n ∧ n ≤ line then .ok ((List.range n.toNat).map fun (i : Nat) => D.int i) S else .bad
  | _ => .bad
def iRg2 (l : Lx) : Ix := fun env S => (l env S).bind fun ds S => match ds with
  | [.int m, .int n] => if (-line ≤ m ∧ m ≤ line) ∧ -line ≤ n ∧ n ≤ line then .ok ((List.range (n - m).toNat).map fun (i : Nat) => D.int (m + i)) S else .bad
  | _ => .bad
theorem walkD_rg (lo : Int) (n : Nat) : WalkD c (Itr lo n) P1 ((List.range n).map fun (i : Nat) => D.int (lo + i)) := by
  refine ⟨?_⟩
  rw [List.length_map, List.length_range]
  refine (walk_range (lo := lo) (n := n)).mono (fun _ _ => trivial) fun i H x H' hi _ y => ?_
  obtain ⟨rfl, rfl⟩ := y
  exact ⟨.int (lo + i), by rw [List.getElem?_map, List.getElem?_range hi]; rfl, fun P S e le so => ⟨P, Step.refl le, so, .int _⟩⟩
theorem line_62 : (line : Int) < 2 ^ 62 := by decide
theorem ti_rg1 {l : Lx} {p pos : Pos} (hg : Gl X "range") (hm : X.mg "range" = none) (ha : PA X [e] (TLx c l)) (hs : starEach [e] X.env = [(false, eval e X.env)]) : PI X tgt (.Call (.Name "range" p) [e] [] pos) (TIx c (iRg1 l)) :=
  pi_imp (pi_range1 hg hm ha hs) fun σ H R ⟨P, env, S, s, h⟩ => tlx_bind s h fun ds S1 vs P1 H1 st1 s1 rp h1 => by
    have hl := line_62
    match ds, rp, h1 with
    | [.int n], .cons r .nil, h1 =>
      cases r
      dsimp only at h1
      by_cases hb : -line ≤ n ∧ n ≤ line
      · rw [if_pos hb] at h1
        refine ⟨n, rfl, by omega, by omega, h1 _ P1 H1 st1 s1.so ?_⟩
        have := walkD_rg (c := c) (P1 := P1) 0 n.toNat
        simpa using this
      · rw [if_neg hb] at h1; exact h1.elim
theorem ti_rg2 {l : Lx} {p pos : Pos} (hg : Gl X "range") (hm : X.mg "range" = none) (ha : PA X [e, e2] (TLx c l)) (hs : starEach [e, e2] X.env = [(false, eval e X.env), (false, eval e2 X.env)]) (hs2 : starEach [e2] X.env = [(false, eval e2 X.env)]) :
    PI X tgt (.Call (.Name "range" p) [e, e2] [] pos) (TIx c (iRg2 l)) :=
  pi_imp (pi_range2 hg hm ha hs hs2) fun σ H R ⟨P, env, S, s, h⟩ => tlx_bind s h fun ds S1 vs P1 H1 st1 s1 rp h1 => by
    have hl := line_62
    match ds, rp, h1 with
    | [.int m, .int n], .cons r (.cons r2 .nil), h1 =>
      cases r
      cases r2
      dsimp only at h1
      by_cases hb : (-line ≤ m ∧ m ≤ line) ∧ -line ≤ n ∧ n ≤ line
      · rw [if_pos hb] at h1
        exact ⟨m, n, rfl, ⟨by omega, by omega, by omega, by omega⟩, h1 _ P1 H1 st1 s1.so (walkD_rg m (n - m).toNat)⟩
      · rw [if_neg hb] at h1; exact h1.elim
/-! ### zip -/
def zipD : List D → List D → List D
  | a :: l, b :: m => .tup [a, b] :: zipD l m
  | _, _ => []
theorem zipD_length : ∀ l m : List D, (zipD l m).length = min l.length m.length
  | [], m => by simp [zipD]
  | a :: l, [] => by simp [zipD]
  | a :: l, b :: m => by
    show (zipD l m).length + 1 = _
    rw [zipD_length l m, List.length_cons, List.length_cons]
    omega
theorem zipD_get : ∀ {l m : List D} {i : Nat} {a b : D}, l[i]? = some a → m[i]? = some b → (zipD l m)[i]? = some (.tup [a, b])
  | [], _, _, _, _, e, _ => by simp at e
  | _ :: _, [], _, _, _, _, e => by simp at e
  | x :: l, y :: m, 0, a, b, e1, e2 => by
    have h1 : x = a := Option.some.inj e1
    have h2 : y = b := Option.some.inj e2
    rw [h1, h2]
    rfl
  | x :: l, y :: m, i + 1, a, b, e1, e2 => zipD_get (l := l) (m := m) (i := i) e1 e2
def iZip (l : Lx) : Ix := fun env S => (l env S).bind fun ds S => match ds with
  | [a, b] => (match seqD a, seqD b with
    | some l1, some l2 => .ok (zipD l1 l2) S
    | _, _ => .bad)
  | _ => .bad
/-- a new pair of the i-th ones, laid for good -/
theorem walkD_pair {J : It} {Gq : Hp → Prop} {fx fy : Nat → Option V} {ds : List D} (w : Walk J ds.length Gq (YPair fx fy)) (hg : ∀ H, Le P1 H → Gq H)
    (hr : ∀ i x y, i < ds.length → fx i = some x → fy i = some y → ∃ a b, ds[i]? = some (.tup [a, b]) ∧ Rep c.K c.G P1 a x ∧ Rep c.K c.G P1 b y) : WalkD c J P1 ds :=
  ⟨w.mono hg fun i H v H' hi _ yp => by
    obtain ⟨T, x, y, rfl, nT, rfl, ex, ey⟩ := yp
    obtain ⟨a, b, ed, ra, rb⟩ := hr i x y hi ex ey
    refine ⟨_, ed, fun P S e le so => ⟨upd P T (.tup [x, y]), Step.lay le nT (so.new nT), so.lay le nT, ?_⟩⟩
    have up : Same P1 (upd P T (.tup [x, y])) := fun q u eq => by
      have := e q u eq
      rw [upd_ne (ne_of_none this (le.none nT))]
      exact this
    exact .tup upd_same (.cons (ra.mono up) (.cons (rb.mono up) .nil))⟩
theorem ti_zip {l : Lx} {p pos tpos : Pos} {elts : List Expr} {kk : Nat} (hK : X.K = c.K) (hg : Gl X "zip") (hm : X.mg "zip" = none) (ha : PA X [e, e2] (TLx c l)) (hs : starEach [e, e2] X.env = (false, eval e X.env) :: starEach [e2] X.env) (hpl : (backTo pos (starEach [e2] X.env)).any (·.1) = false) :
    PI X (.Tuple elts kk tpos) (.Call (.Name "zip" p) [e, e2] [] pos) (TIx c (iZip l)) :=
  pi_imp (pi_zipK hg hm ha hs hpl) fun σ H R ⟨P, env, S, s, h⟩ => tlx_bind s h fun ds S1 vs P1 H1 st1 s1 rp h1 => by
    match ds, rp, h1 with
    | [a, b], .cons ra (.cons rb .nil), h1 =>
      cases qa : seqD a with
      | none => simp only [qa] at h1; exact h1.elim
      | some l1 =>
        cases qb : seqD b with
        | none => simp only [qa, qb] at h1; exact h1.elim
        | some l2 =>
          simp only [qa, qb] at h1
          obtain ⟨k1, p1, xs, rfl, sx, rx⟩ := seqD_rep2 qa ra
          obtain ⟨k2, p2, ys, rfl, sy, ry⟩ := seqD_rep2 qb rb
          rw [hK]
          refine ⟨k1, k2, p1, p2, xs, ys, rfl, sx H1 s1.le, sy H1 s1.le, h1 _ P1 H1 st1 s1.so ?_⟩
          refine walkD_pair (walk_zipK (by rw [zipD_length, rx.length, ry.length])) (fun H le => ⟨sx H le, sy H le⟩) fun i x y hi ex ey => ?_
          obtain ⟨d1, e1, r1⟩ := rx.getV ex
          obtain ⟨d2, e2, r2⟩ := ry.getV ey
          exact ⟨d1, d2, zipD_get e1 e2, r1, r2⟩
end
end Pv

set_option Elab.async false
set_option linter.all false
set_option maxRecDepth 100000
namespace Pv
open PySem PySem.Spec PyProof.Rows L2

/-! ### plain data -/
mutual
def D.py : D → PyData
  | .non => .none
  | .bl b => .bool b
  | .int i => .int i
  | .str s => .str s
  | .tup l => .tuple (pyL l)
  | .lst l => .list (pyL l)
  | .ro l => .list (pyL l)
  | .rt l => .tuple (pyL l)
  | .dK _ => .none
  | .dT _ => .none
  | .obj _ _ => .none
def pyL : List D → List PyData
  | [] => []
  | d :: l => D.py d :: pyL l
end
mutual
def D.flat : D → Bool
  | .tup l => flatL l
  | .lst l => flatL l
  | .ro l => flatL l
  | .rt l => flatL l
  | .dK _ => false
  | .dT _ => false
  | .obj _ _ => false
  | _ => true
def flatL : List D → Bool
  | [] => true
  | d :: l => D.flat d && flatL l
end
section
variable {K : PySem.W.Frag} {G : Nat → Option (Addr × List Str)} {P H : Hp}
mutual
theorem Rep.dp (le : Le P H) : ∀ {d : D} {v : V}, Rep K G P d v → D.flat d = true → Dp K H v (D.py d)
  | _, _, .non, _ => .non
  | _, _, .bl b, _ => .bl b
  | _, _, .int i, _ => .int i
  | _, _, .str s, _ => .str s
  | _, _, .tup h r, f => .tup (.inl (.inl (le.tup h))) (Reps.dp le r f)
  | _, _, .rt h r, f => .tup (le.sqT h) (Reps.dp le r f)
  | _, _, .lst h r, f => .lst (.inl (.inl (le.lst h))) (Reps.dp le r f)
  | _, _, .ro h r, f => .lst (le.sqL h) (Reps.dp le r f)
  | _, _, .dK _ _, f => by cases f
  | _, _, .dT _ _, f => by cases f
  | _, _, .obj _ _ _ _, f => by cases f
theorem Reps.dp (le : Le P H) : ∀ {l : List D} {vs : List V}, Reps K G P l vs → flatL l = true → DpAll K H vs (pyL l)
  | _, _, .nil, _ => .nil
  | _, _, .cons h r, f => by
    obtain ⟨f1, f2⟩ := Bool.and_eq_true_iff.mp (show (D.flat _ && flatL _) = true from f)
    exact .cons (Rep.dp le h f1) (Reps.dp le r f2)
end
end
def okD (d : D) : Bool := D.flat d && SeqAt.shaped (D.py d)
def bR (b : Bool) : R := ⟨false, .bl b⟩
def eqD (d e : D) : Option R := if (okD d && okD e) = true then some (bR (PyData.eqv (D.py d) (D.py e))) else none
def neD (d e : D) : Option R := if (okD d && okD e) = true then some (bR (!PyData.eqv (D.py d) (D.py e))) else none
def isND (d e : D) : Option R := match e with
  | .non => some (bR (match d with | .non => true | _ => false))
  | _ => none
def notND (d e : D) : Option R := match e with
  | .non => some (bR (match d with | .non => false | _ => true))
  | _ => none
def cmpI (f : Int → Int → Bool) (d e : D) : Option R := match d, e with
  | .int i, .int j => some (bR (f i j))
  | _, _ => none
def ltD (d e : D) : Option R := match d, e with
  | .int i, .int j => some (bR (decide (i < j)))
  | .str s, .str t => some (bR (decide (s.cps.toList < t.cps.toList)))
  | _, _ => none
def leD : D → D → Option R := cmpI fun i j => decide (i ≤ j)
def gtD : D → D → Option R := cmpI fun i j => decide (j < i)
def geD : D → D → Option R := cmpI fun i j => decide (j ≤ i)
def memL (d : D) (l : List D) : Bool := (pyL l).any fun z => PyData.eqv z (D.py d)
/-- the dict's key of a value -/
def keyOf : D → Option Key
  | .int i => some (.inl i)
  | .str s => some (.inr s)
  | _ => none
def keysOf : List D → Option (List Key)
  | [] => some []
  | d :: l => (keyOf d).bind fun k => (keysOf l).map fun ks => k :: ks
def look {κ : Type} [DecidableEq κ] (l : List (κ × D)) (k : κ) : Option D := (l.find? fun p => decide (p.1 = k)).map (·.2)
def getD (d k : D) : Option D := match d, k with
  | .dK l, k => (keyOf k).bind fun k => look l k
  | .dT l, .tup ks => (keysOf ks).bind fun k => look l k
  | _, _ => none
def hasD (d k : D) : Option Bool := match d, k with
  | .dK l, k => (keyOf k).map fun k => (look l k).isSome
  | .dT l, .tup ks => (keysOf ks).map fun k => (look l k).isSome
  | _, _ => none
def memD (d e : D) : Option R := match e with
  | .lst l => if (okD d && okD (.lst l)) = true then some (bR (memL d l)) else none
  | .tup l => if (okD d && okD (.tup l)) = true then some (bR (memL d l)) else none
  | .rt l => if (okD d && okD (.rt l)) = true then some (bR (memL d l)) else none
  | .str t => (match d with
    | .str s => some (bR (!(Builtin.Str.occurrences t s 0 t.length 1).isEmpty))
    | _ => none)
  | _ => (hasD e d).map bR
def nmemD (d e : D) : Option R := match e with
  | .lst l => if (okD d && okD (.lst l)) = true then some (bR (!memL d l)) else none
  | .tup l => if (okD d && okD (.tup l)) = true then some (bR (!memL d l)) else none
  | .rt l => if (okD d && okD (.rt l)) = true then some (bR (!memL d l)) else none
  | .str t => (match d with
    | .str s => some (bR (!(!(Builtin.Str.occurrences t s 0 t.length 1).isEmpty)))
    | _ => none)
  | _ => (hasD e d).map fun b => bR (!b)
/-! ### operators -/
def two64 : Int := 18446744073709551616
def tupOf : D → Option (List D)
  | .tup l => some l
  | .rt l => some l
  | _ => none
theorem tupOf_rep {K : PySem.W.Frag} {G : Nat → Option (Addr × List Str)} {P H : Hp} {d : D} {l : List D} {v : V} (e : tupOf d = some l) (r : Rep K G P d v) (le : Le P H) : ∃ a xs, v = .ref a ∧ SqT K H a xs ∧ Reps K G P l xs := by
  cases r with
  | tup h r => cases e; exact ⟨_, _, rfl, .inl (.inl (le.tup h)), r⟩
  | rt h r => cases e; exact ⟨_, _, rfl, le.sqT h, r⟩
  | _ => cases e
/-- the whole, or what is new -/
def catT (d e : D) (a b : List D) : D := match a, b with
  | [], _ => e
  | _, [] => d
  | _, _ => .tup (a ++ b)
def addD (d e : D) : Option R := match d, e with
  | .int i, .int j => some ⟨false, .int (i + j)⟩
  | .lst a, .lst b => if a.length + b.length ≤ line then some ⟨true, .lst (a ++ b)⟩ else none
  | .str a, .str b => if a.length + b.length ≤ line then some ⟨false, .str (a ++ b)⟩ else none
  | d, e => match tupOf d, tupOf e with
    | some a, some b => if a.length + b.length ≤ line then some ⟨false, catT d e a b⟩ else none
    | _, _ => none
def subD (d e : D) : Option R := match d, e with
  | .int i, .int j => some ⟨false, .int (i - j)⟩
  | _, _ => none
def repL : Nat → List D → List D
  | 0, _ => []
  | n + 1, l => l ++ repL n l
def mulD (d e : D) : Option R := match d, e with
  | .int i, .int j => if ((-two64 < i ∧ i < two64) ∨ (-two64 < j ∧ j < two64)) ∨ i.natAbs.log2 + j.natAbs.log2 < 1000000 then some ⟨false, .int (i * j)⟩ else none
  | .lst a, .int k => if -line ≤ k ∧ k ≤ line ∧ a.length * k.toNat ≤ line then some ⟨true, .lst (repL k.toNat a)⟩ else none
  | _, _ => none
def modD (d e : D) : Option R := match d, e with
  | .int i, .int j => if j = 0 then none else some ⟨false, .int (i.fmod j)⟩
  | _, _ => none
def fdivD (d e : D) : Option R := match d, e with
  | .int i, .int j => if (j ≠ 0 ∧ j.natAbs < 1073741824) ∨ (0 < j ∧ j.natAbs.log2 < 9000) then some ⟨false, .int (i.fdiv j)⟩ else none
  | _, _ => none
def powD (d e : D) : Option R := match d, e with
  | .int i, .int j => if 0 ≤ j ∧ j ≤ 1000000 ∧ i.natAbs < 18446744073709551616 then some ⟨false, .int (i ^ j.toNat)⟩ else none
  | _, _ => none
def shlD (d e : D) : Option R := match d, e with
  | .int i, .int j => if 0 ≤ j ∧ j ≤ 1000000 ∧ i.natAbs < 18446744073709551616 then some ⟨false, .int (i * 2 ^ j.toNat)⟩ else none
  | _, _ => none
def negD (d : D) : Option R := match d with
  | .int i => some ⟨false, .int (-i)⟩
  | _ => none
/-- a value for good -/
theorem qx_ret {c : Cc} {P H : Hp} {S : Sto} {Q : VK} {d : D} {v : V} (h : QX c P H Q ⟨false, d⟩ S) (le : Le P H) (so : StoOk c.K c.G c.ρ P H S) (r : Rep c.K c.G P d v) : Q v H := h v P H (Step.refl le) so r
theorem qx_lst {c : Cc} {P H : Hp} {S : Sto} {Q : VK} {l : List D} {vs : List V} (h : QX c P H Q ⟨true, .lst l⟩ S) (le : Le P H) (so : StoOk c.K c.G c.ρ P H S) (r : Reps c.K c.G P l vs) : ∀ p, H p = none → Q (.ref p) (upd H p (.lst vs)) := fun p n =>
  h (.ref p) P _ (Step.alloc le n) (so.alloc le n) (by unfold RepR; rw [if_pos rfl]; exact ⟨p, rfl, n, le.none n, .lst upd_same r⟩)
theorem qx_tup {c : Cc} {P H : Hp} {S : Sto} {Q : VK} {l : List D} {vs : List V} (h : QX c P H Q ⟨false, .tup l⟩ S) (le : Le P H) (so : StoOk c.K c.G c.ρ P H S) (r : Reps c.K c.G P l vs) : ∀ p, H p = none → Q (.ref p) (upd H p (.tup vs)) := fun p n =>
  h (.ref p) (upd P p (.tup vs)) _ (Step.lay le n (so.new n)) (so.lay le n) (RepR.sh (.tup upd_same (r.mono fun b o e => by rw [upd_ne (ne_of_none e (le.none n))]; exact e)))
section
variable {X : Cx} {c : Cc}
theorem op_imp {f : Value → Value → Sem Value} {r r' : R2} (h : OpR X f r) (i : ∀ x y H Q, r' x y H Q → r x y H Q) : OpR X f r' := fun pins s σ H x y v u Q I rx ry q => h pins s σ H x y v u Q I rx ry (i x y H Q q)
theorem od_eq (hK : X.K = c.K) (hu : X.A.units + 65 < cLine) : OpR X (compareOp .Eq) (rOp2 c eqD) := op_imp (op_eqD (by omega)) fun x y H Q ⟨P, S, a, b, r, le, n0, so, ra, rb, e, q⟩ => by
  unfold eqD at e
  split at e
  · rename_i hc
    cases e
    simp only [okD, Bool.and_eq_true] at hc
    rw [hK]
    exact ⟨_, _, ra.dp le hc.1.1, rb.dp le hc.2.1, hc.1.2, hc.2.2, qx_ret q le so (.bl _)⟩
  · cases e
theorem od_ne (hK : X.K = c.K) (hu : X.A.units + 65 < cLine) : OpR X (compareOp .NotEq) (rOp2 c neD) := op_imp (op_neD (by omega)) fun x y H Q ⟨P, S, a, b, r, le, n0, so, ra, rb, e, q⟩ => by
  unfold neD at e
  split at e
  · rename_i hc
    cases e
    simp only [okD, Bool.and_eq_true] at hc
    rw [hK]
    exact ⟨_, _, ra.dp le hc.1.1, rb.dp le hc.2.1, hc.1.2, hc.2.2, qx_ret q le so (.bl _)⟩
  · cases e
theorem od_isN : OpR X (compareOp .Is) (rOp2 c isND) := op_imp op_isN fun x y H Q ⟨P, S, a, b, r, le, n0, so, ra, rb, e, q⟩ => by
  cases rb with
  | non =>
    refine ⟨rfl, ?_⟩
    cases ra <;> (cases e; exact qx_ret q le so (.bl _))
  | _ => cases e
theorem od_notN : OpR X (compareOp .IsNot) (rOp2 c notND) := op_imp op_notN fun x y H Q ⟨P, S, a, b, r, le, n0, so, ra, rb, e, q⟩ => by
  cases rb with
  | non =>
    refine ⟨rfl, ?_⟩
    cases ra <;> (cases e; exact qx_ret q le so (.bl _))
  | _ => cases e
theorem od_cmpI {op : CmpOp} {f : Int → Int → Bool} (h : OpR X (compareOp op) (rI0 fun i j => .bl (f i j))) : OpR X (compareOp op) (rOp2 c (cmpI f)) := op_imp h fun x y H Q ⟨P, S, a, b, r, le, n0, so, ra, rb, e, q⟩ => by
  cases ra with
  | int i =>
    cases rb with
    | int j => cases e; exact ⟨i, j, rfl, rfl, qx_ret q le so (.bl _)⟩
    | _ => cases e
  | _ => cases rb <;> cases e
theorem od_le : OpR X (compareOp .LtE) (rOp2 c leD) := od_cmpI op_le
theorem od_gt : OpR X (compareOp .Gt) (rOp2 c gtD) := od_cmpI op_gt
theorem od_ge : OpR X (compareOp .GtE) (rOp2 c geD) := od_cmpI op_ge
theorem od_lt : OpR X (compareOp .Lt) (rOp2 c ltD) := op_imp (op_lt.or op_lt_str) fun x y H Q ⟨P, S, a, b, r, le, n0, so, ra, rb, e, q⟩ => by
  cases ra with
  | int i =>
    cases rb with
    | int j => cases e; exact .inl ⟨i, j, rfl, rfl, qx_ret q le so (.bl _)⟩
    | _ => cases e
  | str s =>
    cases rb with
    | str t => cases e; exact .inr ⟨s, t, rfl, rfl, qx_ret q le so (.bl _)⟩
    | _ => cases e
  | _ => cases rb <;> cases e
theorem add_tup {P H : Hp} {S : Sto} {Q : VK} {d e : D} {x y : V} {r : R} {l m : List D} (le : Le P H) (so : StoOk c.K c.G c.ρ P H S) (ra : Rep c.K c.G P d x) (rb : Rep c.K c.G P e y) (h1 : tupOf d = some l) (h2 : tupOf e = some m)
    (he : (if l.length + m.length ≤ line then some (⟨false, catT d e l m⟩ : R) else none) = some r) (q : QX c P H Q r S) : rCatA c.K x y H Q := by
  split at he
  · rename_i hl
    cases he
    obtain ⟨a, xs, rfl, sx, rx⟩ := tupOf_rep h1 ra le
    obtain ⟨b, ys, rfl, sy, ry⟩ := tupOf_rep h2 rb le
    refine ⟨a, b, xs, ys, rfl, rfl, sx, sy, by rw [← rx.length, ← ry.length, ← line_eq]; exact hl, fun z => ?_, fun z1 z2 => ?_, fun z1 z2 => ?_⟩
    · subst z
      cases rx
      exact qx_ret q le so rb
    · subst z2
      cases ry
      cases rx with
      | nil => exact absurd rfl z1
      | cons _ _ => exact qx_ret q le so ra
    · cases rx with
      | nil => exact absurd rfl z1
      | cons p1 p2 =>
        cases ry with
        | nil => exact absurd rfl z2
        | cons p3 p4 => exact qx_tup q le so ((Reps.cons p1 p2).append (.cons p3 p4))
  · cases he
theorem od_add (hK : X.K = c.K) : OpR X (binaryOp .Add) (rOp2 c addD) := op_imp (op_add.or (op_cat.or (op_catA.or op_add_str))) fun x y H Q ⟨P, S, a, b, r, le, n0, so, ra, rb, e, q⟩ => by
  have tups : ∀ {l m : List D}, tupOf a = some l → tupOf b = some m → (if l.length + m.length ≤ line then some (⟨false, catT a b l m⟩ : R) else none) = some r → rCatA X.K x y H Q := fun h1 h2 h3 => by
    rw [hK]
    exact add_tup le so ra rb h1 h2 h3 q
  cases ra with
  | int i =>
    cases rb with
    | int j => cases e; exact .inl ⟨i, j, rfl, rfl, qx_ret q le so (.int _)⟩
    | _ => cases e
  | str s =>
    cases rb with
    | str t =>
      simp only [addD] at e
      split at e
      · rename_i hl
        cases e
        exact .inr (.inr (.inr ⟨s, t, rfl, rfl, by rw [← line_eq]; exact hl, qx_ret q le so (.str _)⟩))
      · cases e
    | _ => cases e
  | lst h1 r1 =>
    cases rb with
    | lst h2 r2 =>
      simp only [addD] at e
      split at e
      · rename_i hl
        cases e
        exact .inr (.inl ⟨_, _, _, _, rfl, rfl, le.lst h1, le.lst h2, by rw [← r1.length, ← r2.length, ← line_eq]; exact hl, qx_lst q le so (r1.append r2)⟩)
      · cases e
    | _ => cases e
  | tup h1 r1 =>
    cases rb with
    | tup h2 r2 => exact .inr (.inr (.inl (tups rfl rfl e)))
    | rt h2 r2 => exact .inr (.inr (.inl (tups rfl rfl e)))
    | _ => cases e
  | rt h1 r1 =>
    cases rb with
    | tup h2 r2 => exact .inr (.inr (.inl (tups rfl rfl e)))
    | rt h2 r2 => exact .inr (.inr (.inl (tups rfl rfl e)))
    | _ => cases e
  | _ => cases rb <;> cases e
theorem od_sub : OpR X (binaryOp .Sub) (rOp2 c subD) := op_imp op_sub fun x y H Q ⟨P, S, a, b, r, le, n0, so, ra, rb, e, q⟩ => by
  cases ra with
  | int i =>
    cases rb with
    | int j => cases e; exact ⟨i, j, rfl, rfl, qx_ret q le so (.int _)⟩
    | _ => cases e
  | _ => cases rb <;> cases e
theorem repL_ok {P : Hp} {l : List D} {vs : List V} (r : Reps c.K c.G P l vs) : ∀ n : Nat, Reps c.K c.G P (repL n l) (List.replicate n vs).flatten
  | 0 => .nil
  | n + 1 => by
    rw [List.replicate_succ, List.flatten_cons]
    exact r.append (repL_ok r n)
theorem od_mul : OpR X (binaryOp .Mult) (rOp2 c mulD) := op_imp ((op_mul.or op_rep).or op_mulW) fun x y H Q ⟨P, S, a, b, r, le, n0, so, ra, rb, e, q⟩ => by
  cases ra with
  | int i =>
    cases rb with
    | int j =>
      simp only [mulD] at e
      split at e
      · rename_i hb
        cases e
        rcases hb with hb | hb
        · exact .inl (.inl ⟨i, j, rfl, rfl, hb, qx_ret q le so (.int _)⟩)
        · exact .inr ⟨i, j, rfl, rfl, hb, qx_ret q le so (.int _)⟩
      · cases e
    | _ => cases e
  | lst h1 r1 =>
    cases rb with
    | int k =>
      simp only [mulD] at e
      split at e
      · rename_i hb
        cases e
        have h62 := line_62
        exact .inl (.inr ⟨_, k, _, rfl, rfl, le.lst h1, by omega, by omega, by rw [← r1.length, ← line_eq]; exact hb.2.2, qx_lst q le so (repL_ok r1 _)⟩)
      · cases e
    | _ => cases e
  | _ => cases rb <;> cases e
theorem od_mod : OpR X (binaryOp .Mod) (rOp2 c modD) := op_imp op_modN fun x y H Q ⟨P, S, a, b, r, le, n0, so, ra, rb, e, q⟩ => by
  cases ra with
  | int i =>
    cases rb with
    | int j =>
      simp only [modD] at e
      split at e
      · cases e
      · rename_i hb
        cases e
        exact ⟨i, j, rfl, rfl, hb, qx_ret q le so (.int _)⟩
    | _ => cases e
  | _ => cases rb <;> cases e
theorem od_fdiv : OpR X (binaryOp .FloorDiv) (rOp2 c fdivD) := op_imp (op_fdivN.or op_fdivW) fun x y H Q ⟨P, S, a, b, r, le, n0, so, ra, rb, e, q⟩ => by
  cases ra with
  | int i =>
    cases rb with
    | int j =>
      simp only [fdivD] at e
      split at e
      · rename_i hb
        cases e
        rcases hb with hb | hb
        · exact .inl ⟨i, j, rfl, rfl, hb, qx_ret q le so (.int _)⟩
        · exact .inr ⟨i, j, rfl, rfl, hb, by show Q (.int (i / j)) H; rw [← Int.fdiv_eq_ediv_of_nonneg i (Int.le_of_lt hb.1)]; exact qx_ret q le so (.int _)⟩
      · cases e
    | _ => cases e
  | _ => cases rb <;> cases e
theorem od_pow : OpR X (binaryOp .Pow) (rOp2 c powD) := op_imp op_pow fun x y H Q ⟨P, S, a, b, r, le, n0, so, ra, rb, e, q⟩ => by
  cases ra with
  | int i =>
    cases rb with
    | int j =>
      simp only [powD] at e
      split at e
      · rename_i hb
        cases e
        exact ⟨i, j, rfl, rfl, hb, qx_ret q le so (.int _)⟩
      · cases e
    | _ => cases e
  | _ => cases rb <;> cases e
theorem od_shl : OpR X (binaryOp .LShift) (rOp2 c shlD) := op_imp op_shl fun x y H Q ⟨P, S, a, b, r, le, n0, so, ra, rb, e, q⟩ => by
  cases ra with
  | int i =>
    cases rb with
    | int j =>
      simp only [shlD] at e
      split at e
      · rename_i hb
        cases e
        exact ⟨i, j, rfl, rfl, hb, qx_ret q le so (.int _)⟩
      · cases e
    | _ => cases e
  | _ => cases rb <;> cases e
theorem ud_neg : UnR X (unaryOp .USub) (rOp1 c negD) := fun pins s σ H x v Q I rx ⟨P, S, a, r, le, n0, so, ra, e, q⟩ => un_neg pins s σ H x v Q I rx (by
  cases ra with
  | int i => cases e; exact ⟨i, rfl, qx_ret q le so (.int _)⟩
  | _ => cases e)
end
end Pv

set_option Elab.async false
set_option linter.all false
set_option maxRecDepth 100000
namespace Pv
open PySem PySem.Spec PyProof.Rows L2

/-! ### what may be read now: a value for good, or a list or dict of one's own as it stands -/
inductive Rd1 (K : PySem.W.Frag) (G : Nat → Option (Addr × List Str)) (P H : Hp) : D → V → Prop
  | rep {d : D} {v : V} : Rep K G P d v → Rd1 K G P H d v
  | lst {a : Addr} {xs : List V} {l : List D} : Rd H a (.lst xs) → Reps K G P l xs → Rd1 K G P H (.lst l) (.ref a)
  | dK {a : Addr} {kvs : List (Key × V)} {l : List (Key × D)} : Rd H a (.dK kvs) → RepK K G P l kvs → Rd1 K G P H (.dK l) (.ref a)
  | dT {a : Addr} {kvs : List (List Key × V)} {l : List (List Key × D)} : Rd H a (.dT kvs) → RepT K G P l kvs → Rd1 K G P H (.dT l) (.ref a)
theorem Root.rd1 {K : PySem.W.Frag} {G : Nat → Option (Addr × List Str)} {P H : Hp} {d : D} {a : Addr} (r : Root K G P H d a) : Rd1 K G P H d (.ref a) := by
  cases r with
  | lst h r => exact .lst (.inl h) r
  | dK h r => exact .dK (.inl h) r
  | dT h r => exact .dT (.inl h) r
def peek (env : SEnv) (S : Sto) (i : Nat) : Option D := match sget env i with
  | .sh d => some d
  | .own d => some d
  | .lk d => some d
  | .ref n => S[n]?
  | .un => none
section
variable {c : Cc} {P H P1 H1 : Hp} {env : SEnv} {σ : L2.St} {S S1 : Sto}
theorem Stt.slot (s : Stt c P H env σ S) {i : Nat} {d : D} (e : peek env S i = some d) : ∃ v, σ[i]? = some (some v) ∧ Rd1 c.K c.G P H d v := by
  unfold peek at e
  have sl := s.sl i
  cases q : sget env i with
  | un => rw [q] at e; cases e
  | sh d' =>
    rw [q] at e sl
    cases e
    obtain ⟨v, e, r⟩ := sl
    exact ⟨v, e, .rep r⟩
  | own d' =>
    rw [q] at e sl
    cases e
    obtain ⟨a, e, _, _, r⟩ := sl
    exact ⟨_, e, r.rd1⟩
  | lk d' =>
    rw [q] at e sl
    cases e
    obtain ⟨a, od, u, e, hp, _, hf, r⟩ := sl
    refine ⟨_, e, ?_⟩
    cases r with
    | lst h r => rw [upd_same] at h; cases h; exact .lst (.inr ⟨od, hf⟩) r
    | dK h r => rw [upd_same] at h; cases h; exact .dK (.inr ⟨od, hf⟩) r
    | dT h r => rw [upd_same] at h; cases h; exact .dT (.inr ⟨od, hf⟩) r
  | ref n =>
    rw [q] at e sl
    obtain ⟨a, e2, hr⟩ := sl
    obtain ⟨b, hb, _, r⟩ := s.so.at_ n d e
    rw [hr] at hb; cases hb
    exact ⟨_, e2, r.rd1⟩

/-! ### reading from it -/
theorem Rd1.seq {d : D} {l : List D} {v : V} (le : Le P H) (r : Rd1 c.K c.G P H d v) (e : seqD d = some l) : ∃ a k xs, v = .ref a ∧ SqA c.K H k a xs ∧ Reps c.K c.G P l xs := by
  cases r with
  | rep r =>
    obtain ⟨k, a, xs, e1, sq, rx⟩ := seqD_rep2 (c := c) e r
    exact ⟨a, k, xs, e1, sq H le, rx⟩
  | lst h r => cases e; exact ⟨_, false, _, rfl, .inl h, r⟩
  | _ => cases e
/-- any sequence that may be read -/
def seqR : D → Option (List D)
  | .tup l => some l
  | .lst l => some l
  | .rt l => some l
  | .ro l => some l
  | _ => none
theorem Rd1.seqR {d : D} {l : List D} {v : V} (le : Le P H) (r : Rd1 c.K c.G P H d v) (e : seqR d = some l) : ∃ a xs, v = .ref a ∧ (SqT c.K H a xs ∨ SqL c.K H a xs) ∧ Reps c.K c.G P l xs := by
  cases r with
  | rep r =>
    cases r with
    | tup h r => cases e; exact ⟨_, _, rfl, .inl (.inl (.inl (le.tup h))), r⟩
    | rt h r => cases e; exact ⟨_, _, rfl, .inl (le.sqT h), r⟩
    | lst h r => cases e; exact ⟨_, _, rfl, .inr (.inl (.inl (le.lst h))), r⟩
    | ro h r => cases e; exact ⟨_, _, rfl, .inr (le.sqL h), r⟩
    | _ => cases e
  | lst h r => cases e; exact ⟨_, _, rfl, .inr (.inl h), r⟩
  | _ => cases e
theorem keyOf_rep {d : D} {k : Key} {v : V} (e : keyOf d = some k) (r : Rep c.K c.G P d v) : v = kV k := by
  cases r with
  | int i => cases e; rfl
  | str s => cases e; rfl
  | _ => cases e
theorem keysOf_rep : ∀ {l : List D} {ks : List Key} {vs : List V}, keysOf l = some ks → Reps c.K c.G P l vs → vs = ks.map kV
  | [], ks, vs, e, r => by
    cases r
    cases e
    rfl
  | d :: l, ks, vs, e, r => by
    cases r with
    | cons r1 r2 =>
      obtain ⟨k, e1, e2⟩ := Option.bind_eq_some_iff.mp (show (keyOf d).bind _ = some ks from e)
      obtain ⟨ks2, e3, e4⟩ := Option.map_eq_some_iff.mp e2
      rw [← e4, List.map_cons, keyOf_rep e1 r1, keysOf_rep e3 r2]
theorem look_K {l : List (Key × D)} {kvs : List (Key × V)} (r : RepK c.K c.G P l kvs) (k : Key) : (∀ d, look l k = some d → ∃ v, valV kvs k = some v ∧ Rep c.K c.G P d v) ∧ (look l k = none → valV kvs k = none) := by
  induction l generalizing kvs with
  | nil => cases r; exact ⟨fun d e => (by cases e), fun _ => rfl⟩
  | cons p l ih =>
    cases r with
    | @cons k' d' v' _ xs r1 r2 =>
      unfold look valV
      rw [List.find?_cons, List.find?_cons]
      by_cases hk : k' = k
      · rw [decide_eq_true hk]
        exact ⟨fun d e => (by cases e; exact ⟨_, rfl, r1⟩), fun e => (by cases e)⟩
      · rw [decide_eq_false hk]
        exact ih r2
theorem look_T {l : List (List Key × D)} {kvs : List (List Key × V)} (r : RepT c.K c.G P l kvs) (k : List Key) : (∀ d, look l k = some d → ∃ v, valV kvs k = some v ∧ Rep c.K c.G P d v) ∧ (look l k = none → valV kvs k = none) := by
  induction l generalizing kvs with
  | nil => cases r; exact ⟨fun d e => (by cases e), fun _ => rfl⟩
  | cons p l ih =>
    cases r with
    | @cons k' d' v' _ xs r1 r2 =>
      unfold look valV
      rw [List.find?_cons, List.find?_cons]
      by_cases hk : k' = k
      · rw [decide_eq_true hk]
        exact ⟨fun d e => (by cases e; exact ⟨_, rfl, r1⟩), fun e => (by cases e)⟩
      · rw [decide_eq_false hk]
        exact ih r2
/-- a dict asked -/
theorem Rd1.dget {d k dv : D} {v w : V} (le : Le P H) (r : Rd1 c.K c.G P H d v) (rk : Rep c.K c.G P k w) (e : getD d k = some dv) : ∃ a u, v = .ref a ∧ DGet H a w (some u) ∧ Rep c.K c.G P dv u := by
  have caseK : ∀ {a : Addr} {kvs : List (Key × V)} {l : List (Key × D)}, Rd H a (.dK kvs) → RepK c.K c.G P l kvs → getD (.dK l) k = some dv → ∃ a' u, V.ref a = .ref a' ∧ DGet H a' w (some u) ∧ Rep c.K c.G P dv u := fun {a kvs l} h r e => by
    obtain ⟨kk, e1, e2⟩ := Option.bind_eq_some_iff.mp (show (keyOf k).bind (fun k => look l k) = some dv from by cases k <;> exact e)
    obtain ⟨u, e3, ru⟩ := (look_K r kk).1 dv e2
    exact ⟨a, u, rfl, .inl ⟨kvs, kk, h, keyOf_rep e1 rk, e3.symm⟩, ru⟩
  have caseT : ∀ {a : Addr} {kvs : List (List Key × V)} {l : List (List Key × D)}, Rd H a (.dT kvs) → RepT c.K c.G P l kvs → getD (.dT l) k = some dv → ∃ a' u, V.ref a = .ref a' ∧ DGet H a' w (some u) ∧ Rep c.K c.G P dv u := fun {a kvs l} h r e => by
    cases rk with
    | tup hb rb =>
      obtain ⟨kk, e1, e2⟩ := Option.bind_eq_some_iff.mp (show (keysOf _).bind (fun k => look l k) = some dv from e)
      obtain ⟨u, e3, ru⟩ := (look_T r kk).1 dv e2
      exact ⟨a, u, rfl, .inr ⟨kvs, kk, _, h, rfl, by rw [← keysOf_rep e1 rb]; exact le.tup hb, e3.symm⟩, ru⟩
    | _ => cases e
  cases r with
  | rep r =>
    cases r with
    | dK h r => exact caseK (le.rd h) r e
    | dT h r => exact caseT (le.rd h) r e
    | _ => cases e
  | dK h r => exact caseK h r e
  | dT h r => exact caseT h r e
  | lst _ _ => cases e
theorem Rd1.dhas {d k : D} {b : Bool} {v w : V} (le : Le P H) (r : Rd1 c.K c.G P H d v) (rk : Rep c.K c.G P k w) (e : hasD d k = some b) : ∃ a o, v = .ref a ∧ DGet H a w o ∧ o.isSome = b := by
  have caseK : ∀ {a : Addr} {kvs : List (Key × V)} {l : List (Key × D)}, Rd H a (.dK kvs) → RepK c.K c.G P l kvs → hasD (.dK l) k = some b → ∃ a' o, V.ref a = .ref a' ∧ DGet H a' w o ∧ o.isSome = b := fun {a kvs l} h r e => by
    obtain ⟨kk, e1, e2⟩ := Option.map_eq_some_iff.mp (show (keyOf k).map (fun k => (look l k).isSome) = some b from by cases k <;> exact e)
    refine ⟨a, valV kvs kk, rfl, .inl ⟨kvs, kk, h, keyOf_rep e1 rk, rfl⟩, ?_⟩
    rw [← e2]
    cases q : look l kk with
    | none => rw [(look_K r kk).2 q]; rfl
    | some dv => obtain ⟨u, e3, _⟩ := (look_K r kk).1 dv q; rw [e3]; rfl
  have caseT : ∀ {a : Addr} {kvs : List (List Key × V)} {l : List (List Key × D)}, Rd H a (.dT kvs) → RepT c.K c.G P l kvs → hasD (.dT l) k = some b → ∃ a' o, V.ref a = .ref a' ∧ DGet H a' w o ∧ o.isSome = b := fun {a kvs l} h r e => by
    cases rk with
    | tup hb rb =>
      obtain ⟨kk, e1, e2⟩ := Option.map_eq_some_iff.mp (show (keysOf _).map (fun k => (look l k).isSome) = some b from e)
      refine ⟨a, valV kvs kk, rfl, .inr ⟨kvs, kk, _, h, rfl, by rw [← keysOf_rep e1 rb]; exact le.tup hb, rfl⟩, ?_⟩
      rw [← e2]
      cases q : look l kk with
      | none => rw [(look_T r kk).2 q]; rfl
      | some dv => obtain ⟨u, e3, _⟩ := (look_T r kk).1 dv q; rw [e3]; rfl
    | _ => cases e
  cases r with
  | rep r =>
    cases r with
    | dK h r => exact caseK (le.rd h) r e
    | dT h r => exact caseT (le.rd h) r e
    | _ => cases e
  | dK h r => exact caseK h r e
  | dT h r => exact caseT h r e
  | lst _ _ => cases e
/-- by values, the left one read now -/
def rOpL (c : Cc) (f : D → D → Option R) : R2 := fun v w H Q => ∃ P S a b r, Le P H ∧ StoOk c.K c.G c.ρ P H S ∧ Rd1 c.K c.G P H a v ∧ Rep c.K c.G P b w ∧ f a b = some r ∧ QX c P H Q r S
def rOpR (c : Cc) (f : D → D → Option R) : R2 := fun v w H Q => ∃ P S a b r, Le P H ∧ StoOk c.K c.G c.ρ P H S ∧ Rep c.K c.G P a v ∧ Rd1 c.K c.G P H b w ∧ f a b = some r ∧ QX c P H Q r S
end
/-! ### in, not in -/
section
variable {X : Cx} {c : Cc}
theorem Rd1.flatDp {P H : Hp} {d : D} {v : V} (le : Le P H) (r : Rd1 c.K c.G P H d v) (f : D.flat d = true) : Dp c.K H v (D.py d) := by
  cases r with
  | rep r => exact r.dp le f
  | lst h r => exact .lst (.inl h) (Reps.dp le r f)
  | dK _ _ => cases f
  | dT _ _ => cases f
theorem py_lst (l : List D) : D.py (.lst l) = .list (pyL l) := rfl
theorem od_inG (neg : Bool) (hK : X.K = c.K) (hu : X.A.units + 65 < cLine) : OpR X (compareOp (if neg = true then .NotIn else .In)) (rOpR c (if neg = true then nmemD else memD)) := by
  intro pins s σ H x y v u Q I rx ry ⟨P, S, a, b, r, le, so, ra, rb, e, q⟩
  have seqs : ∀ {l : List D} {ds : List PyData}, pyL l = ds → D.py b = .list ds ∨ D.py b = .tuple ds → (okD a && okD b) = true → r = bR (if neg = true then !memL a l else memL a l) →
      wpAny (model X.prog X.w) X.A (compareOp (if neg = true then .NotIn else .In) v u) (EP X pins σ Q) X.xe s := fun {l ds} hl hb hok hr => by
    simp only [okD, Bool.and_eq_true] at hok
    obtain ⟨⟨fa, sa⟩, fb, sb⟩ := hok
    have da := ra.dp le fa
    have db := rb.flatDp le fb
    rw [← hK] at da db
    obtain ⟨as, r1⟩ := Dp.reads I _ x v da rx
    obtain ⟨bs, r2⟩ := Dp.reads I _ y u db ry
    subst hl hr
    have fin : EP X pins σ Q (.bool (if neg = true then !memL a l else memL a l)) s := ⟨.bl _, H, I, rfl, qx_ret q le so (.bl _)⟩
    rcases hb with hb | hb
    · rw [hb] at r2 sb
      cases neg with
      | false => exact SeqAt.in_list_reads r2 r1 (SeqAt.canLay_of_shaped sb) (SeqAt.canLay_of_shaped sa) (room_in_shaped sa hu) fin
      | true => exact SeqAt.notIn_list_reads r2 r1 (SeqAt.canLay_of_shaped sb) (SeqAt.canLay_of_shaped sa) (room_in_shaped sa hu) fin
    · rw [hb] at r2 sb
      cases neg with
      | false => exact SeqAt.in_tuple_reads r2 r1 (SeqAt.canLay_of_shaped sb) (SeqAt.canLay_of_shaped sa) (room_in_shaped sa hu) fin
      | true => exact SeqAt.notIn_tuple_reads r2 r1 (SeqAt.canLay_of_shaped sb) (SeqAt.canLay_of_shaped sa) (room_in_shaped sa hu) fin
  have dicts : ∀ {k : Bool}, hasD b a = some k → r = bR (if neg = true then !k else k) → wpAny (model X.prog X.w) X.A (compareOp (if neg = true then .NotIn else .In) v u) (EP X pins σ Q) X.xe s := fun {k} hh hr => by
    subst hr
    obtain ⟨p, o, rfl, g, eo⟩ := rb.dhas le ra hh
    cases (show u = Value.ref p from ry)
    cases neg with
    | false => exact d_in (by omega) I g rx fun s' I' => ⟨.bl _, H, I', by rw [eo]; rfl, qx_ret q le so (.bl _)⟩
    | true => exact d_notIn (by omega) I g rx fun s' I' => ⟨.bl _, H, I', by rw [eo]; rfl, qx_ret q le so (.bl _)⟩
  have opt : ∀ {o : Option Bool} {r : R}, o.map (fun k => bR (if neg = true then !k else k)) = some r → ∃ k, o = some k ∧ r = bR (if neg = true then !k else k) := fun {o r} h => by
    obtain ⟨k, h1, h2⟩ := Option.map_eq_some_iff.mp h
    exact ⟨k, h1, h2.symm⟩
  have viaD : (hasD b a).map (fun k => bR (if neg = true then !k else k)) = some r → wpAny (model X.prog X.w) X.A (compareOp (if neg = true then .NotIn else .In) v u) (EP X pins σ Q) X.xe s := fun h => by
    obtain ⟨k, h1, h2⟩ := opt h
    exact dicts h1 h2
  have ifs : ∀ {l : List D}, (if (okD a && okD b) = true then some (bR (if neg = true then !memL a l else memL a l)) else none) = some r → (okD a && okD b) = true ∧ r = bR (if neg = true then !memL a l else memL a l) := fun {l} h => by
    split at h
    · rename_i hk; exact ⟨hk, by cases h; rfl⟩
    · cases h
  cases b with
  | lst l =>
    have e' : (if (okD a && okD (.lst l)) = true then some (bR (if neg = true then !memL a l else memL a l)) else none) = some r := by cases neg <;> exact e
    obtain ⟨h1, h2⟩ := ifs e'
    exact seqs rfl (.inl rfl) h1 h2
  | tup l =>
    have e' : (if (okD a && okD (.tup l)) = true then some (bR (if neg = true then !memL a l else memL a l)) else none) = some r := by cases neg <;> exact e
    obtain ⟨h1, h2⟩ := ifs e'
    exact seqs rfl (.inr rfl) h1 h2
  | rt l =>
    have e' : (if (okD a && okD (.rt l)) = true then some (bR (if neg = true then !memL a l else memL a l)) else none) = some r := by cases neg <;> exact e
    obtain ⟨h1, h2⟩ := ifs e'
    exact seqs rfl (.inr rfl) h1 h2
  | str t =>
    cases rb with
    | rep rb =>
      cases rb
      cases ra with
      | str z =>
        cases neg with
        | false => cases e; exact op_in_str pins s σ H _ _ v u Q I rx ry ⟨z, t, rfl, rfl, qx_ret q le so (.bl _)⟩
        | true => cases e; exact L2.op_notin_str pins s σ H _ _ v u Q I rx ry ⟨z, t, rfl, rfl, qx_ret q le so (.bl _)⟩
      | _ => cases neg <;> cases e
  | non => exact viaD (by cases neg <;> exact e)
  | bl _ => exact viaD (by cases neg <;> exact e)
  | int _ => exact viaD (by cases neg <;> exact e)
  | ro _ => exact viaD (by cases neg <;> exact e)
  | dK _ => exact viaD (by cases neg <;> exact e)
  | dT _ => exact viaD (by cases neg <;> exact e)
  | obj _ _ => exact viaD (by cases neg <;> exact e)
theorem od_in (hK : X.K = c.K) (hu : X.A.units + 65 < cLine) : OpR X (compareOp .In) (rOpR c memD) := od_inG false hK hu
theorem od_nin (hK : X.K = c.K) (hu : X.A.units + 65 < cLine) : OpR X (compareOp .NotIn) (rOpR c nmemD) := od_inG true hK hu
end
end Pv

set_option Elab.async false
set_option linter.all false
set_option maxRecDepth 100000
namespace Pv
open PySem PySem.Spec PyProof.Rows L2

/-! ### x[i] -/
def shO (o : Option D) : Option R := o.map fun d => ⟨false, d⟩
def atSeq (d k : D) : Option R := match seqR d, k with
  | some l, .int i => shO (atI l i)
  | _, _ => none
def atD (d k : D) : Option R := match d with
  | .dK _ => shO (getD d k)
  | .dT _ => shO (getD d k)
  | .str z => (match k with
    | .int i => if z.length ≤ line then (atI z.cps.toList i).map fun n => ⟨false, .str ⟨#[n]⟩⟩ else none
    | _ => none)
  | d => atSeq d k
section
variable {X : Cx} {c : Cc} {P H : Hp}
theorem reps_atI {l : List D} {xs : List V} {i : Int} {d : D} (r : Reps c.K c.G P l xs) (e : atI l i = some d) : ∃ v, atI xs i = some v ∧ Rep c.K c.G P d v := by
  obtain ⟨j, h1, h2⟩ := Option.bind_eq_some_iff.mp (show (ixN l.length i).bind (fun j => l[j]?) = some d from e)
  obtain ⟨v, e1, rv⟩ := r.get h2
  refine ⟨v, ?_, rv⟩
  show (ixN xs.length i).bind (fun j => xs[j]?) = some v
  rw [← r.length, h1]
  exact e1
theorem ix_seqs (hK : X.K = c.K) {l : List D} {i : Int} {d : D} {v : V} {S : Sto} {Q : VK} (le : Le P H) (so : StoOk c.K c.G c.ρ P H S) {b : D} (rb : Rd1 c.K c.G P H b v) (e : seqR b = some l) (e2 : atI l i = some d) (q : QX c P H Q ⟨false, d⟩ S) :
    rIxL X.K v (.int i) H Q ∨ rIxT X.K v (.int i) H Q := by
  obtain ⟨a, xs, rfl, sq, rx⟩ := rb.seqR le e
  obtain ⟨w, e3, rw'⟩ := reps_atI rx e2
  rcases sq with sq | sq
  · exact .inr ⟨a, xs, i, w, rfl, rfl, by rw [hK]; exact sq, e3, qx_ret q le so rw'⟩
  · exact .inl ⟨a, xs, i, w, rfl, rfl, by rw [hK]; exact sq, e3, qx_ret q le so rw'⟩
theorem ix_D (hK : X.K = c.K) (hu : X.A.units + 65 < cLine) : IxR X (rOpL c atD) := by
  intro value slice pins s σ H x y v u Q I rx ry ⟨P, S, a, b, r, le, so, ra, rb, e, q⟩ hs
  have seqs : atSeq a b = some r → wpAny (model X.prog X.w) X.A (subscriptTail value slice v u) (EP X pins σ Q) X.xe s := fun e => by
    unfold atSeq at e
    cases h1 : seqR a with
    | none => rw [h1] at e; cases e
    | some l =>
      rw [h1] at e
      cases rb with
      | int i =>
        obtain ⟨d, e2, e3⟩ := Option.map_eq_some_iff.mp (show (atI l i).map _ = some r from e)
        subst e3
        rcases ix_seqs hK le so ra h1 e2 q with w | w
        · exact ix_list value slice pins s σ H _ _ v u Q I rx ry w hs
        · exact ix_tup value slice pins s σ H _ _ v u Q I rx ry w hs
      | _ => cases e
  have dicts : shO (getD a b) = some r → wpAny (model X.prog X.w) X.A (subscriptTail value slice v u) (EP X pins σ Q) X.xe s := fun e => by
    obtain ⟨d, e2, e3⟩ := Option.map_eq_some_iff.mp e
    subst e3
    obtain ⟨p, w, rfl, g, rw'⟩ := ra.dget le rb e2
    cases (show v = Value.ref p from rx)
    exact tail_any (dict_typeIs I g) PySem.F.slot_dict_getitem.lookup (d_getItem (by omega) I g ry fun w' s3 I3 rr => ⟨w, H, I3, rr, qx_ret q le so rw'⟩) hs
  cases a with
  | dK _ => exact dicts e
  | dT _ => exact dicts e
  | str z =>
    cases ra with
    | rep ra =>
      cases ra
      cases rb with
      | int i =>
        simp only [atD] at e
        split at e
        · rename_i hz
          obtain ⟨n, e2, e3⟩ := Option.map_eq_some_iff.mp e
          subst e3
          exact ix_str value slice pins s σ H _ _ v u Q I rx ry ⟨z, i, n, rfl, rfl, by rw [← line_eq]; exact hz, e2, qx_ret q le so (.str _)⟩ hs
        · cases e
      | _ => cases e
  | non => exact seqs e
  | bl _ => exact seqs e
  | int _ => exact seqs e
  | tup _ => exact seqs e
  | lst _ => exact seqs e
  | ro _ => exact seqs e
  | rt _ => exact seqs e
  | obj _ _ => exact seqs e
theorem pd_sub {a b : Expr} {x y : Ex} {pos : Pos} (hK : X.K = c.K) (hu : X.A.units + 65 < cLine) (ha : PE X a (TEx c x)) (hb : PE X b (TEx c y)) (hs : PlainIx b) : PE X (.Subscript a b pos) (TEx c (op2 atD x y)) :=
  pe_imp (pe_ix (ix_D hK hu) ha hb hs) fun σ H Q h => by
    obtain ⟨P, env, S, s, h⟩ := h
    exact tex_bind s h fun r S1 v P1 H1 st1 s1 rp1 h1 => tex_bind s1 h1 fun r2 S2 w P2 H2 st2 s2 rp2 h2 => by
      cases q : atD r.d r2.d with
      | none => simp only [q] at h2; exact h2.elim
      | some r3 =>
        simp only [q] at h2
        exact ⟨P2, S2, r.d, r2.d, r3, s2.le, s2.so, .rep (rp1.mono st2.pp), rp2, q, h2⟩
/-- a name's items: read behind the index -/
def subV (i : Nat) (k : Ex) : Ex := fun env S => match peek env S i with
  | none => .bad
  | some _ => (k env S).bind fun b S => match peek env S i with
    | some d => (match atD d b.d with
      | some r => .ok r S
      | none => .bad)
    | none => .bad
theorem subV_top {i : Nat} {x : Ex} : ∀ σ H Q, TEx c (subV i x) σ H Q → tOp (rOpL c atD) (tVar i) (TEx c x) σ H Q := fun σ H Q ⟨P, env, S, s, h⟩ => by
  unfold subV at h
  cases q : peek env S i with
  | none => rw [q] at h; exact h.elim
  | some d0 =>
    rw [q] at h
    obtain ⟨v, ev, _⟩ := s.slot q
    refine ⟨v, ev, tex_bind s h fun r S1 w P1 H1 st1 s1 rp1 h1 => ?_⟩
    cases q1 : peek env S1 i with
    | none => rw [q1] at h1; exact h1.elim
    | some d =>
      rw [q1] at h1
      obtain ⟨v', ev', rd⟩ := s1.slot q1
      rw [ev] at ev'; cases ev'
      cases q2 : atD d r.d with
      | none => simp only [q2] at h1; exact h1.elim
      | some r3 =>
        simp only [q2] at h1
        exact ⟨P1, S1, d, r.d, r3, s1.le, s1.so, rd, rp1, q2, h1⟩
theorem pd_subV {b : Expr} {y : Ex} {nm : Str} {p pos : Pos} (i : Nat) (hK : X.K = c.K) (hu : X.A.units + 65 < cLine) (hN : X.N[i]? = some nm) (hv : Vis X.env.scope nm) (hd : (nm == ("__debug__" : Str)) = false) (hcd : (nm == ("__classdict__" : Str)) = false)
    (hb : PE X b (TEx c y)) (hs : PlainIx b) : PE X (.Subscript (.Name nm p) b pos) (TEx c (subV i y)) := pe_imp (pe_ix (ix_D hK hu) (pe_var hN hv hd hcd) hb hs) subV_top
/-! ### x in name -/
def inV (f : D → D → Option R) (x : Ex) (i : Nat) : Ex := fun env S => (x env S).bind fun a S => match peek env S i with
  | some d => (match f a.d d with
    | some r => .ok r S
    | none => .bad)
  | none => .bad
theorem inV_top {f : D → D → Option R} {i : Nat} {x : Ex} : ∀ σ H Q, TEx c (inV f x i) σ H Q → tOp (rOpR c f) (TEx c x) (tVar i) σ H Q := fun σ H Q ⟨P, env, S, s, h⟩ =>
  tex_bind s h fun r S1 w P1 H1 st1 s1 rp1 h1 => by
    cases q1 : peek env S1 i with
    | none => rw [q1] at h1; exact h1.elim
    | some d =>
      rw [q1] at h1
      obtain ⟨v, ev, rd⟩ := s1.slot q1
      cases q2 : f r.d d with
      | none => simp only [q2] at h1; exact h1.elim
      | some r3 =>
        simp only [q2] at h1
        exact ⟨v, ev, P1, S1, r.d, d, r3, s1.le, s1.so, rp1, rd, q2, h1⟩
theorem op2R_top {f : D → D → Option R} {x y : Ex} : ∀ σ H Q, TEx c (op2 f x y) σ H Q → tOp (rOpR c f) (TEx c x) (TEx c y) σ H Q := fun σ H Q h => by
  obtain ⟨P, env, S, s, h⟩ := h
  exact tex_bind s h fun r S1 v P1 H1 st1 s1 rp1 h1 => tex_bind s1 h1 fun r2 S2 w P2 H2 st2 s2 rp2 h2 => by
    cases q : f r.d r2.d with
    | none => simp only [q] at h2; exact h2.elim
    | some r3 =>
      simp only [q] at h2
      exact ⟨P2, S2, r.d, r2.d, r3, s2.le, s2.so, rp1.mono st2.pp, .rep rp2, q, h2⟩
theorem pd_in {op : CmpOp} {f : D → D → Option R} {a b : Expr} {x y : Ex} {pos : Pos} (ho : OpR X (compareOp op) (rOpR c f)) (ha : PE X a (TEx c x)) (hb : PE X b (TEx c y)) (hm : behindInMarks op b = false) : PE X (.Compare a [op] [b] pos) (TEx c (op2 f x y)) := pe_imp (pe_cmpR ho ha hb hm) op2R_top
theorem pd_inV {op : CmpOp} {f : D → D → Option R} {a : Expr} {x : Ex} {nm : Str} {p pos : Pos} (i : Nat) (ho : OpR X (compareOp op) (rOpR c f)) (ha : PE X a (TEx c x)) (hN : X.N[i]? = some nm) (hv : Vis X.env.scope nm) (hd : (nm == ("__debug__" : Str)) = false) (hcd : (nm == ("__classdict__" : Str)) = false) :
    PE X (.Compare a [op] [.Name nm p] pos) (TEx c (inV f x i)) := pe_imp (pe_cmpR ho ha (pe_var hN hv hd hcd) rfl) inV_top
/-! ### x[lo:hi] -/
def cutD (l : List D) (lo hi : Option Int) : List D := (l.drop (HT.sIx l.length 0 lo)).take (HT.sIx l.length l.length hi - HT.sIx l.length 0 lo)
theorem cut_rep {l : List D} {xs : List V} (r : Reps c.K c.G P l xs) (lo hi : Option Int) : Reps c.K c.G P (cutD l lo hi) (cutV xs lo hi) := by
  unfold cutD cutV
  rw [r.length]
  exact (r.drop _).take _
def sliceT (d : D) (l : List D) (lo hi : Option Int) : R :=
  if HT.sIx l.length 0 lo = 0 ∧ HT.sIx l.length l.length hi = l.length then ⟨false, d⟩ else ⟨false, .tup (cutD l lo hi)⟩
def sliceD (d : D) (lo hi : Option Int) : Option R := match d with
  | .lst l => some ⟨true, .lst (cutD l lo hi)⟩
  | .tup l => some (sliceT d l lo hi)
  | .rt l => some (sliceT d l lo hi)
  | .str z => if z.length ≤ line then some ⟨false, .str (cutS z lo hi)⟩ else none
  | _ => none
def rSl (c : Cc) : V → Option Int → Option Int → Hp → VK → Prop := fun v lo hi H Q => ∃ P S a r, Le P H ∧ StoOk c.K c.G c.ρ P H S ∧ Rd1 c.K c.G P H a v ∧ sliceD a lo hi = some r ∧ QX c P H Q r S
theorem sl_tupD (hK : X.K = c.K) {S : Sto} {Q : VK} {d : D} {l : List D} {v : V} {lo hi : Option Int} (le : Le P H) (so : StoOk c.K c.G c.ρ P H S) (rd : Rep c.K c.G P d v) (e : tupOf d = some l) (q : QX c P H Q (sliceT d l lo hi) S) : rSlA X.K v lo hi H Q := by
  obtain ⟨a, xs, rfl, sx, rx⟩ := tupOf_rep e rd le
  unfold sliceT at q
  refine ⟨a, xs, rfl, by rw [hK]; exact sx, fun w => ?_, fun w => ?_⟩
  · rw [← rx.length] at w
    rw [if_pos w] at q
    exact qx_ret q le so rd
  · rw [← rx.length] at w
    rw [if_neg w] at q
    exact qx_tup q le so (cut_rep rx lo hi)
theorem sl_D (hK : X.K = c.K) : SlR X (rSl c) := by
  intro pins s σ H x v vl vu lo hi sl Q I rx hsl pl pu ⟨P, S, a, r, le, so, ra, e, q⟩
  cases ra with
  | lst h rl => cases e; exact sl_list pins s σ H _ v vl vu lo hi sl Q I rx hsl pl pu ⟨_, _, rfl, .inl h, qx_lst q le so (cut_rep rl lo hi)⟩
  | dK _ _ => cases e
  | dT _ _ => cases e
  | rep ra =>
    cases ra with
    | lst h rl => cases e; exact sl_list pins s σ H _ v vl vu lo hi sl Q I rx hsl pl pu ⟨_, _, rfl, .inl (.inl (le.lst h)), qx_lst q le so (cut_rep rl lo hi)⟩
    | tup h rl => cases e; exact sl_tupA pins s σ H _ v vl vu lo hi sl Q I rx hsl pl pu (sl_tupD hK le so (.tup h rl) rfl q)
    | rt h rl => cases e; exact sl_tupA pins s σ H _ v vl vu lo hi sl Q I rx hsl pl pu (sl_tupD hK le so (.rt h rl) rfl q)
    | str z =>
      simp only [sliceD] at e
      split at e
      · rename_i hz
        cases e
        exact sl_str pins s σ H _ v vl vu lo hi sl Q I rx hsl pl pu ⟨z, rfl, by rw [← line_eq]; exact hz, qx_ret q le so (.str _)⟩
      · cases e
    | _ => cases e
/-- a bound of a slice -/
abbrev Ox := SEnv → Sto → Out (Option Int)
def onone : Ox := fun _ S => .ok none S
def osome (x : Ex) : Ox := fun env S => (x env S).bind fun a S => match a.d with
  | .int i => .ok (some i) S
  | _ => .bad
def TOx (c : Cc) (o : Ox) : TO := fun σ H Q => ∃ P env S, Stt c P H env σ S ∧ (o env S).post (fun i S1 => ∀ P1 H1, Step c.ρ P H P1 H1 → StoOk c.K c.G c.ρ P1 H1 S1 → Q i H1) (XP c P H)
theorem po_imp {e : Option Expr} {t t' : TO} (h : PO X e t) (i : ∀ σ H Q, t' σ H Q → t σ H Q) : PO X e t' := ⟨fun pins s σ H Q I w => h.run pins s σ H Q I (i σ H Q w)⟩
theorem tpo_none : PO X none (TOx c onone) := po_imp po_none fun σ H Q ⟨P, env, S, s, h⟩ => h P H (Step.refl s.le) s.so
theorem tpo_some {a : Expr} {x : Ex} (ha : PE X a (TEx c x)) : PO X (some a) (TOx c (osome x)) := po_imp (po_some ha) fun σ H Q ⟨P, env, S, s, h⟩ => tex_bindG s h fun r S1 v P1 H1 st1 s1 rp1 h1 => by
  obtain ⟨fr, d⟩ := r
  cases rp1 with
  | int i => exact ⟨i, rfl, h1 P1 H1 st1 s1.so⟩
  | _ => exact h1.elim
theorem tox_bind {α : Type} {env : SEnv} {σ : L2.St} {S : Sto} {o : Ox} {f : Option Int → Sto → Out α} {QQ : α → Sto → Prop} {Q' : Option Int → Hp → Prop} (s : Stt c P H env σ S) (h : ((o env S).bind f).post QQ (XP c P H))
    (k : ∀ r S1 P1 H1, Step c.ρ P H P1 H1 → Stt c P1 H1 env σ S1 → (f r S1).post QQ (XP c P H) → Q' r H1) : TOx c o σ H Q' :=
  ⟨P, env, S, s, post_mono (post_bind.mp h) (fun r S1 q P1 H1 st so => k r S1 P1 H1 st (s.step st so) q) fun _ _ _ q => q⟩
def sliceX (x : Ex) (lo hi : Ox) : Ex := fun env S => (x env S).bind fun a S => (lo env S).bind fun l S => (hi env S).bind fun u S => match sliceD a.d l u with
  | some r => .ok r S
  | none => .bad
theorem pd_slice {a : Expr} {lo hi : Option Expr} {x : Ex} {ol oh : Ox} {p2 pos : Pos} (hK : X.K = c.K) (ha : PE X a (TEx c x)) (hl : PO X lo (TOx c ol)) (hh : PO X hi (TOx c oh)) : PE X (.Subscript a (.Slice lo hi none p2) pos) (TEx c (sliceX x ol oh)) :=
  pe_imp (pe_slice (sl_D hK) ha hl hh) fun σ H Q ⟨P, env, S, s, h⟩ => tex_bindG s h fun r S1 v P1 H1 st1 s1 rp1 h1 => tox_bind s1 (xp_step st1 h1 fun _ _ w => QX.step st1 w) fun l S2 P2 H2 st2 s2 h2 =>
    tox_bind s2 (xp_step st2 h2 fun _ _ w => QX.step st2 w) fun u S3 P3 H3 st3 s3 h3 => by
      cases q : sliceD r.d l u with
      | none => simp only [q] at h3; exact h3.elim
      | some r3 =>
        simp only [q] at h3
        exact ⟨P3, S3, r.d, r3, s3.le, s3.so, .rep (rp1.mono (st2.pp.trans st3.pp)), q, QX.step st3 h3⟩
/-- a name's slice -/
def sliceV (i : Nat) (lo hi : Ox) : Ex := fun env S => match peek env S i with
  | none => .bad
  | some _ => (lo env S).bind fun l S => (hi env S).bind fun u S => match peek env S i with
    | some d => (match sliceD d l u with
      | some r => .ok r S
      | none => .bad)
    | none => .bad
theorem pd_sliceV {lo hi : Option Expr} {ol oh : Ox} {nm : Str} {p p2 pos : Pos} (i : Nat) (hK : X.K = c.K) (hN : X.N[i]? = some nm) (hv : Vis X.env.scope nm) (hd : (nm == ("__debug__" : Str)) = false) (hcd : (nm == ("__classdict__" : Str)) = false)
    (hl : PO X lo (TOx c ol)) (hh : PO X hi (TOx c oh)) : PE X (.Subscript (.Name nm p) (.Slice lo hi none p2) pos) (TEx c (sliceV i ol oh)) :=
  pe_imp (pe_slice (sl_D hK) (pe_var hN hv hd hcd) hl hh) fun σ H Q ⟨P, env, S, s, h⟩ => by
    unfold sliceV at h
    cases q : peek env S i with
    | none => rw [q] at h; exact h.elim
    | some d0 =>
      rw [q] at h
      obtain ⟨v, ev, _⟩ := s.slot q
      refine ⟨v, ev, tox_bind s h fun l S2 P2 H2 st2 s2 h2 => tox_bind s2 (xp_step st2 h2 fun _ _ w => QX.step st2 w) fun u S3 P3 H3 st3 s3 h3 => ?_⟩
      cases q1 : peek env S3 i with
      | none => rw [q1] at h3; exact h3.elim
      | some d =>
        rw [q1] at h3
        obtain ⟨v', ev', rd⟩ := s3.slot q1
        rw [ev] at ev'; cases ev'
        cases q2 : sliceD d l u with
        | none => simp only [q2] at h3; exact h3.elim
        | some r3 =>
          simp only [q2] at h3
          exact ⟨P3, S3, d, r3, s3.le, s3.so, rd, q2, QX.step st3 h3⟩
end
end Pv

set_option Elab.async false
set_option linter.all false
set_option maxRecDepth 100000
namespace Pv
open PySem PySem.Spec PyProof.Rows L2

/-! ### built-ins of one argument -/
section
variable {X : Cx} {c : Cc} {P H : Hp}
def rB1 (c : Cc) (f : D → Option R) : List V → Hp → VK → Prop := fun vs H Q => ∃ P S a r v, vs = [v] ∧ Le P H ∧ StoOk c.K c.G c.ρ P H S ∧ Rd1 c.K c.G P H a v ∧ f a = some r ∧ QX c P H Q r S
def b1V (f : D → Option R) (i : Nat) : Ex := fun env S => match peek env S i with
  | some d => (match f d with
    | some r => .ok r S
    | none => .bad)
  | none => .bad
theorem b1_top {f : D → Option R} {x : Ex} : ∀ σ H Q, TEx c (op1 f x) σ H Q → tCB (rB1 c f) (tCons (TEx c x) tNil) σ H Q := fun σ H Q ⟨P, env, S, s, h⟩ =>
  tex_bind s h fun r S1 v P1 H1 st1 s1 rp h1 => by
    cases q : f r.d with
    | none => simp only [q] at h1; exact h1.elim
    | some r3 =>
      simp only [q] at h1
      exact ⟨P1, S1, r.d, r3, v, rfl, s1.le, s1.so, .rep rp, q, h1⟩
theorem b1V_top {f : D → Option R} {i : Nat} : ∀ σ H Q, TEx c (b1V f i) σ H Q → tCB (rB1 c f) (tCons (tVar i) tNil) σ H Q := fun σ H Q ⟨P, env, S, s, h⟩ => by
  unfold b1V at h
  cases q : peek env S i with
  | none => rw [q] at h; exact h.elim
  | some d =>
    rw [q] at h
    obtain ⟨v, ev, rd⟩ := s.slot q
    cases q2 : f d with
    | none => simp only [q2] at h; exact h.elim
    | some r3 =>
      simp only [q2] at h
      exact ⟨v, ev, P, S, d, r3, v, rfl, s.le, s.so, rd, q2, h⟩
variable {p pos : Pos} {nm : Str} {a : Expr} {y : Ex} {bid T : String}
theorem pd_b1 {f : D → Option R} {fn : Str} (hc : CallR X (.builtin bid) (rB1 c f)) (hg : Gl X fn) (hm : X.mg fn = none) (hv : bootBuiltins fn = some (.builtin bid)) (ha : PE X a (TEx c y)) (hn : fn ≠ "__name__") (hdb : (fn == ("__debug__" : Str)) = false)
    (hs : starEach [a] X.env = (false, eval a X.env) :: starEach [] X.env) : PE X (.Call (.Name fn p) [a] [] pos) (TEx c (op1 f y)) :=
  pe_imp (pe_callB hc hg hm hv (pa_cons ha pa_nil hs) hn hdb hs rfl) b1_top
theorem pd_b1V {f : D → Option R} {fn : Str} (i : Nat) {q : Pos} (hc : CallR X (.builtin bid) (rB1 c f)) (hg : Gl X fn) (hm : X.mg fn = none) (hv : bootBuiltins fn = some (.builtin bid)) (hn : fn ≠ "__name__") (hdb : (fn == ("__debug__" : Str)) = false)
    (hN : X.N[i]? = some nm) (hvi : Vis X.env.scope nm) (hd : (nm == ("__debug__" : Str)) = false) (hcd : (nm == ("__classdict__" : Str)) = false) : PE X (.Call (.Name fn p) [.Name nm q] [] pos) (TEx c (b1V f i)) :=
  pe_imp (pe_callB hc hg hm hv (pa_cons (pe_var hN hvi hd hcd) pa_nil rfl) hn hdb rfl rfl) b1V_top
theorem pd_t1 {f : D → Option R} {fn : Str} (hc : CallR X (.type T) (rB1 c f)) (hg : Gl X fn) (hm : X.mg fn = none) (hv : bootBuiltins fn = some (.type T)) (ha : PE X a (TEx c y)) (hn : fn ≠ "__name__") (hdb : (fn == ("__debug__" : Str)) = false)
    (hs : starEach [a] X.env = (false, eval a X.env) :: starEach [] X.env) : PE X (.Call (.Name fn p) [a] [] pos) (TEx c (op1 f y)) :=
  pe_imp (pe_callTy hc hg hm hv (pa_cons ha pa_nil hs) hn hdb hs rfl) b1_top
theorem pd_t1V {f : D → Option R} {fn : Str} (i : Nat) {q : Pos} (hc : CallR X (.type T) (rB1 c f)) (hg : Gl X fn) (hm : X.mg fn = none) (hv : bootBuiltins fn = some (.type T)) (hn : fn ≠ "__name__") (hdb : (fn == ("__debug__" : Str)) = false)
    (hN : X.N[i]? = some nm) (hvi : Vis X.env.scope nm) (hd : (nm == ("__debug__" : Str)) = false) (hcd : (nm == ("__classdict__" : Str)) = false) : PE X (.Call (.Name fn p) [.Name nm q] [] pos) (TEx c (b1V f i)) :=
  pe_imp (pe_callTy hc hg hm hv (pa_cons (pe_var hN hvi hd hcd) pa_nil rfl) hn hdb rfl rfl) b1V_top
def lenD (d : D) : Option R := match d with
  | .str z => if z.length ≤ line then some ⟨false, .int z.length⟩ else none
  | .dK l => some ⟨false, .int l.length⟩
  | d => (seqR d).map fun l => ⟨false, .int l.length⟩
def tupleD (d : D) : Option R := match d with
  | .lst l => some ⟨false, .tup l⟩
  | d => (tupOf d).map fun _ => ⟨false, d⟩
def listD (d : D) : Option R := (seqD d).map fun l => ⟨true, .lst l⟩
def intsOf : List D → Option (List Int)
  | [] => some []
  | .int i :: l => (intsOf l).map fun r => i :: r
  | _ => none
def boolsOf : List D → Option (List Bool)
  | [] => some []
  | .bl i :: l => (boolsOf l).map fun r => i :: r
  | _ => none
def sumI : List Int → Int
  | [] => 0
  | i :: l => i + sumI l
def allB : List Bool → Bool
  | [] => true
  | b :: l => b && allB l
def anyB : List Bool → Bool
  | [] => false
  | b :: l => b || anyB l
def sumD (d : D) : Option R := match d with
  | .lst l => (intsOf l).map fun r => ⟨false, .int (sumI r)⟩
  | _ => none
def allD (d : D) : Option R := match d with
  | .lst l => (boolsOf l).map fun r => bR (allB r)
  | _ => none
def anyD (d : D) : Option R := match d with
  | .lst l => (boolsOf l).map fun r => bR (anyB r)
  | _ => none
def intD (d : D) : Option R := match d with
  | .int i => some ⟨false, .int i⟩
  | .bl b => some ⟨false, .int (if b = true then 1 else 0)⟩
  | _ => none
def absD (d : D) : Option R := match d with
  | .int i => some ⟨false, .int (if i < 0 then -i else i)⟩
  | _ => none
theorem intsOf_rep : ∀ {l : List D} {ns : List Int} {vs : List V}, intsOf l = some ns → Reps c.K c.G P l vs → vs = ns.map V.int
  | [], ns, vs, e, r => by cases r; cases e; rfl
  | d :: l, ns, vs, e, r => by
    cases r with
    | cons r1 r2 =>
      cases r1 with
      | int i =>
        obtain ⟨m, e1, e2⟩ := Option.map_eq_some_iff.mp (show (intsOf l).map _ = some ns from e)
        rw [← e2, List.map_cons, intsOf_rep e1 r2]
      | _ => cases e
theorem boolsOf_rep : ∀ {l : List D} {ns : List Bool} {vs : List V}, boolsOf l = some ns → Reps c.K c.G P l vs → vs = ns.map V.bl
  | [], ns, vs, e, r => by cases r; cases e; rfl
  | d :: l, ns, vs, e, r => by
    cases r with
    | cons r1 r2 =>
      cases r1 with
      | bl i =>
        obtain ⟨m, e1, e2⟩ := Option.map_eq_some_iff.mp (show (boolsOf l).map _ = some ns from e)
        rw [← e2, List.map_cons, boolsOf_rep e1 r2]
      | _ => cases e
theorem sumI_eq : ∀ l : List Int, sumI l = l.sum
  | [] => rfl
  | i :: l => by rw [List.sum_cons, ← sumI_eq l]; rfl
theorem allB_eq : ∀ l : List Bool, allB l = l.all id
  | [] => rfl
  | i :: l => by rw [List.all_cons, ← allB_eq l]; rfl
theorem anyB_eq : ∀ l : List Bool, anyB l = l.any id
  | [] => rfl
  | i :: l => by rw [List.any_cons, ← anyB_eq l]; rfl
/-- a list that may be read -/
theorem Rd1.lstR {l : List D} {v : V} (le : Le P H) (r : Rd1 c.K c.G P H (.lst l) v) : ∃ a xs, v = .ref a ∧ SqL c.K H a xs ∧ Reps c.K c.G P l xs := by
  cases r with
  | rep r => cases r with
    | lst h r => exact ⟨_, _, rfl, .inl (.inl (le.lst h)), r⟩
  | lst h r => exact ⟨_, _, rfl, .inl h, r⟩
theorem cb_imp {f : Value} {r r' : List V → Hp → VK → Prop} (h : CallR X f r) (i : ∀ vs H Q, r' vs H Q → r vs H Q) : CallR X f r' := fun pins s σ H xs us Q I rx q => h pins s σ H xs us Q I rx (i xs H Q q)
theorem cd_sum (hK : X.K = c.K) (hc : X.calm = true) : CallR X (.builtin "sum") (rB1 c sumD) := cb_imp (cr_sum hc) fun vs H Q ⟨P, S, a, r, v, ev, le, so, rd, e, q⟩ => by
  cases a with
  | lst l =>
    obtain ⟨ns, e1, e2⟩ := Option.map_eq_some_iff.mp (show (intsOf l).map _ = some r from e)
    subst e2
    obtain ⟨a, xs, rfl, sq, rx⟩ := rd.lstR le
    rw [hK]
    exact ⟨a, ns, ev, by rw [← intsOf_rep e1 rx]; exact sq, by rw [← sumI_eq]; exact qx_ret q le so (.int _)⟩
  | _ => cases e
theorem cd_all (hK : X.K = c.K) (hc : X.calm = true) : CallR X (.builtin "all") (rB1 c allD) := cb_imp (cr_all hc) fun vs H Q ⟨P, S, a, r, v, ev, le, so, rd, e, q⟩ => by
  cases a with
  | lst l =>
    obtain ⟨ns, e1, e2⟩ := Option.map_eq_some_iff.mp (show (boolsOf l).map _ = some r from e)
    subst e2
    obtain ⟨a, xs, rfl, sq, rx⟩ := rd.lstR le
    rw [hK]
    exact ⟨a, ns, ev, by rw [← boolsOf_rep e1 rx]; exact sq, by rw [← allB_eq]; exact qx_ret q le so (.bl _)⟩
  | _ => cases e
theorem cd_any (hK : X.K = c.K) (hc : X.calm = true) : CallR X (.builtin "any") (rB1 c anyD) := cb_imp (cr_any hc) fun vs H Q ⟨P, S, a, r, v, ev, le, so, rd, e, q⟩ => by
  cases a with
  | lst l =>
    obtain ⟨ns, e1, e2⟩ := Option.map_eq_some_iff.mp (show (boolsOf l).map _ = some r from e)
    subst e2
    obtain ⟨a, xs, rfl, sq, rx⟩ := rd.lstR le
    rw [hK]
    exact ⟨a, ns, ev, by rw [← boolsOf_rep e1 rx]; exact sq, by rw [← anyB_eq]; exact qx_ret q le so (.bl _)⟩
  | _ => cases e
theorem cd_int : CallR X (.type "int") (rB1 c intD) := cb_imp call_int1 fun vs H Q ⟨P, S, a, r, v, ev, le, so, rd, e, q⟩ => by
  cases a with
  | int i =>
    cases rd with
    | rep rd => cases rd; cases e; exact .inl ⟨i, ev, qx_ret q le so (.int _)⟩
  | bl b =>
    cases rd with
    | rep rd => cases rd; cases e; exact .inr ⟨b, ev, qx_ret q le so (.int _)⟩
  | _ => cases e
theorem cd_abs : CallR X (.builtin "abs") (rB1 c absD) := cb_imp call_abs fun vs H Q ⟨P, S, a, r, v, ev, le, so, rd, e, q⟩ => by
  cases a with
  | int i =>
    cases rd with
    | rep rd => cases rd; cases e; exact ⟨i, ev, qx_ret q le so (.int _)⟩
  | _ => cases e
theorem cd_list (hK : X.K = c.K) : CallR X (.type "list") (rB1 c listD) := cb_imp call_list_of fun vs H Q ⟨P, S, a, r, v, ev, le, so, rd, e, q⟩ => by
  obtain ⟨l, e1, e2⟩ := Option.map_eq_some_iff.mp (show (seqD a).map _ = some r from e)
  subst e2
  have e3 : seqR a = some l := by cases a <;> first | exact e1 | cases e1
  obtain ⟨p, xs, rfl, sq, rx⟩ := rd.seqR le e3
  rw [hK]
  exact ⟨p, xs, ev, sq.symm, qx_lst q le so rx⟩
theorem cd_tuple (hK : X.K = c.K) : CallR X (.type "tuple") (rB1 c tupleD) := cb_imp call_tuple_of fun vs H Q ⟨P, S, a, r, v, ev, le, so, rd, e, q⟩ => by
  have old : ∀ {l : List D}, tupOf a = some l → r = ⟨false, a⟩ → Rep c.K c.G P a v → ∃ p ys, vs = [.ref p] ∧ ((SqL X.K H p ys ∧ ∀ l, H l = none → Q (.ref l) (upd H l (.tup ys))) ∨ (SqT X.K H p ys ∧ Q (.ref p) H)) := fun {l} e1 e2 ra => by
    subst e2
    obtain ⟨p, xs, rfl, sq, rx⟩ := tupOf_rep e1 ra le
    exact ⟨p, xs, ev, .inr ⟨by rw [hK]; exact sq, qx_ret q le so ra⟩⟩
  cases a with
  | lst l =>
    cases e
    obtain ⟨p, xs, rfl, sq, rx⟩ := rd.lstR le
    exact ⟨p, xs, ev, .inl ⟨by rw [hK]; exact sq, qx_tup q le so rx⟩⟩
  | tup l =>
    cases rd with
    | rep ra => exact old rfl (by cases e; rfl) ra
  | rt l =>
    cases rd with
    | rep ra => exact old rfl (by cases e; rfl) ra
  | _ => cases e
theorem cd_len (hK : X.K = c.K) : CallR X (.builtin "len") (rB1 c lenD) := by
  intro pins s σ H vs us Q I rs ⟨P, S, a, r, v, ev, le, so, rd, e, q⟩
  have seqs : ∀ {l : List D}, seqR a = some l → r = ⟨false, .int l.length⟩ → wpAny (model X.prog X.w) X.A (call (.builtin "len") us) (EP X pins σ Q) X.xe s := fun {l} e1 e2 => by
    subst e2
    obtain ⟨p, xs, rfl, sq, rx⟩ := rd.seqR le e1
    exact call_len_seq pins s σ H vs us Q I rs ⟨p, xs, ev, by rw [hK]; exact sq.symm, by rw [← rx.length]; exact qx_ret q le so (.int _)⟩
  cases a with
  | str z =>
    cases rd with
    | rep rd =>
      cases rd
      simp only [lenD] at e
      split at e
      · rename_i hz
        cases e
        exact call_len_str pins s σ H vs us Q I rs ⟨z, ev, by rw [← line_eq]; exact hz, qx_ret q le so (.int _)⟩
      · cases e
  | dK l =>
    cases e
    have go : ∀ {p : Addr} {kvs : List (Key × V)}, v = .ref p → Rd H p (.dK kvs) → RepK c.K c.G P l kvs → wpAny (model X.prog X.w) X.A (call (.builtin "len") us) (EP X pins σ Q) X.xe s := fun {p kvs} e1 h rk => by
      subst e1 ev
      obtain ⟨u, rfl, ru⟩ := vals1 rs
      cases (show u = Value.ref p from ru)
      refine d_len I h fun t s' I' => ⟨.int l.length, H, I', ⟨t, by rw [rk.length]⟩, qx_ret q le so (.int _)⟩
    cases rd with
    | rep rd => cases rd with
      | dK h rk => exact go rfl (le.rd h) rk
    | dK h rk => exact go rfl h rk
  | dT l => cases e
  | non => cases e
  | bl _ => cases e
  | int _ => cases e
  | obj _ _ => cases e
  | tup l => exact seqs rfl (by cases e; rfl)
  | lst l => exact seqs rfl (by cases e; rfl)
  | ro l => exact seqs rfl (by cases e; rfl)
  | rt l => exact seqs rfl (by cases e; rfl)
/-! ### tuple(range(..)), list(range(..)), list(zip(..)): of what is walked -/
/-! ### isinstance -/
def tyName : D → Option String
  | .non => some "NoneType"
  | .bl _ => some "bool"
  | .int _ => some "int"
  | .str _ => some "str"
  | .tup _ => some "tuple"
  | .rt _ => some "tuple"
  | .lst _ => some "list"
  | .dK _ => some "dict"
  | _ => none
def isB (t : String) : List String → Option Bool
  | [] => some false
  | u :: us => (kitB t u).bind fun b => if b = true then some true else isB t us
def isIX (ts : List String) (x : Ex) : Ex := op1 (fun d => (tyName d).bind fun t => (isB t ts).map bR) x
theorem tyX_of {d : D} {v : V} {t : String} (hK : X.K = c.K) (le : Le P H) (r : Rep c.K c.G P d v) (e : tyName d = some t) : TyX X.K H v (.type t) := by
  cases r with
  | non => cases e; exact .base .non
  | bl b => cases e; exact .base (.bl b)
  | int b => cases e; exact .base (.int b)
  | str b => cases e; exact .base (.str b)
  | tup h r => cases e; exact .base (.tup (le.tup h))
  | lst h r => cases e; exact .base (.lst (le.lst h))
  | dK h r =>
    cases e
    rcases le.rd h with h | ⟨o, h⟩
    · exact .base (.dK h)
    · exact .fDict h
  | rt h r =>
    cases e
    rw [hK]
    rcases le.sqT h with (h | ⟨o, h⟩) | ⟨o, its, n, h1, h2, _⟩
    · exact .base (.tup h)
    · exact .fTuple h
    · exact .kTuple h1 h2
  | _ => cases e
theorem isB_kit {K : PySem.W.Frag} {t : String} : ∀ {ts : List String} {b : Bool}, isB t ts = some b → PySem.W.kitAny K (.type t) (ts.map Value.type) = some b
  | [], b, e => by cases e; rfl
  | u :: us, b, e => by
    obtain ⟨k, e1, e2⟩ := Option.bind_eq_some_iff.mp (show (kitB t u).bind (fun b => if b = true then some true else isB t us) = some b from e)
    refine kitAny_cons (kit_ty e1) (fun z => ?_) fun z => ?_
    · subst z; exact isB_kit e2
    · subst z; cases e2; rfl
/-- one class -/
theorem pd_isi1 {t : Str} {tn : String} {pt : Pos} (hK : X.K = c.K) (hg : Gl X "isinstance") (hm : X.mg "isinstance" = none) (ha : PE X a (TEx c y)) (hs : starEach [a, .Name t pt] X.env = (false, eval a X.env) :: starEach [.Name t pt] X.env)
    (ht : PE X (.Name t pt) (tC (.ty tn))) : PE X (.Call (.Name "isinstance" p) [a, .Name t pt] [] pos) (TEx c (isIX [tn] y)) :=
  pe_imp (pe_callB call_isi hg hm (by decide +kernel) (pa_cons ha (pa_cons ht pa_nil rfl) hs) (by decide) (by decide) hs rfl) fun σ H Q ⟨P, env, S, s, h⟩ => tex_bind s h fun r S1 v P1 H1 st1 s1 rp h1 => by
    cases q : tyName r.d with
    | none => simp only [q, Option.bind_none] at h1; exact h1.elim
    | some n =>
      simp only [q, Option.bind_some] at h1
      cases q2 : isB n [tn] with
      | none => simp only [q2, Option.map_none] at h1; exact h1.elim
      | some b =>
        simp only [q2, Option.map_some] at h1
        obtain ⟨k, e1, e2⟩ := Option.bind_eq_some_iff.mp (show (kitB n tn).bind (fun b => if b = true then some true else isB n []) = some b from q2)
        have kb : k = b := by cases k <;> (cases e2; rfl)
        subst kb
        exact ⟨v, .ty tn, .type n, .type tn, k, rfl, .ty tn, tyX_of hK s1.le rp q, kit_ty e1, PX.ret s1 h1 (.bl _)⟩
theorem tys_tup {es : List Expr} {ts : List String} (h : PA X es (fun _ H Q => Q (ts.map V.ty) H)) {k : Nat} {pt : Pos} (hl : ts.length ≤ sizeLine) : PE X (.Tuple es k pt) (fun _ H Q => ∀ q, H q = none → Q (.ref q) (upd H q (.tup (ts.map V.ty)))) :=
  pe_imp (pe_tup h) fun σ H Q w => ⟨by rw [List.length_map]; exact hl, w⟩
theorem pty_nil : PA X [] (fun _ H Q => Q (([] : List String).map V.ty) H) := pa_imp pa_nil fun σ H Q w => w
theorem pty_cons {e : Expr} {es : List Expr} {t : String} {ts : List String} (h : PE X e (tC (.ty t))) (hr : PA X es (fun _ H Q => Q (ts.map V.ty) H)) (hs : starEach (e :: es) X.env = (false, eval e X.env) :: starEach es X.env) : PA X (e :: es) (fun _ H Q => Q ((t :: ts).map V.ty) H) :=
  pa_imp (pa_cons h hr hs) fun σ H Q w => w
theorem cls_all : ∀ ts : List String, Paired ClsV (ts.map V.ty) (ts.map Value.type)
  | [] => .nil
  | t :: ts => .cons (.ty t) (cls_all ts)
theorem pd_isiT {es : List Expr} {ts : List String} {k : Nat} {pt : Pos} (hK : X.K = c.K) (hg : Gl X "isinstance") (hm : X.mg "isinstance" = none) (ha : PE X a (TEx c y)) (hs : starEach [a, .Tuple es k pt] X.env = (false, eval a X.env) :: starEach [.Tuple es k pt] X.env)
    (ht : PA X es (fun _ H Q => Q (ts.map V.ty) H)) (hl : ts.length ≤ sizeLine) : PE X (.Call (.Name "isinstance" p) [a, .Tuple es k pt] [] pos) (TEx c (isIX ts y)) :=
  pe_imp (pe_callB call_isiT hg hm (by decide +kernel) (pa_cons ha (pa_cons (tys_tup ht hl) pa_nil rfl) hs) (by decide) (by decide) hs rfl) fun σ H Q ⟨P, env, S, s, h⟩ => tex_bind s h fun r S1 v P1 H1 st1 s1 rp h1 => by
    cases q : tyName r.d with
    | none => simp only [q, Option.bind_none] at h1; exact h1.elim
    | some n =>
      simp only [q, Option.bind_some] at h1
      cases q2 : isB n ts with
      | none => simp only [q2, Option.map_none] at h1; exact h1.elim
      | some b =>
        simp only [q2, Option.map_some] at h1
        intro z nz
        have st2 : Step c.ρ P1 H1 P1 (upd H1 z (.tup (ts.map V.ty))) := Step.alloc s1.le nz
        have s2 := s1.step st2 (s1.so.alloc s1.le nz)
        exact ⟨v, z, ts.map V.ty, .type n, ts.map Value.type, b, rfl, upd_same, cls_all ts, tyX_of hK s2.le rp q, isB_kit q2, PX.ret s2 (PX.step st2 h1) (.bl _)⟩
end
end Pv

set_option Elab.async false
set_option linter.all false
set_option maxRecDepth 100000
namespace Pv
open PySem PySem.Spec PyProof.Rows L2

/-! ### a zip whose last pair is still held, over iterators of any kind -/
section
variable {prog : Program} {w : World} {A : Around} {E : Value → Shared → Prop} {s : Shared} {z TI TO T i1 i2 : Addr} {fp1 fp2 : List Addr} {n1 n2 i : Nat} {P1 P2 : Nat → Value → Prop} {St1 St2 : Nat → Heap → Prop} {f : Bool} {oT : Obj}
theorem zh_item {Q : Value → Shared → Prop} (S : ZipSep2 z TI TO i1 i2 fp1 fp2) (D1 : Draws prog w A i1 fp1 n1 P1 St1) (D2 : Draws prog w A i2 fp2 n2 P2 St2) (hz : IsZipHeld s.heap z TI TO T f) (hT : s.heap.get? T = some oT) (hTI : IsTupOf2 s.heap TI (.ref i1) (.ref i2))
    (st1 : St1 i s.heap) (st2 : St2 i s.heap) (lt1 : i < n1) (lt2 : i < n2)
    (hQ : ∀ x y h' tk, P1 i x → P2 i y → IsZipHeld h' z TI TO T true → St1 (i + 1) h' → St2 (i + 1) h' → IsTupOf2 h' s.heap.objs.size x y → h'.objs.size = s.heap.objs.size + 1 → (∀ c o, c ≠ z → c ≠ i1 → c ≠ i2 → s.heap.get? c = some o → h'.get? c = some o) → Q (.ref s.heap.objs.size) { s with heap := h', toks := tk }) :
    wpAny (model prog w) A (Builtin.«zip.__next__» ⟨[.ref z], []⟩) (fun fin s' => ∃ v, fin = .done (.ret v) ∧ Q v s') E s := by
  obtain ⟨hp, g, d, tk0, os⟩ := s
  show wpAny _ _ (field (.ref z) 2 >>= _) _ _ _; refine wpAny_bind (wpAny_field hz rfl (x := .bool false) rfl ?_)
  show wpAny _ _ (field (.ref z) 3 >>= _) _ _ _; refine wpAny_bind (wpAny_field hz rfl (x := .ref TI) rfl (wpAny_bind (wpAny_seqItems hTI rfl ?_)))
  show wpAny _ _ (Builtin.SmallTypes.ownedTupleIsFree (.ref z) >>= _) _ _ _; refine wpAny_bind (wpAny_tupleHeld_zip hz hT fun g0 z0 s0 => ?_)
  replace s0 : Heap.SameBut z hp g0 := s0; replace z0 : IsZipHeld g0 z TI TO T true := z0
  simp only [Bool.false_eq_true, if_false]
  refine wpAny_bind ?_; rw [← Array.forIn_toList]; simp only [List.forIn_cons, List.forIn_nil]; refine wpAny_bind (wpAny_bind (wpAny_holding ?_))
  show wpAny _ _ (Builtin.SmallTypes.nextOf (.ref i1) >>= _) _ _ ⟨g0, g, d, tk0, os⟩
  refine wpAny_bind (D1.item i ⟨g0, g, d, tk0, os⟩ _ _ lt1 (D1.over st1 s0 S.zf1) fun x p1 tk1 hx n1' sp1 => wpAny_pure (wpAny_pure ?_))
  replace sp1 : Heap.SameBut i1 g0 p1 := sp1
  refine wpAny_bind (wpAny_bind (wpAny_holding ?_)); show wpAny _ _ (Builtin.SmallTypes.nextOf (.ref i2) >>= _) _ _ ⟨p1, g, d, tk1, os⟩
  refine wpAny_bind (D2.item i ⟨p1, g, d, tk1, os⟩ _ _ lt2 (D2.over (D2.over st2 s0 S.zf2) sp1 S.sep1_2) fun y p2 tk2 hy n2' sp2 => wpAny_pure (wpAny_pure (wpAny_pure ?_)))
  replace sp2 : Heap.SameBut i2 p1 p2 := sp2
  show wpAny _ _ (newTuple [x, y] >>= _) _ _ ⟨p2, g, d, tk2, os⟩; refine wpAny_bind (wpAny_newTuple (wpAny_pure ⟨_, rfl, ?_⟩))
  have hsz : p2.objs.size = hp.objs.size := by rw [sp2.1, sp1.1, s0.1]
  have zz : IsZipHeld p2 z TI TO T true := sp2.extBut _ _ S.zi2 (sp1.extBut _ _ S.zi1 z0)
  have kk : ∀ c o, c ≠ z → c ≠ i1 → c ≠ i2 → hp.get? c = some o → p2.get? c = some o := fun c o c1 c2 c3 e => sp2.extBut _ _ c3 (sp1.extBut _ _ c2 (s0.extBut _ _ c1 e))
  have up : ∀ c o, p2.get? c = some o → (p2.push { cls := .type "tuple", data := .seq #[x, y] }).get? c = some o := fun c o e => Heap.get?_push_of_some _ e
  have hp2 : IsTupOf2 (p2.push { cls := .type "tuple", data := .seq #[x, y] }) p2.objs.size x y := Heap.get?_push_size _ rfl
  have hz2 : (p2.push { cls := .type "tuple", data := .seq #[x, y] }).objs.size = p2.objs.size + 1 := Heap.size_push ..
  show Q (.ref p2.objs.size) _
  rw [hsz] at hp2 hz2 ⊢
  exact hQ x y _ tk2 hx hy (up _ _ zz) (D1.frame _ _ _ (D1.over n1' sp2 S.sep2_1) fun b _ o e => up b o e) (D2.frame _ _ _ n2' fun b _ o e => up b o e) hp2 hz2 fun c o c1 c2 c3 e => up c o (kk c o c1 c2 c3 e)
theorem zh_end {Q : Fin → Shared → Prop} (S : ZipSep2 z TI TO i1 i2 fp1 fp2) (D1 : Draws prog w A i1 fp1 n1 P1 St1) (D2 : Draws prog w A i2 fp2 n2 P2 St2) (hz : IsZipHeld s.heap z TI TO T f) (hT : s.heap.get? T = some oT) (hTI : IsTupOf2 s.heap TI (.ref i1) (.ref i2))
    (st1 : St1 i s.heap) (st2 : St2 i s.heap) (le1 : i ≤ n1) (le2 : i ≤ n2) (hend : i = n1 ∨ i = n2)
    (hE : ∀ h' tk e, (∀ c o, c ≠ z → c ≠ i1 → c ≠ i2 → s.heap.get? c = some o → h'.get? c = some o) → (∃ o, h'.get? e = some o ∧ o.cls = .type "StopIteration") → E (.ref e) { s with heap := h', toks := tk }) :
    wpAny (model prog w) A (Builtin.«zip.__next__» ⟨[.ref z], []⟩) Q E s := by
  obtain ⟨hp, g, d, tk0, os⟩ := s
  show wpAny _ _ (field (.ref z) 2 >>= _) _ _ _; refine wpAny_bind (wpAny_field hz rfl (x := .bool false) rfl ?_)
  show wpAny _ _ (field (.ref z) 3 >>= _) _ _ _; refine wpAny_bind (wpAny_field hz rfl (x := .ref TI) rfl (wpAny_bind (wpAny_seqItems hTI rfl ?_)))
  show wpAny _ _ (Builtin.SmallTypes.ownedTupleIsFree (.ref z) >>= _) _ _ _; refine wpAny_bind (wpAny_tupleHeld_zip hz hT fun g0 z0 s0 => ?_)
  replace s0 : Heap.SameBut z hp g0 := s0
  simp only [Bool.false_eq_true, if_false]
  refine wpAny_bind ?_; rw [← Array.forIn_toList]; simp only [List.forIn_cons, List.forIn_nil]; refine wpAny_bind (wpAny_bind (wpAny_holding ?_))
  show wpAny _ _ (Builtin.SmallTypes.nextOf (.ref i1) >>= _) _ _ ⟨g0, g, d, tk0, os⟩
  by_cases lt1 : i < n1
  · refine wpAny_bind (D1.item i ⟨g0, g, d, tk0, os⟩ _ _ lt1 (D1.over st1 s0 S.zf1) fun x p1 tk1 hx n1' sp1 => wpAny_pure (wpAny_pure ?_))
    replace sp1 : Heap.SameBut i1 g0 p1 := sp1
    have e2 : i = n2 := by omega
    refine wpAny_bind (wpAny_bind (wpAny_holding ?_)); show wpAny _ _ (Builtin.SmallTypes.nextOf (.ref i2) >>= _) _ _ ⟨p1, g, d, tk1, os⟩
    refine wpAny_bind (D2.done ⟨p1, g, d, tk1, os⟩ _ _ (by rw [← e2]; exact D2.over (D2.over st2 s0 S.zf2) sp1 S.sep1_2) fun q e hq he => ?_)
    exact hE q tk1 e (fun c o c1 c2 c3 x => hq _ _ c3 (sp1.extBut _ _ c2 (s0.extBut _ _ c1 x))) he
  · have e1 : i = n1 := by omega
    refine wpAny_bind (D1.done ⟨g0, g, d, tk0, os⟩ _ _ (by rw [← e1]; exact D1.over st1 s0 S.zf1) fun q e hq he => ?_)
    exact hE q tk0 e (fun c o c1 c2 c3 x => hq _ _ c2 (s0.extBut _ _ c1 x)) he
theorem next_zh_item {Q : Option Value → Shared → Prop} (S : ZipSep2 z TI TO i1 i2 fp1 fp2) (D1 : Draws prog w A.in1 i1 fp1 n1 P1 St1) (D2 : Draws prog w A.in1 i2 fp2 n2 P2 St2) (hz : IsZipHeld s.heap z TI TO T f) (hT : s.heap.get? T = some oT) (hTI : IsTupOf2 s.heap TI (.ref i1) (.ref i2))
    (st1 : St1 i s.heap) (st2 : St2 i s.heap) (lt1 : i < n1) (lt2 : i < n2)
    (hQ : ∀ x y h' tk, P1 i x → P2 i y → IsZipHeld h' z TI TO T true → St1 (i + 1) h' → St2 (i + 1) h' → IsTupOf2 h' s.heap.objs.size x y → h'.objs.size = s.heap.objs.size + 1 → (∀ c o, c ≠ z → c ≠ i1 → c ≠ i2 → s.heap.get? c = some o → h'.get? c = some o) → Q (some (.ref s.heap.objs.size)) { s with heap := h', toks := tk }) :
    wpAny (model prog w) A (pyNext (.ref z)) Q E s := by
  have ty : s.TypeIs (.ref z) "zip" := ⟨_, hz, rfl⟩
  unfold pyNext
  exact wpAny_bind (wpAny_attempt (wpAny_callSpecial?_slot (name := Str.ofString "__next__") ty F.slot_zip_next (wpAny_call_entry F.slot_zip_next ty F.entry_zip_next
    (zh_item S D1 D2 hz hT hTI st1 st2 lt1 lt2 fun x y h' tk y1 y2 b1 d1 d2 b5 b6 b7 => wpAny_pure (hQ x y h' tk y1 y2 b1 d1 d2 b5 b6 b7)) (F.args_zip_next_1 _))))
theorem next_zh_end {Q : Option Value → Shared → Prop} (S : ZipSep2 z TI TO i1 i2 fp1 fp2) (D1 : Draws prog w A.in1 i1 fp1 n1 P1 St1) (D2 : Draws prog w A.in1 i2 fp2 n2 P2 St2) (hz : IsZipHeld s.heap z TI TO T f) (hT : s.heap.get? T = some oT) (hTI : IsTupOf2 s.heap TI (.ref i1) (.ref i2))
    (st1 : St1 i s.heap) (st2 : St2 i s.heap) (le1 : i ≤ n1) (le2 : i ≤ n2) (hend : i = n1 ∨ i = n2)
    (hQ : ∀ h' tk, (∀ c o, c ≠ z → c ≠ i1 → c ≠ i2 → s.heap.get? c = some o → h'.get? c = some o) → Q none { s with heap := h', toks := tk }) : wpAny (model prog w) A (pyNext (.ref z)) Q E s := by
  have ty : s.TypeIs (.ref z) "zip" := ⟨_, hz, rfl⟩
  unfold pyNext
  refine wpAny_bind (wpAny_attempt (wpAny_callSpecial?_slot (name := Str.ofString "__next__") ty F.slot_zip_next (wpAny_call_entry F.slot_zip_next ty F.entry_zip_next (zh_end S D1 D2 hz hT hTI st1 st2 le1 le2 hend fun h' tk e hk ⟨o, ho, hc⟩ => ?_) (F.args_zip_next_1 _))))
  exact wpAny_bind (wpAny_isInstance (T := "StopIteration") (b := true) ⟨o, ho, hc⟩ isSubtype_stop (wpAny_pure (hQ _ _ hk)))
end
/-! ### the zip's state; D: what is written beside it -/
def ZS (k1 k2 : Bool) (z TI TO i1 i2 a b D : Addr) (us vs : Array Value) (i : Nat) (h : Heap) : Prop :=
  IsTupOf2 h TI (.ref i1) (.ref i2) ∧ (ItK k1 h i1 a i ∧ SqK k1 h a us) ∧ (ItK k2 h i2 b i ∧ SqK k2 h b vs) ∧ ((IsZip h z TI TO .none ∧ ∃ x y, IsTupOf2 h TO x y) ∨ ∃ T f oT, IsZipHeld h z TI TO T f ∧ h.get? T = some oT ∧ T ≠ z ∧ T ≠ i1 ∧ T ≠ i2 ∧ T ≠ D)
section
variable {prog : Program} {w : World} {A : Around} {E : Value → Shared → Prop} {s : Shared} {k1 k2 : Bool} {z TI TO i1 i2 a b D : Addr} {us vs : Array Value} {i : Nat}
theorem sqK_keep {k : Bool} {h h' : Heap} {l : Addr} {its : Array Value} (x : SqK k h l its) (hk : ∀ o, h.get? l = some o → h'.get? l = some o) : SqK k h' l its := by
  cases k with
  | true => exact (show h.IsTuple l its from x).at hk
  | false => exact (show h.IsList l its from x).at hk
theorem ZS.keep {h h' : Heap} (S : ZipSep2 z TI TO i1 i2 [i1, a] [i2, b]) (x : ZS k1 k2 z TI TO i1 i2 a b D us vs i h) (d : ∀ c ∈ [z, TI, TO, i1, i2, a, b], c ≠ D) (hk : ∀ c o, c ≠ D → h.get? c = some o → h'.get? c = some o) : ZS k1 k2 z TI TO i1 i2 a b D us vs i h' := by
  obtain ⟨x1, ⟨x2, x3⟩, ⟨x4, x5⟩, x6⟩ := x
  refine ⟨hk _ _ (d TI (by simp)) x1, ⟨itK_keep x2 fun o e => hk _ o (d i1 (by simp)) e, sqK_keep x3 fun o e => hk _ o (d a (by simp)) e⟩, ⟨itK_keep x4 fun o e => hk _ o (d i2 (by simp)) e, sqK_keep x5 fun o e => hk _ o (d b (by simp)) e⟩, ?_⟩
  rcases x6 with ⟨y1, x, y, y2⟩ | ⟨T, f, oT, y1, y2, y3, y4, y5, y6⟩
  · exact .inl ⟨hk _ _ (d z (by simp)) y1, x, y, hk _ _ (d TO (by simp)) y2⟩
  · exact .inr ⟨T, f, oT, hk _ _ (d z (by simp)) y1, hk _ _ y6 y2, y3, y4, y5, y6⟩
theorem zs_item {Q : Option Value → Shared → Prop} (hh : A.handled = none) (na : a ≠ i1) (nb : b ≠ i2) (S : ZipSep2 z TI TO i1 i2 [i1, a] [i2, b]) (x : ZS k1 k2 z TI TO i1 i2 a b D us vs i s.heap) (l1 : i < us.size) (l2 : i < vs.size) (lD : D < s.heap.objs.size)
    (hQ : ∀ u v h' tk, us[i]? = some u → vs[i]? = some v → ZS k1 k2 z TI TO i1 i2 a b D us vs (i + 1) h' → IsTupOf2 h' s.heap.objs.size u v → h'.objs.size = s.heap.objs.size + 1 → (∀ c o, c ∉ [z, TO, i1, i2] → s.heap.get? c = some o → h'.get? c = some o) → Q (some (.ref s.heap.objs.size)) { s with heap := h', toks := tk }) :
    wpAny (model prog w) A (pyNext (.ref z)) Q E s := by
  have d1 := drawK (prog := prog) (w := w) (A := A.in1) k1 hh i1 a na us
  have d2 := drawK (prog := prog) (w := w) (A := A.in1) k2 hh i2 b nb vs
  obtain ⟨x1, x2, x4, x6⟩ := x
  have lz : z < s.heap.objs.size := by
    rcases x6 with ⟨y1, _⟩ | ⟨T, f, oT, y1, _⟩ <;> exact Heap.lt_size y1
  have li1 : i1 < s.heap.objs.size := by obtain ⟨o, e, _⟩ := itK_obj x2.1; exact Heap.lt_size e
  have li2 : i2 < s.heap.objs.size := by obtain ⟨o, e, _⟩ := itK_obj x4.1; exact Heap.lt_size e
  rcases x6 with ⟨y1, x, y, y2⟩ | ⟨T, f, oT, y1, y2, y3, y4, y5, y6⟩
  · refine wpAny_pyNext_zipD2_item S d1 d2 y1 x1 y2 x2 x4 l1 l2 fun u v h' tk eu ev z' TO' t1 t2 nT hsz kp => ?_
    refine hQ u v h' tk eu ev ⟨kp _ _ S.TIz S.TITO S.TIi1 S.TIi2 x1, t1, t2, .inr ⟨_, false, _, z', nT, Nat.ne_of_gt lz, Nat.ne_of_gt li1, Nat.ne_of_gt li2, Nat.ne_of_gt lD⟩⟩ nT hsz fun c o hc e => ?_
    simp only [List.mem_cons, List.not_mem_nil, or_false, not_or] at hc
    exact kp c o hc.1 hc.2.1 hc.2.2.1 hc.2.2.2 e
  · refine next_zh_item S d1 d2 y1 y2 x1 x2 x4 l1 l2 fun u v h' tk eu ev z' t1 t2 nT hsz kp => ?_
    refine hQ u v h' tk eu ev ⟨kp _ _ S.TIz S.TIi1 S.TIi2 x1, t1, t2, .inr ⟨T, true, oT, z', kp _ _ y3 y4 y5 y2, y3, y4, y5, y6⟩⟩ nT hsz fun c o hc e => ?_
    simp only [List.mem_cons, List.not_mem_nil, or_false, not_or] at hc
    exact kp c o hc.1 hc.2.2.1 hc.2.2.2 e
theorem zs_end {Q : Option Value → Shared → Prop} (hh : A.handled = none) (na : a ≠ i1) (nb : b ≠ i2) (S : ZipSep2 z TI TO i1 i2 [i1, a] [i2, b]) (x : ZS k1 k2 z TI TO i1 i2 a b D us vs i s.heap) (ei : i = min us.size vs.size)
    (hQ : ∀ h' tk, (∀ c o, c ∉ [z, TO, i1, i2] → s.heap.get? c = some o → h'.get? c = some o) → Q none { s with heap := h', toks := tk }) : wpAny (model prog w) A (pyNext (.ref z)) Q E s := by
  have d1 := drawK (prog := prog) (w := w) (A := A.in1) k1 hh i1 a na us
  have d2 := drawK (prog := prog) (w := w) (A := A.in1) k2 hh i2 b nb vs
  obtain ⟨x1, x2, x4, x6⟩ := x
  rcases x6 with ⟨y1, x, y, y2⟩ | ⟨T, f, oT, y1, y2, y3, y4, y5, y6⟩
  · refine wpAny_pyNext_zipD2_end S d1 d2 y1 x1 y2 x2 x4 (by omega) (by omega) (by omega) fun h' tk kp => hQ h' tk fun c o hc e => ?_
    simp only [List.mem_cons, List.not_mem_nil, or_false, not_or] at hc
    exact kp c o hc.1 hc.2.1 hc.2.2.1 hc.2.2.2 e
  · refine next_zh_end S d1 d2 y1 y2 x1 x2 x4 (by omega) (by omega) (by omega) fun h' tk kp => hQ h' tk fun c o hc e => ?_
    simp only [List.mem_cons, List.not_mem_nil, or_false, not_or] at hc
    exact kp c o hc.1 hc.2.2.1 hc.2.2.2 e
end
/-- zip(x, y) as dict()'s argument -/
theorem pairArg_zipK {prog : Program} {w : World} (k1 k2 : Bool) {z TI TO i1 i2 a b : Addr} (na : a ≠ i1) (nb : b ≠ i2) (S : ZipSep2 z TI TO i1 i2 [i1, a] [i2, b]) (us vs : Array Value) :
    PairArg prog w "zip" z [z, TI, TO, i1, i2, a, b] [z, TO, i1, i2] (min us.size vs.size) (fun i k v => us[i]? = some k ∧ vs[i]? = some v)
      (fun h => (IsZip h z TI TO .none ∧ ∃ x y, IsTupOf2 h TO x y) ∧ IsTupOf2 h TI (.ref i1) (.ref i2) ∧ (ItK k1 h i1 a 0 ∧ SqK k1 h a us) ∧ (ItK k2 h i2 b 0 ∧ SqK k2 h b vs)) where
  type := fun s ok => ⟨_, ok.1.1, rfl⟩
  notDict := by decide
  keep := fun h h' ⟨⟨y1, x, y, y2⟩, x1, ⟨x2, x3⟩, x4, x5⟩ hk => ⟨⟨hk _ _ y1, x, y, hk _ _ y2⟩, hk _ _ x1, ⟨itK_keep x2 fun o e => hk _ o e, sqK_keep x3 fun o e => hk _ o e⟩, itK_keep x4 fun o e => hk _ o e, sqK_keep x5 fun o e => hk _ o e⟩
  there := fun h ⟨⟨y1, x, y, y2⟩, x1, ⟨x2, x3⟩, x4, x5⟩ c hc => by
    have sq : ∀ {k : Bool} {l : Addr} {its : Array Value}, SqK k h l its → ∃ o, h.get? l = some o := fun {k l its} q => by
      cases k with
      | true => obtain ⟨o, e, _⟩ := (show h.IsTuple l its from q); exact ⟨o, e⟩
      | false => obtain ⟨o, e, _⟩ := (show h.IsList l its from q); exact ⟨o, e⟩
    simp only [List.mem_cons, List.not_mem_nil, or_false] at hc
    rcases hc with rfl | rfl | rfl | rfl | rfl | rfl | rfl
    · exact ⟨_, y1⟩
    · exact ⟨_, x1⟩
    · exact ⟨_, y2⟩
    · obtain ⟨o, e, _⟩ := itK_obj x2; exact ⟨o, e⟩
    · obtain ⟨o, e, _⟩ := itK_obj x4; exact ⟨o, e⟩
    · exact sq x3
    · exact sq x5
  sub := fun c hc => by
    simp only [List.mem_cons, List.not_mem_nil, or_false] at hc ⊢
    rcases hc with q | q | q | q <;> subst q <;> simp
  noKeys := fun A s Q E hA ok h => getAttrOr_miss_zip ok.1.1 rfl rfl rfl zip_no_keys (by decide +kernel) hA h
  iter := fun A s d Q E hA ok hd hdf h => by
    have ap : ∀ c ∈ [z, TI, TO, i1, i2, a, b], c ≠ d := fun c hc q => hdf (q ▸ hc)
    refine wpAny_pyIter_zip ok.1.1 (h z [z, TO, i1, i2] (ZS k1 k2 z TI TO i1 i2 a b d us vs) s.heap s.toks ?_ ⟨ok.2.1, ok.2.2.1, ok.2.2.2, .inl ok.1⟩ (fun _ _ e => e) fun c hc => .inl hc)
    exact {
      off := fun hm => by
        simp only [List.mem_cons, List.not_mem_nil, or_false] at hm
        rcases hm with q | q | q | q
        · exact ap z (by simp) q.symm
        · exact ap TO (by simp) q.symm
        · exact ap i1 (by simp) q.symm
        · exact ap i2 (by simp) q.symm
      frame := fun i h h' st hk => st.keep S ap hk
      item := fun i s Q E hi st hds hQ => zs_item hA na nb S st (by omega) (by omega) hds fun u v h' tk eu ev st' nT hsz kp => hQ _ u v h' tk ⟨eu, ev⟩ (.inl ⟨_, nT, rfl, _, rfl⟩) st' kp
      done := fun s Q E st hQ => zs_end hA na nb S st rfl hQ }
end Pv

set_option Elab.async false
set_option linter.all false
set_option maxRecDepth 100000
namespace Pv
open PySem PySem.Spec PyProof.Rows L2

/-! ### zip(x, y), evaluated -/
structure ZipAt (X : Cx) (pins : List (Addr × Obj)) (σ : L2.St) (H : Hp) (s : Shared) (k1 k2 : Bool) (a b : Addr) (xs ys : List V) (us ws : List Value) (n : Nat) : Prop where
  inv : Inv X pins σ H s
  sx : SqA X.K H k1 a xs
  sy : SqA X.K H k2 b ys
  vx : Vals xs us
  vy : Vals ys ws
  lx : xs.length ≤ sizeLine
  la : a < n
  lb : b < n
  big : n + 4 < s.heap.objs.size
  z : IsZip s.heap (n + 4) (n + 2) (n + 3) .none ∧ ∃ x y, IsTupOf2 s.heap (n + 3) x y
  TI : IsTupOf2 s.heap (n + 2) (.ref n) (.ref (n + 1))
  i1 : ItK k1 s.heap n a 0 ∧ SqK k1 s.heap a us.toArray
  i2 : ItK k2 s.heap (n + 1) b 0 ∧ SqK k2 s.heap b ws.toArray
  fp : ∀ d, n ≤ d → d ≤ n + 4 → FpOk X pins H d
theorem inv_sqA_len {X : Cx} {pins : List (Addr × Obj)} {σ : L2.St} {H : Hp} {s : Shared} {k : Bool} {a : Addr} {xs : List V} (I : Inv X pins σ H s) (h : SqA X.K H k a xs) : xs.length ≤ sizeLine := by
  cases k with
  | true => exact (I.tuple (show SqT X.K H a xs from h)).choose_spec.2.2
  | false => exact (I.list (show SqL X.K H a xs from h)).choose_spec.2.2
theorem zip_eval {X : Cx} {e e2 : Expr} {ta : TA} {p pos : Pos} {pins : List (Addr × Obj)} {s : Shared} {σ : L2.St} {H : Hp} {Q : Addr → Addr → List V → List V → Hp → Prop} {Q' : Value → Shared → Prop} (hg : Gl X "zip") (hm : X.mg "zip" = none) (ha : PA X [e, e2] ta) (hs : starEach [e, e2] X.env = (false, eval e X.env) :: starEach [e2] X.env)
    (hpl : (backTo pos (starEach [e2] X.env)).any (·.1) = false) (I : Inv X pins σ H s) (h : ta σ H fun vs H1 => ∃ k1 k2 a b xs ys, vs = [.ref a, .ref b] ∧ SqA X.K H1 k1 a xs ∧ SqA X.K H1 k2 b ys ∧ Q a b xs ys H1)
    (k : ∀ s' H1 k1 k2 a b xs ys us ws n, ZipAt X pins σ H1 s' k1 k2 a b xs ys us ws n → Q a b xs ys H1 → Q' (.ref (n + 4)) s') : wpAny (model X.prog X.w) X.A (eval (.Call (.Name "zip" p) [e, e2] [] pos) X.env) Q' X.xe s := by
  refine Call_ (ld_blt I hg hm boot_zip (PyProof.Rows.callWith_type1 (thn (ha.run pos pins s σ H _ I h) fun us s1 ⟨vs, H1, I1, r1, q1⟩ => ?_) hs hpl))
  obtain ⟨k1, k2, a, b, xs, ys, ex, sx, sy, q1⟩ := q1
  subst ex
  obtain ⟨u1, u2, rfl, e1, e2⟩ := vals2 r1
  cases e1; cases e2
  obtain ⟨its, rv, px⟩ := inv_sqA I1 sx
  obtain ⟨its2, rv2, py⟩ := inv_sqA I1 sy
  have la := sqK_lt px
  have lb := sqK_lt py
  refine call_zipK k1 k2 px py fun h' hz hTI hTO i1 i2 kp => k _ H1 k1 k2 a b xs ys its its2 s1.heap.objs.size ?_ q1
  exact { inv := I1.kept (t' := s1.toks) kp, sx := sx, sy := sy, vx := rv, vy := rv2, lx := inv_sqA_len I1 sx, la := la, lb := lb, big := Heap.lt_size hz, z := ⟨hz, _, _, hTO⟩, TI := hTI, i1 := ⟨i1, sqK_keep px fun o e => kp _ o e⟩, i2 := ⟨i2, sqK_keep py fun o e => kp _ o e⟩,
          fp := fun d hd _ => I1.fpOk hd (I1.hok.fresh hd) }

/-! ### dicts of tuples, made -/
def putAll (acc l : List (List Key × V)) : List (List Key × V) := l.foldl (fun acc p => putK acc p.1 p.2) acc
theorem kt_all {H : Hp} : ∀ {kvs : List (List Key × V)} {xs : List (List Key × Addr × Value)} {acc : List (List Key × V)} {ax : List (List Key × Addr × Value)}, KT H kvs xs → KT H acc ax → KT H (putAll acc kvs) (storedAllH ax xs)
  | _, _, _, _, .nil, q => q
  | _, _, acc, ax, .cons (a := p) (b := x) h t, q => by
    have e : KT H (putK acc p.1 p.2) (storedH ax x.1 x.2.1 x.2.2) := by rw [← h.1]; exact q.put p.1 h.2.1 h.2.2
    have r := kt_all t e
    exact r
theorem putAll_len : ∀ (l acc : List (List Key × V)), (putAll acc l).length ≤ acc.length + l.length
  | [], acc => Nat.le_refl _
  | p :: l, acc => by
    have h1 := putAll_len l (putK acc p.1 p.2)
    have h2 := length_putK acc p.1 p.2
    show (putAll (putK acc p.1 p.2) l).length ≤ acc.length + (l.length + 1)
    omega
theorem kt_keys {P : Program} {w : World} {H : Hp} {h : Heap} (ok : HOk P w H h) : ∀ {l : List (List Key × V)} {m : List (List Key × Addr × Value)}, KT H l m → ∀ x ∈ m, (tupleKind (mixKind P w)).is h x.1 x.2.1
  | _, _, .nil, x, hx => nomatch hx
  | _, _, .cons hq t, x, hx => by
    rcases List.mem_cons.mp hx with e | hx
    · subst e; exact key_of ok (by rw [← hq.1]; exact hq.2.1)
    · exact kt_keys ok t x hx
/-- the new dict is laid; ch: what was turned -/
theorem inv_dT {X : Cx} {pins : List (Addr × Obj)} {σ : L2.St} {H : Hp} {s : Shared} {h' : Heap} {t' : Nat} {d : Addr} {ch : List Addr} {kvs : List (List Key × V)} {xs : List (List Key × Addr × Value)} (I : Inv X pins σ H s) (hd : s.heap.objs.size ≤ d) (k : ∀ b o, b ∉ ch → s.heap.get? b = some o → h'.get? b = some o)
    (hf : ∀ b ∈ ch, FpOk X pins H b) (hl : kvs.length ≤ sizeLine) (rel : KT H kvs xs) (dd : h'.DictOfH (tupleKind (mixKind X.prog X.w)) d (storedAllH [] xs)) : Inv X pins σ (upd H d (.dT (putAll [] kvs))) { s with heap := h', toks := t' } := by
  have n : H d = none := I.hok.fresh hd
  refine I.turnedNew k hf hd ?_
  obtain ⟨o, es, ep, h1, h2, h3, h4, _, h5⟩ := dd
  refine ⟨?_, ?_, storedAllH [] xs, (kt_all rel .nil).keeps fun b ys e => ?_, o, es, ep, h1, h2, h3, h4, h5⟩
  · have := putAll_len kvs []
    rw [List.length_nil] at this; omega
  · have := I.big
    exact beq_eq_false_iff_ne.mpr (Nat.ne_of_gt (Nat.lt_of_lt_of_le this hd))
  · rw [upd_ne (ne_of_none e n)]; exact e
/-- the keys and values: the pairs of two lists of values -/
inductive KTs (H : Hp) : List (List Key × V) → List V → List V → Prop
  | nilL {ys : List V} : KTs H [] [] ys
  | nilR {xs : List V} : KTs H [] xs []
  | cons {k : List Key} {b : Addr} {y : V} {kvs : List (List Key × V)} {xs ys : List V} : H b = some (.tup (k.map kV)) → KTs H kvs xs ys → KTs H ((k, y) :: kvs) (.ref b :: xs) (y :: ys)
theorem KTs.len {H : Hp} : ∀ {kvs : List (List Key × V)} {xs ys : List V}, KTs H kvs xs ys → kvs.length = min xs.length ys.length
  | _, _, _, .nilL => by simp
  | _, _, _, .nilR => by simp
  | _, _, _, .cons _ t => by
    have := t.len
    simp only [List.length_cons]
    omega
theorem KTs.made {H : Hp} : ∀ {kvs : List (List Key × V)} {xs ys : List V} {us ws : List Value}, KTs H kvs xs ys → Vals xs us → Vals ys ws → ∃ ps : List (List Key × Addr × Value), KT H kvs ps ∧ ps.length = kvs.length ∧ ∀ (i : Nat) (u w : Value), us[i]? = some u → ws[i]? = some w → ∃ k b, ps[i]? = some (k, b, w) ∧ u = Value.ref b
  | _, _, _, us, ws, .nilL, r1, _ => by cases r1; exact ⟨[], .nil, rfl, fun i u w e => by simp at e⟩
  | _, _, _, us, ws, .nilR, _, r2 => by cases r2; exact ⟨[], .nil, rfl, fun i u w _ e => by simp at e⟩
  | _, _, _, _, _, .cons (k := k) (b := b) e t, .cons (b := u0) q1 t1, .cons (b := w0) q2 t2 => by
    obtain ⟨ps, h1, h2, h3⟩ := t.made t1 t2
    cases q1
    refine ⟨(k, b, w0) :: ps, .cons ⟨rfl, e, q2⟩ h1, congrArg (· + 1) h2, fun i u w e1 e2 => ?_⟩
    cases i with
    | zero =>
      have z1 : Value.ref b = u := Option.some.inj e1
      have z2 : w0 = w := Option.some.inj e2
      exact ⟨k, b, by rw [← z2]; rfl, z1.symm⟩
    | succ i => exact h3 i u w e1 e2

/-! ### .. of values -/
def putD {κ : Type} [DecidableEq κ] (l : List (κ × D)) (k : κ) (d : D) : List (κ × D) := if (l.any fun p => decide (p.1 = k)) = true then l.map (fun p => if p.1 = k then (p.1, d) else p) else l ++ [(k, d)]
def putDs {κ : Type} [DecidableEq κ] : List (κ × D) → List (κ × D) → List (κ × D)
  | acc, [] => acc
  | acc, p :: ps => putDs (putD acc p.1 p.2) ps
def tkey : D → Option (List Key)
  | .tup l => keysOf l
  | _ => none
def pairsT : List D → List D → Option (List (List Key × D))
  | a :: l, b :: m => (tkey a).bind fun k => (pairsT l m).map fun r => (k, b) :: r
  | _, _ => some []
def pairsL : List D → Option (List (List Key × D))
  | [] => some []
  | .tup [a, b] :: l => (tkey a).bind fun k => (pairsL l).map fun r => (k, b) :: r
  | _ => none
def zipDict (ds : List D) : Option R := match ds with
  | [a, b] => (match seqD a, seqD b with
    | some l1, some l2 => (pairsT l1 l2).map fun ps => ⟨true, .dT (putDs [] ps)⟩
    | _, _ => none)
  | _ => none
section
variable {X : Cx} {c : Cc} {P H : Hp}
theorem tkey_rep {d : D} {k : List Key} {v : V} (e : tkey d = some k) (r : Rep c.K c.G P d v) (le : Le P H) : ∃ b, v = .ref b ∧ P b = some (.tup (k.map kV)) := by
  cases r with
  | tup h rb => exact ⟨_, rfl, by rw [← keysOf_rep e rb]; exact h⟩
  | _ => cases e
theorem rep_putT {k : List Key} {d : D} {v : V} (rd : Rep c.K c.G P d v) : ∀ {l : List (List Key × D)} {kvs : List (List Key × V)}, RepT c.K c.G P l kvs → RepT c.K c.G P (putD l k d) (putK kvs k v) := by
  have any : ∀ {l : List (List Key × D)} {kvs : List (List Key × V)}, RepT c.K c.G P l kvs → (l.any fun p => decide (p.1 = k)) = (kvs.any fun p => decide (p.1 = k)) := fun {l} => by
    induction l with
    | nil => intro kvs r; cases r; rfl
    | cons p l ih =>
      intro kvs r
      cases r with
      | cons r1 r2 => rw [List.any_cons, List.any_cons, ih r2]
  have rpl : ∀ {l : List (List Key × D)} {kvs : List (List Key × V)}, RepT c.K c.G P l kvs → RepT c.K c.G P (l.map fun p => if p.1 = k then (p.1, d) else p) (kvs.map fun p => if p.1 = k then (p.1, v) else p) := fun {l} => by
    induction l with
    | nil => intro kvs r; cases r; exact .nil
    | cons p l ih =>
      intro kvs r
      cases r with
      | @cons k1 d1 v1 _ _ r1 r2 =>
        rw [List.map_cons, List.map_cons]
        by_cases e : k1 = k
        · rw [if_pos e, if_pos e]; exact .cons rd (ih r2)
        · rw [if_neg e, if_neg e]; exact .cons r1 (ih r2)
  have snoc : ∀ {l : List (List Key × D)} {kvs : List (List Key × V)}, RepT c.K c.G P l kvs → RepT c.K c.G P (l ++ [(k, d)]) (kvs ++ [(k, v)]) := fun {l} => by
    induction l with
    | nil => intro kvs r; cases r; exact .cons rd .nil
    | cons p l ih =>
      intro kvs r
      cases r with
      | cons r1 r2 => exact .cons r1 (ih r2)
  intro l kvs r
  unfold putD putK
  rw [any r]
  by_cases e : (kvs.any fun p => decide (p.1 = k)) = true
  · rw [if_pos e, if_pos e]; exact rpl r
  · rw [if_neg e, if_neg e]; exact snoc r
theorem rep_putTs : ∀ {ps : List (List Key × D)} {kvs : List (List Key × V)} {acc : List (List Key × D)} {av : List (List Key × V)}, RepT c.K c.G P ps kvs → RepT c.K c.G P acc av → RepT c.K c.G P (putDs acc ps) (putAll av kvs)
  | [], _, _, _, r, q => by cases r; exact q
  | p :: ps, _, acc, av, r, q => by
    cases r with
    | @cons k d v _ xs r1 r2 =>
      have t := rep_putTs r2 (rep_putT (k := k) r1 q)
      exact t
theorem pairsT_rep : ∀ {l m : List D} {ps : List (List Key × D)} {xs ys : List V}, pairsT l m = some ps → Reps c.K c.G P l xs → Reps c.K c.G P m ys → Le P H → ∃ kvs, KTs H kvs xs ys ∧ RepT c.K c.G P ps kvs
  | [], m, ps, xs, ys, e, r1, r2, le => by
    cases r1
    cases e
    exact ⟨[], .nilL, .nil⟩
  | a :: l, [], ps, xs, ys, e, r1, r2, le => by
    cases r2
    cases e
    exact ⟨[], .nilR, .nil⟩
  | a :: l, b :: m, ps, xs, ys, e, r1, r2, le => by
    cases r1 with
    | cons ra r1 =>
      cases r2 with
      | cons rb r2 =>
        obtain ⟨k, e1, e2⟩ := Option.bind_eq_some_iff.mp (show (tkey a).bind _ = some ps from e)
        obtain ⟨r, e3, e4⟩ := Option.map_eq_some_iff.mp e2
        obtain ⟨kvs, h1, h2⟩ := pairsT_rep e3 r1 r2 le
        obtain ⟨q, rfl, h3⟩ := tkey_rep e1 ra le
        subst e4
        exact ⟨(k, _) :: kvs, .cons (le.tup h3) h1, .cons rb h2⟩
theorem qx_dT {S : Sto} {Q : VK} {l : List (List Key × D)} {kvs : List (List Key × V)} (h : QX c P H Q ⟨true, .dT l⟩ S) (le : Le P H) (so : StoOk c.K c.G c.ρ P H S) (r : RepT c.K c.G P l kvs) : ∀ p, H p = none → Q (.ref p) (upd H p (.dT kvs)) := fun p n =>
  h (.ref p) P _ (Step.alloc le n) (so.alloc le n) (by unfold RepR; rw [if_pos rfl]; exact ⟨p, rfl, n, le.none n, .dT upd_same r⟩)
theorem zip_vals {a b : D} {v : List V} {l1 l2 : List D} (hK : X.K = c.K) (le : Le P H) (r : Reps c.K c.G P [a, b] v) (e1 : seqD a = some l1) (e2 : seqD b = some l2) : ∃ k1 k2 p q xs ys, v = [.ref p, .ref q] ∧ SqA X.K H k1 p xs ∧ SqA X.K H k2 q ys ∧ Reps c.K c.G P l1 xs ∧ Reps c.K c.G P l2 ys := by
  cases r with
  | cons r1 r =>
    cases r with
    | cons r2 r =>
      cases r
      obtain ⟨k1, p, xs, rfl, s1, q1⟩ := seqD_rep2 e1 r1
      obtain ⟨k2, q, ys, rfl, s2, q2⟩ := seqD_rep2 e2 r2
      exact ⟨k1, k2, p, q, xs, ys, rfl, by rw [hK]; exact s1 H le, by rw [hK]; exact s2 H le, q1, q2⟩
theorem zipDict_inv {ds : List D} {r : R} (e : zipDict ds = some r) : ∃ a b l1 l2 ps, ds = [a, b] ∧ seqD a = some l1 ∧ seqD b = some l2 ∧ pairsT l1 l2 = some ps ∧ r = ⟨true, .dT (putDs [] ps)⟩ := by
  unfold zipDict at e
  match ds, e with
  | [a, b], e =>
    cases e1 : seqD a with
    | none => simp only [e1] at e; cases e
    | some l1 =>
      cases e2 : seqD b with
      | none => simp only [e1, e2] at e; cases e
      | some l2 =>
        simp only [e1, e2] at e
        obtain ⟨ps, h1, h2⟩ := Option.map_eq_some_iff.mp e
        exact ⟨a, b, l1, l2, ps, rfl, e1, e2, h1, h2.symm⟩
theorem paired_getR {α β : Type} {F : α → β → Prop} : ∀ {l : List α} {m : List β} {i : Nat} {y : β}, Paired F l m → m[i]? = some y → ∃ x, l[i]? = some x ∧ F x y
  | _, _, _, _, .nil, e => by simp at e
  | _, _, 0, _, .cons h t, e => by simp at e; subst e; exact ⟨_, rfl, h⟩
  | _, _, i + 1, _, .cons h t, e => paired_getR (i := i) t (by simpa using e)
/-- dict(zip(x, y)), the keys tuples -/
theorem pd_dzip {e e2 : Expr} {l : Lx} {p p2 q pos : Pos} (hK : X.K = c.K) (hc : X.calm = true) (hu : X.A.units + 65 < cLine) (hgd : Gl X "dict") (hmd : X.mg "dict" = none) (hg : Gl X "zip") (hm : X.mg "zip" = none) (ha : PA X [e, e2] (TLx c l))
    (hs : starEach [e, e2] X.env = (false, eval e X.env) :: starEach [e2] X.env) (hpl : (backTo q (starEach [e2] X.env)).any (·.1) = false) : PE X (.Call (.Name "dict" p) [.Call (.Name "zip" p2) [e, e2] [] q] [] pos) (TEx c (biX zipDict l)) := by
  refine pe_imp (t := fun σ H Q => TLx c l σ H fun vs H1 => ∃ k1 k2 a b xs ys, vs = [.ref a, .ref b] ∧ SqA X.K H1 k1 a xs ∧ SqA X.K H1 k2 b ys ∧ ∃ kvs, KTs H1 kvs xs ys ∧ ∀ p, H1 p = none → Q (.ref p) (upd H1 p (.dT (putAll [] kvs)))) ⟨fun pins s σ H Q I h => ?_⟩
    fun σ H Q ⟨P, env, S, s, h⟩ => tlx_bind s h fun ds S1 vs P1 H1 st1 s1 rp h1 => ?_
  · refine Call_ (ld_blt I hgd hmd PyProof.Rows.boot_dict (PyProof.Rows.callWith_type1 (args_cons (zip_eval (Q := fun a b xs ys H1 => ∃ kvs, KTs H1 kvs xs ys ∧ ∀ p, H1 p = none → Q (.ref p) (upd H1 p (.dT (putAll [] kvs)))) hg hm ha hs hpl I h
      fun s1 H1 k1 k2 a b xs ys us ws n Z ⟨kvs, kt, qx⟩ => args_nil ?_) rfl) rfl))
    obtain ⟨ps, h1, h2, h3⟩ := kt.made Z.vx Z.vy
    have hlen : kvs.length = min us.toArray.size ws.toArray.size := by rw [kt.len, Z.vx.length, Z.vy.length, List.size_toArray, List.size_toArray]
    have hsz : kvs.length ≤ sizeLine := by
      have := Z.lx
      rw [kt.len]; omega
    have fpN : ∀ b ∈ [n + 4, n + 3, n, n + 1], FpOk X pins H1 b := fun b hb => by
      simp only [List.mem_cons, List.not_mem_nil, or_false] at hb
      rcases hb with q | q | q | q <;> subst q <;> exact Z.fp _ (by omega) (by omega)
    refine call_dict_pairsH (knd := tupleKind (mixKind X.prog X.w)) (ps := ps) (pairArg_zipK (prog := X.prog) (w := X.w) k1 k2 (a := a) (b := b) (Nat.ne_of_lt Z.la) (Nat.ne_of_lt (Nat.lt_succ_of_lt Z.lb)) (sepK Z.la Z.lb) us.toArray ws.toArray)
      (Z.inv.ok.hd hc) (tupleKind_room_in1 (A := X.A.in1) (by have e : X.A.in1.units = X.A.units + 1 := rfl; omega)) ⟨Z.z, Z.TI, Z.i1, Z.i2⟩ ⟨by rw [h2, hlen], fun i key v ⟨e1, e2⟩ => h3 i key v (by simpa using e1) (by simpa using e2)⟩ (fun h' hk x hx => ?_) (by rw [← hlen]; exact hsz) fun h' tk dd hk => ?_
    · obtain ⟨kv, h4⟩ : ∃ kv : List Key × V, kv.1 = x.1 ∧ H1 x.2.1 = some (.tup (kv.1.map kV)) := by
        obtain ⟨i, hi, e⟩ := List.getElem_of_mem hx
        obtain ⟨kv, _, r⟩ := paired_getR (i := i) (y := x) h1 (by rw [← e]; exact List.getElem?_eq_getElem hi)
        exact ⟨kv, r.1, r.2.1⟩
      obtain ⟨o, its, m, q1, q2, q3, q4⟩ := kt_keys Z.inv.hok h1 x hx
      refine ⟨o, its, m, hk _ _ (Nat.ne_of_lt (Heap.lt_size q1)) (fun hb => ?_) q1, q2, q3, q4⟩
      have := (fpN _ hb).1
      rw [h4.2] at this; cases this
    · exact ⟨.ref _, _, inv_dT Z.inv (Nat.le_refl _) hk fpN hsz h1 dd, rfl, qx _ (Z.inv.hok.fresh (Nat.le_refl _))⟩
  · cases q : zipDict ds with
    | none => simp only [q] at h1; exact h1.elim
    | some r3 =>
      simp only [q] at h1
      obtain ⟨da, db, l1, l2, ps, rfl, e1, e2, e3, rfl⟩ := zipDict_inv q
      obtain ⟨k1, k2, p, q, xs, ys, h2, h3, h4, h5, h6⟩ := zip_vals hK s1.le rp e1 e2
      obtain ⟨kvs, h7, h8⟩ := pairsT_rep e3 h5 h6 s1.le
      exact ⟨k1, k2, p, q, xs, ys, h2, h3, h4, kvs, h7, qx_dT (QX.step st1 h1) s1.le s1.so (rep_putTs h8 .nil)⟩
end
end Pv

set_option Elab.async false
set_option linter.all false
set_option maxRecDepth 100000
namespace Pv
open PySem PySem.Spec PyProof.Rows L2

/-! ### list(zip(x, y)) -/
theorem zip_no_len : typeLookup (.type "zip") "__len__" = pure none := am_miss_of_fast (by decide +kernel)
theorem zip_no_hint : typeLookup (.type "zip") "__length_hint__" = pure none := am_miss_of_fast (by decide +kernel)
section
variable {X : Cx} {pins : List (Addr × Obj)} {σ : L2.St}
theorem zl_loop {A : Around} {k1 k2 : Bool} {z TI TO i1 i2 a b S : Addr} {us ws : List Value} {xs ys : List V} {R : Result → Shared → Prop} (J : Nat → List V → Hp → Prop) (hh : A.handled = none) (na : a ≠ i1) (nb : b ≠ i2) (sep : ZipSep2 z TI TO i1 i2 [i1, a] [i2, b]) (ap : ∀ c ∈ [z, TI, TO, i1, i2, a, b], c ≠ S) (vx : Vals xs us) (vy : Vals ys ws) (lx : xs.length ≤ sizeLine) {n0 : Nat} (hn0 : ∀ d ∈ [z, TO, i1, i2], d < n0)
    (step : ∀ i acc H T x y, J i acc H → H S = some (.lst acc) → H T = none → xs[i]? = some x → ys[i]? = some y → J (i + 1) (acc ++ [.ref T]) (upd (upd H T (.tup [x, y])) S (.lst (acc ++ [.ref T]))))
    (fin : ∀ s H acc, Inv X pins σ H s → J (min xs.length ys.length) acc H → H S = some (.lst acc) → R (.ok (.ret .none)) s) :
    ∀ (m i : Nat) (s : Shared) (H : Hp) (acc : List V), n0 ≤ s.heap.objs.size → min xs.length ys.length - i = m → i ≤ min xs.length ys.length → Inv X pins σ H s → (∀ d ∈ [z, TO, i1, i2], FpOk X pins H d) → ZS k1 k2 z TI TO i1 i2 a b S us.toArray ws.toArray i s.heap → H S = some (.lst acc) → acc.length = i → J i acc H →
      codeAny (model X.prog X.w) A (.builtin "list.extend.loop" ⟨[.ref S, .ref z, .none], []⟩) R s := by
  have s1 : us.toArray.size = xs.length := by rw [List.size_toArray]; exact vx.length.symm
  have s2 : ws.toArray.size = ys.length := by rw [List.size_toArray]; exact vy.length.symm
  have hh1 : A.in1.handled = none := hh
  intro m
  induction m with
  | zero =>
    intro i s H acc hN hm hi I hf st hS hl hJ
    have ei : i = min us.toArray.size ws.toArray.size := by rw [s1, s2]; omega
    refine codeAny_builtin F.entry_extend_loop ?_
    rw [Around.under_plainId F.plain_extend_loop _]
    show wpAny _ A.in1 (pyNext (.ref z) >>= _) _ _ s
    refine wpAny_bind (zs_end (A := A.in1) hh1 na nb sep st ei fun h' tk kp => wpAny_pure (fin _ H acc (I.turnedL (t' := tk) kp hf) ?_ hS))
    rw [← s1, ← s2, ← ei]; exact hJ
  | succ m ih =>
    intro i s H acc hN hm hi I hf st hS hl hJ
    refine codeAny_builtin F.entry_extend_loop ?_
    rw [Around.under_plainId F.plain_extend_loop _]
    show wpAny _ A.in1 (pyNext (.ref z) >>= _) _ _ s
    have lS : S < s.heap.objs.size := (I.hok S _ hS).lt
    refine wpAny_bind (zs_item (A := A.in1) hh1 na nb sep st (by rw [s1]; omega) (by rw [s2]; omega) lS fun u v h' tk eu ev st' nT hsz kp => ?_)
    obtain ⟨x, ex, ru⟩ := paired_getR vx (show us[i]? = some u by simpa using eu)
    obtain ⟨y, ey, rv⟩ := paired_getR vy (show ws[i]? = some v by simpa using ev)
    have nT0 : H s.heap.objs.size = none := I.hok.fresh (Nat.le_refl _)
    have ok2 : ObjOk X.prog X.w (upd H s.heap.objs.size (.tup [x, y])) h' s.heap.objs.size (.tup [x, y]) := ⟨by show 2 ≤ sizeLine; decide, [u, v], .cons ru (.cons rv .nil), ⟨_, nT, rfl, _, rfl⟩⟩
    have I1 : Inv X pins σ (upd H s.heap.objs.size (.tup [x, y])) { s with heap := h', toks := tk } := I.turnedNew (t' := tk) kp hf (Nat.le_refl _) ok2
    have hS1 : upd H s.heap.objs.size (.tup [x, y]) S = some (.lst acc) := by rw [upd_ne (Nat.ne_of_lt lS)]; exact hS
    obtain ⟨hz, its, n, ri, hob⟩ := I1.hok S _ hS1
    have lits : its.length = i := by rw [← ri.length]; exact hl
    show wpAny _ A.in1 (updateSeq S (·.push (.ref s.heap.objs.size)) >>= _) _ _ _
    refine wpAny_bind (wpAny_updateSeq (s := { s with heap := h', toks := tk }) hob rfl (wpAny_pure ⟨plainId_quiet F.plain_extend_loop _, ih (i + 1) _ _ (acc ++ [.ref s.heap.objs.size]) ?_ (by omega) (by omega)
      (I1.write (x := S) (e := S) (o := .lst (acc ++ [.ref s.heap.objs.size])) (t' := tk) (by rw [hS1]; trivial) (.inl rfl) (fun d u hd q => (Heap.get?_update_other _ _ (Ne.symm hd)).trans q) ⟨_, Heap.get?_update_self _ hob rfl⟩ ⟨?_, its ++ [.ref s.heap.objs.size], n + 1, ri.append (.cons (show RelV (.ref s.heap.objs.size) (.ref s.heap.objs.size) from rfl) .nil), ?_⟩)
      (fun d hd => ?_) (st'.keep sep ap fun d o hd q => (Heap.get?_update_other _ _ (Ne.symm hd)).trans q) upd_same ?_ (step i acc H _ x y hJ hS nT0 ex ey)⟩) ?_ ?_)
    · have e : ((h'.update S (Obj.mapSeq (·.push (.ref s.heap.objs.size)))).objs.size : Nat) = h'.objs.size := (Heap.SameBut.update h' S (Obj.mapSeq (·.push (.ref s.heap.objs.size)))).1
      show n0 ≤ (h'.update S (Obj.mapSeq (·.push (.ref s.heap.objs.size)))).objs.size
      rw [e, hsz]; omega
    · rw [List.length_append, hl]; show i + 1 ≤ _; omega
    · rw [Heap.get?_update_self _ hob rfl]; simp [Obj.mapSeq]
    · have hd1 := hf d hd
      have ne1 : d ≠ S := ap d (by simp only [List.mem_cons, List.not_mem_nil, or_false] at hd ⊢; rcases hd with q | q | q | q <;> simp [q])
      have ne2 : d ≠ s.heap.objs.size := Nat.ne_of_lt (Nat.lt_of_lt_of_le (hn0 d hd) hN)
      exact ⟨by rw [upd_ne ne1, upd_ne ne2]; exact hd1.1, hd1.2⟩
    · rw [List.length_append, hl]; rfl
    · rw [List.size_toArray, lits]; omega
    · rw [Array.size_push, List.size_toArray, lits]; omega
/-- list(z), z a new zip -/
theorem call_list_zip {A : Around} {E : Value → Shared → Prop} {Q : Value → Shared → Prop} {H : Hp} {s : Shared} {k1 k2 : Bool} {a b : Addr} {xs ys : List V} {us ws : List Value} {n : Nat} (Z : ZipAt X pins σ H s k1 k2 a b xs ys us ws n) (J : Nat → List V → Hp → Prop) (hh : A.handled = none)
    (step : ∀ i acc H T x y, J i acc H → H s.heap.objs.size = some (.lst acc) → H T = none → xs[i]? = some x → ys[i]? = some y → J (i + 1) (acc ++ [.ref T]) (upd (upd H T (.tup [x, y])) s.heap.objs.size (.lst (acc ++ [.ref T]))))
    (fin : ∀ s' H acc, Inv X pins σ H s' → J (min xs.length ys.length) acc H → H s.heap.objs.size = some (.lst acc) → Q (.ref s.heap.objs.size) s') (J0 : J 0 [] (upd H s.heap.objs.size (.lst []))) : wpAny (model X.prog X.w) A (call (.type "list") [.ref (n + 4)]) Q E s := by
  have bg := Z.big
  have la : @LT.lt Nat _ a n := Z.la
  have lb : @LT.lt Nat _ b n := Z.lb
  have nS : H s.heap.objs.size = none := Z.inv.hok.fresh (Nat.le_refl _)
  refine callType_codes (Q₁ := fun obj s₁ => obj = .ref s.heap.objs.size ∧ s₁ = { s with heap := s.heap.push { cls := .type "list", data := .seq #[] } }) F.called_list (F.typeCall_list_1 _) F.entry_list_init (code_list_new _ ⟨rfl, rfl⟩) fun obj s₁ h₁ => ?_
  obtain ⟨rfl, rfl⟩ := h₁
  have hS : (s.heap.push { cls := .type "list", data := .seq #[] }).get? s.heap.objs.size = some { cls := .type "list", data := .seq #[] } := Heap.get?_push_size _ rfl
  refine ⟨⟨_, hS, rfl⟩, F.args_list_init_2 _ _, ?_⟩
  show wpAny _ _ (do let old ← Builtin.List.listItems (.ref s.heap.objs.size); Builtin.List.listUpdate (.ref s.heap.objs.size) (fun _ => #[]); letGo old.toList.reverse; Builtin.List.listExtendWith (.ref s.heap.objs.size) (.ref (n + 4)) .none) _ _ _
  refine wpAny_bind ?_
  unfold Builtin.List.listItems
  refine wpAny_bind (wpAny_seqItems hS rfl (wpAny_pure ?_))
  show wpAny _ _ (updateSeq s.heap.objs.size (fun _ => #[]) >>= fun _ => letGo (#[] : Array Value).toList.reverse >>= fun _ => Builtin.List.listExtendWith (.ref s.heap.objs.size) (.ref (n + 4)) .none) _ _ _
  refine wpAny_bind (wpAny_updateSeq hS rfl ?_)
  have hS2 := Heap.get?_update_self (Obj.mapSeq (fun _ => (#[] : Array Value))) hS rfl
  generalize hg : (s.heap.push { cls := .type "list", data := .seq #[] }).update s.heap.objs.size (Obj.mapSeq (fun _ => (#[] : Array Value))) = g1 at hS2 ⊢
  have k1' : ∀ d o, s.heap.get? d = some o → g1.get? d = some o := fun d o e => by
    rw [← hg]; exact (Heap.get?_update_other _ _ (Nat.ne_of_gt (Heap.lt_size e))).trans (Heap.get?_push_of_some _ e)
  refine wpAny_bind (wpAny_letGo ?_)
  have hz1 := k1' _ _ Z.z.1
  have ty : Shared.TypeIs { s with heap := g1 } (.ref (n + 4)) "zip" := ⟨_, hz1, rfl⟩
  unfold Builtin.List.listExtendWith
  refine wpAny_bind (wpAny_typeOf ty ?_)
  have h1 : Builtin.List.listSameRef (.ref s.heap.objs.size) (.ref (n + 4)) = false := by
    have : s.heap.objs.size ≠ n + 4 := by omega
    simp [Builtin.List.listSameRef, this]
  have h2 : (Value.type "zip" == Value.type "list") = false := by decide
  have h3 : (Value.type "zip" == Value.type "tuple") = false := by decide
  simp only [h1, h2, h3, Bool.or_false, Bool.false_eq_true, if_false]
  refine wpAny_bind (wpAny_pyIter_zip hz1 (wpAny_bind (wpAny_holding ?_)))
  unfold Builtin.List.listLengthHint
  refine wpAny_bind (wpAny_specialOf ty zip_no_len ?_)
  show wpAny _ _ (specialOf (Value.ref (n + 4)) (Str.ofString "__length_hint__") >>= _) _ _ _
  refine wpAny_bind (wpAny_specialOf ty zip_no_hint (wpAny_pure ?_))
  show wpAny _ _ (rule "list.extend.makes-room" >>= fun _ => Builtin.List.listTouch (.ref s.heap.objs.size) >>= fun _ => again (.builtin "list.extend.loop" ⟨[.ref s.heap.objs.size, .ref (n + 4), .none], []⟩)) _ _ _
  refine wpAny_bind (wpAny_rule (wpAny_bind ?_))
  show wpAny _ _ (updateSeq s.heap.objs.size (·.push .none) >>= fun _ => updateSeq s.heap.objs.size (·.pop)) _ _ _
  refine wpAny_bind (wpAny_updateSeq (s := { s with heap := g1 }) hS2 rfl ?_)
  have hS3 := Heap.get?_update_self (Obj.mapSeq (·.push Value.none)) hS2 rfl
  refine wpAny_updateSeq (hz := by seq_fits) hS3 rfl ?_
  have hS4 := Heap.get?_update_self (Obj.mapSeq (·.pop)) hS3 rfl
  have k3 : ∀ d o, d ≠ s.heap.objs.size → g1.get? d = some o → ((g1.update s.heap.objs.size (Obj.mapSeq (·.push Value.none))).update s.heap.objs.size (Obj.mapSeq (·.pop))).get? d = some o :=
    fun d o hd e => (Heap.get?_update_other _ _ (Ne.symm hd)).trans ((Heap.get?_update_other _ _ (Ne.symm hd)).trans e)
  have z3 : (((g1.update s.heap.objs.size (Obj.mapSeq (·.push Value.none))).update s.heap.objs.size (Obj.mapSeq (·.pop))).objs.size : Nat) = s.heap.objs.size + 1 := by
    rw [(Heap.SameBut.update _ _ _).1, (Heap.SameBut.update _ _ _).1, ← hg, (Heap.SameBut.update _ _ _).1, Heap.size_push]
  generalize hg2 : (g1.update s.heap.objs.size (Obj.mapSeq (·.push Value.none))).update s.heap.objs.size (Obj.mapSeq (·.pop)) = g2 at hS4 k3 z3 ⊢
  have k4 : ∀ d o, s.heap.get? d = some o → g2.get? d = some o := fun d o e => k3 d o (Nat.ne_of_lt (Heap.lt_size e)) (k1' d o e)
  have I2 : Inv X pins σ (upd H s.heap.objs.size (.lst [])) { s with heap := g2 } := Z.inv.laid (t' := s.toks) k4 (Nat.le_refl _) ⟨Nat.zero_le _, [], _, .nil, hS4⟩
  have mem : ∀ d : Nat, d ∈ [n + 4, n + 3, n, n + 1] → n ≤ d ∧ d ≤ n + 4 := fun d hd => by
    simp only [List.mem_cons, List.not_mem_nil, or_false] at hd
    rcases hd with q | q | q | q <;> subst q <;> omega
  refine wpAny_pure ⟨plainId_quiet F.plain_extend_loop _, zl_loop (X := X) (pins := pins) (σ := σ) (k1 := k1) (k2 := k2) (z := n + 4) (TI := n + 2) (TO := n + 3) (i1 := n) (i2 := n + 1) (a := a) (b := b) (S := s.heap.objs.size) (us := us) (ws := ws) (xs := xs) (ys := ys) J (A := A.in1) hh (Nat.ne_of_lt la) (Nat.ne_of_lt (Nat.lt_succ_of_lt lb)) (sepK la lb) (fun c hc => ?_) Z.vx Z.vy Z.lx (n0 := s.heap.objs.size) (fun d hd => ?_) step
    (fun s' H' acc I' j e => ⟨rfl, fin s' H' acc I' j e⟩) (min xs.length ys.length) 0 { s with heap := g2 } _ [] ?_ (by omega) (by omega) I2 (fun d hd => ?_) ?_ upd_same rfl J0⟩
  · simp only [List.mem_cons, List.not_mem_nil, or_false] at hc
    rcases hc with q | q | q | q | q | q | q <;> subst q <;> (refine @Nat.ne_of_lt _ _ ?_; omega)
  · have h5 := mem d hd
    show @LT.lt Nat _ d s.heap.objs.size
    omega
  · show s.heap.objs.size ≤ g2.objs.size
    rw [z3]; omega
  · have h4 := mem d hd
    have f := Z.fp d h4.1 h4.2
    have ne : d ≠ s.heap.objs.size := by
      have h6 : @LT.lt Nat _ d s.heap.objs.size := by omega
      exact Nat.ne_of_lt h6
    exact ⟨by rw [upd_ne ne]; exact f.1, f.2⟩
  · obtain ⟨zz, x, y, zo⟩ := Z.z
    exact ⟨k4 _ _ Z.TI, ⟨itK_keep Z.i1.1 fun o e => k4 _ o e, sqK_keep Z.i1.2 fun o e => k4 _ o e⟩, ⟨itK_keep Z.i2.1 fun o e => k4 _ o e, sqK_keep Z.i2.2 fun o e => k4 _ o e⟩, .inl ⟨k4 _ _ zz, x, y, k4 _ _ zo⟩⟩
end

def lzip (ds : List D) : Option R := match ds with
  | [a, b] => (match seqD a, seqD b with
    | some l1, some l2 => some ⟨true, .lst (zipD l1 l2)⟩
    | _, _ => none)
  | _ => none
section
variable {X : Cx} {c : Cc} {P H P1 H1 : Hp}
theorem lzip_inv {ds : List D} {r : R} (e : lzip ds = some r) : ∃ a b l1 l2, ds = [a, b] ∧ seqD a = some l1 ∧ seqD b = some l2 ∧ r = ⟨true, .lst (zipD l1 l2)⟩ := by
  unfold lzip at e
  match ds, e with
  | [a, b], e =>
    cases e1 : seqD a with
    | none => simp only [e1] at e; cases e
    | some l1 =>
      cases e2 : seqD b with
      | none => simp only [e1, e2] at e; cases e
      | some l2 => simp only [e1, e2] at e; cases e; exact ⟨a, b, l1, l2, rfl, e1, e2, rfl⟩
/-- a list of one's own grows by a pair laid for good -/
theorem grow_pair {S : Addr} {T : Addr} {St : Sto} {acc : List V} {x y : V} {P' H' : Hp} (s0 : H1 S = none) (nr : ∀ a, H1 a = none → a ∉ c.ρ) (st : Step c.ρ P1 H1 P' H') (so : StoOk c.K c.G c.ρ P' H' St) (p : P' S = none) (e : H' S = some (.lst acc)) (nT : H' T = none) :
    Step c.ρ P1 H1 (upd P' T (.tup [x, y])) (upd (upd H' T (.tup [x, y])) S (.lst (acc ++ [.ref T]))) ∧ StoOk c.K c.G c.ρ (upd P' T (.tup [x, y])) (upd (upd H' T (.tup [x, y])) S (.lst (acc ++ [.ref T]))) St ∧ upd P' T (.tup [x, y]) S = none := by
  have ne : S ≠ T := fun q => by subst q; rw [nT] at e; cases e
  have p2 : upd P' T (.tup [x, y]) S = none := by rw [upd_ne ne]; exact p
  exact ⟨(st.trans (Step.lay st.le nT (so.new nT))).wr s0 p2 (by rw [upd_ne ne, e]; exact fun z => nomatch z), (so.lay st.le nT).wr (nr S s0), p2⟩
/-- list(zip(x, y)) -/
theorem pd_lzip {e e2 : Expr} {l : Lx} {p p2 q pos : Pos} (hK : X.K = c.K) (hc : X.calm = true) (hgd : Gl X "list") (hmd : X.mg "list" = none) (hg : Gl X "zip") (hm : X.mg "zip" = none) (ha : PA X [e, e2] (TLx c l))
    (hs : starEach [e, e2] X.env = (false, eval e X.env) :: starEach [e2] X.env) (hpl : (backTo q (starEach [e2] X.env)).any (·.1) = false) : PE X (.Call (.Name "list" p) [.Call (.Name "zip" p2) [e, e2] [] q] [] pos) (TEx c (biX lzip l)) := by
  refine pe_imp (t := fun σ H Q => TLx c l σ H fun vs H1 => ∃ k1 k2 a b xs ys, vs = [.ref a, .ref b] ∧ SqA X.K H1 k1 a xs ∧ SqA X.K H1 k2 b ys ∧ ∃ J : Addr → Nat → List V → Hp → Prop, ∀ S, H1 S = none → J S 0 [] (upd H1 S (.lst [])) ∧
      (∀ i acc H T x y, J S i acc H → H S = some (.lst acc) → H T = none → xs[i]? = some x → ys[i]? = some y → J S (i + 1) (acc ++ [.ref T]) (upd (upd H T (.tup [x, y])) S (.lst (acc ++ [.ref T])))) ∧ ∀ acc H', J S (min xs.length ys.length) acc H' → H' S = some (.lst acc) → Q (.ref S) H') ⟨fun pins s σ H Q I h => ?_⟩
    fun σ H Q ⟨P, env, S, s, h⟩ => tlx_bind s h fun ds S1 vs P1 H1 st1 s1 rp h1 => ?_
  · refine Call_ (ld_blt I hgd hmd PyProof.Rows.boot_list (PyProof.Rows.callWith_type1 (args_cons (zip_eval (Q := fun a b xs ys H1 => ∃ J : Addr → Nat → List V → Hp → Prop, ∀ S, H1 S = none → J S 0 [] (upd H1 S (.lst [])) ∧
      (∀ i acc H T x y, J S i acc H → H S = some (.lst acc) → H T = none → xs[i]? = some x → ys[i]? = some y → J S (i + 1) (acc ++ [.ref T]) (upd (upd H T (.tup [x, y])) S (.lst (acc ++ [.ref T])))) ∧ ∀ acc H', J S (min xs.length ys.length) acc H' → H' S = some (.lst acc) → Q (.ref S) H') hg hm ha hs hpl I h
      fun s1 H1 k1 k2 a b xs ys us ws n Z ⟨J, q⟩ => args_nil ?_) rfl) rfl))
    obtain ⟨j0, stp, fin⟩ := q _ (Z.inv.hok.fresh (Nat.le_refl _))
    exact call_list_zip Z (J _) (Z.inv.ok.hd hc) stp (fun s' H' acc I' j e => ⟨.ref _, H', I', rfl, fin acc H' j e⟩) j0
  · cases q : lzip ds with
    | none => simp only [q] at h1; exact h1.elim
    | some r3 =>
      simp only [q] at h1
      obtain ⟨da, db, l1, l2, rfl, e1, e2, rfl⟩ := lzip_inv q
      obtain ⟨k1, k2, p, q, xs, ys, h2, h3, h4, h5, h6⟩ := zip_vals hK s1.le rp e1 e2
      refine ⟨k1, k2, p, q, xs, ys, h2, h3, h4, fun S i acc H' => ∃ P', Step c.ρ P1 H1 P' H' ∧ StoOk c.K c.G c.ρ P' H' S1 ∧ P' S = none ∧ Reps c.K c.G P' ((zipD l1 l2).take i) acc, fun S nS => ⟨⟨P1, Step.alloc s1.le nS, s1.so.alloc s1.le nS, s1.le.none nS, .nil⟩, ?_, ?_⟩⟩
      · rintro i acc H' T x y ⟨P', st, so, pS, rr⟩ eS nT ex ey
        obtain ⟨st2, so2, pS2⟩ := grow_pair (x := x) (y := y) nS s1.new0 st so pS eS nT
        refine ⟨_, st2, so2, pS2, ?_⟩
        obtain ⟨d1, f1, g1⟩ := h5.getV ex
        obtain ⟨d2, f2, g2⟩ := h6.getV ey
        rw [List.take_add_one, zipD_get f1 f2]
        have up : Same P1 (upd P' T (.tup [x, y])) := fun b u eb => by rw [upd_ne (ne_of_none (st.pp _ _ eb) (st.le.none nT))]; exact st.pp _ _ eb
        exact (rr.mono fun b u eb => by rw [upd_ne (ne_of_none eb (st.le.none nT))]; exact eb).append (.cons (.tup upd_same (.cons (g1.mono up) (.cons (g2.mono up) .nil))) .nil)
      · rintro acc H' ⟨P', st, so, pS, rr⟩ eS
        refine h1 (.ref S) P' H' (st1.trans st) so ?_
        unfold RepR
        rw [if_pos rfl]
        rw [List.take_of_length_le (by rw [zipD_length, h5.length, h6.length]; exact Nat.le_refl _)] at rr
        exact ⟨S, rfl, st1.dom S nS, pS, .lst eS rr⟩
end
end Pv

set_option Elab.async false
set_option linter.all false
set_option maxRecDepth 100000
namespace Pv
open PySem PySem.Spec PyProof.Rows L2

/-! ### dict(list of pairs) -/
inductive KLs (H : Hp) : List (List Key × V) → List V → Prop
  | nil : KLs H [] []
  | cons {k : List Key} {b T : Addr} {y : V} {kvs : List (List Key × V)} {xs : List V} : H T = some (.tup [.ref b, y]) → H b = some (.tup (k.map kV)) → KLs H kvs xs → KLs H ((k, y) :: kvs) (.ref T :: xs)
theorem KLs.len {H : Hp} : ∀ {kvs : List (List Key × V)} {xs : List V}, KLs H kvs xs → kvs.length = xs.length
  | _, _, .nil => rfl
  | _, _, .cons _ _ t => congrArg (· + 1) t.len
theorem KLs.made {P : Program} {w : World} {H : Hp} {h : Heap} (ok : HOk P w H h) : ∀ {kvs : List (List Key × V)} {xs : List V} {us : List Value}, KLs H kvs xs → Vals xs us → ∃ (ps : List (List Key × Addr × Value)) (Ts : List Addr), KT H kvs ps ∧ us = Ts.map Value.ref ∧ Ts.length = ps.length ∧ ∀ (j : Nat) (T : Addr) (p : List Key × Addr × Value), Ts[j]? = some T → ps[j]? = some p → PairAt h T (.ref p.2.1) p.2.2
  | _, _, us, .nil, r => by cases r; exact ⟨[], [], .nil, rfl, rfl, fun j T p e => by simp at e⟩
  | _, _, _, .cons (k := k) (b := b) (T := T) e1 e2 t, .cons q1 t1 => by
    obtain ⟨ps, Ts, h1, h2, h3, h4⟩ := KLs.made ok t t1
    obtain ⟨_, its, rv, it⟩ := ok T _ e1
    obtain ⟨w1, w2, rfl, r1, r2⟩ := vals2 rv
    cases r1; cases q1
    refine ⟨(k, b, w2) :: ps, T :: Ts, .cons ⟨rfl, e2, r2⟩ h1, by rw [h2]; rfl, congrArg (· + 1) h3, fun j T' p f1 f2 => ?_⟩
    cases j with
    | zero =>
      have z1 : T = T' := Option.some.inj f1
      have z2 : (k, b, w2) = p := Option.some.inj f2
      subst z1 z2
      exact .inl it
    | succ j => exact h4 j T' p f1 f2
def dictL (d : D) : Option R := match d with
  | .lst l => (pairsL l).map fun ps => ⟨true, .dT (putDs [] ps)⟩
  | _ => none
section
variable {X : Cx} {c : Cc} {P H : Hp}
theorem pairsL_rep (le : Le P H) : ∀ {l : List D} {ps : List (List Key × D)} {xs : List V}, pairsL l = some ps → Reps c.K c.G P l xs → ∃ kvs, KLs H kvs xs ∧ RepT c.K c.G P ps kvs
  | [], ps, xs, e, r => by cases r; cases e; exact ⟨[], .nil, .nil⟩
  | d :: l, ps, xs, e, r => by
    cases r with
    | cons r1 r2 =>
      cases r1 with
      | tup hT rr =>
        cases rr with
        | nil => cases e
        | cons ra rr =>
          cases rr with
          | nil => cases e
          | cons rb rr =>
            cases rr with
            | cons _ _ => cases e
            | nil =>
              obtain ⟨k, e1, e2⟩ := Option.bind_eq_some_iff.mp (show (tkey _).bind _ = some ps from e)
              obtain ⟨r, e3, e4⟩ := Option.map_eq_some_iff.mp e2
              obtain ⟨kvs, h1, h2⟩ := pairsL_rep le e3 r2
              obtain ⟨q, rfl, h3⟩ := tkey_rep e1 ra le
              subst e4
              exact ⟨(k, _) :: kvs, .cons (le.tup hT) (le.tup h3) h1, .cons rb h2⟩
      | _ => cases e
theorem cd_dictL (hK : X.K = c.K) (hc : X.calm = true) (hu : X.A.units + 65 < cLine) : CallR X (.type "dict") (rB1 c dictL) := by
  intro pins s σ H vs us Q I rs ⟨P, S, a, r, v, ev, le, so, rd, e, q⟩
  cases a with
  | lst l =>
    obtain ⟨ps0, e1, e2⟩ := Option.map_eq_some_iff.mp (show (pairsL l).map _ = some r from e)
    subst e2 ev
    obtain ⟨A0, xs, rfl, sq, rx⟩ := rd.lstR le
    obtain ⟨u, rfl, ru⟩ := vals1 rs
    cases (show u = Value.ref A0 from ru)
    obtain ⟨its, rv, hl, hz⟩ := I.list (by rw [hK]; exact sq)
    obtain ⟨kvs, k1, k2⟩ := pairsL_rep le e1 rx
    obtain ⟨ps, Ts, h1, h2, h3, h4⟩ := k1.made I.hok rv
    have hpl : ps.length = kvs.length := (Paired.length h1).symm
    have hsz : kvs.length ≤ sizeLine := by rw [k1.len]; exact hz
    refine call_dict_pairsH (knd := tupleKind (mixKind X.prog X.w)) (ps := ps) (PairArg.list A0 its.toArray (fun j => Ts.getD j 0) (ps.map fun p => (Value.ref p.2.1, p.2.2))) (I.ok.hd hc)
      (tupleKind_room_in1 (A := X.A.in1) (by have e : X.A.in1.units = X.A.units + 1 := rfl; omega)) ⟨hl, ?_, ?_⟩ ⟨by rw [List.length_map], fun i key v hi => ?_⟩ (fun h' hk x hx => ?_) (by rw [List.length_map, hpl]; exact hsz) fun h' tk dd hk => ?_
    · rw [List.size_toArray, List.length_map, h2, List.length_map, h3]
    · intro j key v hj
      rw [List.getElem?_map] at hj
      obtain ⟨p, f1, f2⟩ := Option.map_eq_some_iff.mp hj
      cases f2
      have hj' : j < ps.length := (List.getElem?_eq_some_iff.mp f1).1
      have f3 : Ts[j]? = some (Ts.getD j 0) := by
        rw [List.getD_eq_getElem?_getD, List.getElem?_eq_getElem (by omega)]; rfl
      refine ⟨?_, h4 j _ p f3 f1⟩
      rw [List.getElem?_toArray, h2, List.getElem?_map, f3]
      rfl
    · have hi2 : (ps.map fun p => (Value.ref p.2.1, p.2.2))[i]? = some (key, v) := hi
      rw [List.getElem?_map] at hi2
      obtain ⟨p, f1, f2⟩ := Option.map_eq_some_iff.mp hi2
      cases f2
      exact ⟨p.1, p.2.1, f1, rfl⟩
    · obtain ⟨o, its, m, q1, q2, q3, q4⟩ := kt_keys I.hok h1 x hx
      exact ⟨o, its, m, hk _ _ (Nat.ne_of_lt (Heap.lt_size q1)) (fun hb => nomatch hb) q1, q2, q3, q4⟩
    · exact ⟨.ref _, _, inv_dT I (Nat.le_refl _) hk (fun b hb => nomatch hb) hsz h1 dd, rfl, qx_dT q le so (rep_putTs k2 .nil) _ (I.hok.fresh (Nat.le_refl _))⟩
  | _ => cases e
end

/-! ### x | y, of dicts; x of one entry -/
section
variable {prog : Program} {w : World} {A : Around} {E : Value → Shared → Prop} {s : Shared}
theorem call_dict_or {a b : Addr} {x : List Key × Addr × Value} {more : List (List Key × Addr × Value)} {Q : Value → Shared → Prop} (hu : A.units + 1 < cLine) (ha : (a == sysModules) = false) (hb : (b == sysModules) = false) (da : s.heap.DictOfH (tupleKind (mixKind prog w)) a [x]) (db : s.heap.DictOfH (tupleKind (mixKind prog w)) b more)
    (hx : s.TypeIs (.ref x.2.1) "tuple") (hsz : more.length + 1 ≤ sizeLine)
    (h : ∀ h', h'.DictOfH (tupleKind (mixKind prog w)) s.heap.objs.size (storedAllH [x] more) → (∀ c o, s.heap.get? c = some o → h'.get? c = some o) → Q (.ref s.heap.objs.size) { s with heap := h' }) : wpAny (model prog w) A (call (.builtin "dict.__or__") [.ref a, .ref b]) Q E s := by
  refine call_meetsIn F.slot_dict_or da.typeIs F.entry_dict_or (F.args_dict_or_2 _ _) (S := fun A' R s' => A' = A ∧ s' = s ∧ ∀ h', h'.DictOfH (tupleKind (mixKind prog w)) s.heap.objs.size (storedAllH [x] more) → (∀ c o, s.heap.get? c = some o → h'.get? c = some o) → R (.ok (.ret (.ref s.heap.objs.size))) { s with heap := h' })
    (fun A' R s' hS => ?_) ⟨rfl, rfl, h⟩
  obtain ⟨rfl, rfl, hq⟩ := hS
  show wpAny _ _ (Builtin.Dict.dictSlotArgs "__or__" ⟨[.ref a, .ref b], []⟩ >>= _) _ _ _
  refine wpAny_bind ?_
  unfold Builtin.Dict.dictSlotArgs
  refine wpAny_bind (wpAny_notOrdered_dict da.typeIs ?_)
  show wpAny _ _ (pure (Value.ref a, Value.ref b)) _ _ _
  refine wpAny_pure ?_
  show wpAny _ _ ((isInstance (.ref a) (.type "dict") <&&> isInstance (.ref b) (.type "dict")) >>= _) _ _ _
  refine wpAny_bind (wpAny_bind (wpAny_isInstance (T := "dict") da.typeIs PySem.F.sub_dict_dict ?_))
  refine wpAny_isInstance (T := "dict") db.typeIs PySem.F.sub_dict_dict ?_
  simp only [Bool.not_true, Bool.false_eq_true, if_false]
  refine wpAny_bind ?_
  obtain ⟨o, es, ep, ho, hc, hdat, he, his, hn⟩ := id da
  have hes : es.size = 1 := size_of_entries he
  have hemp : es.isEmpty = false := by
    cases q : es.isEmpty with
    | false => rfl
    | true => rw [Array.isEmpty_iff.mp q] at hes; cases hes
  unfold Builtin.Dict.copyOf
  refine wpAny_bind (wpAny_pure ?_)
  unfold Builtin.Dict.showsAll
  rw [if_neg (by rw [ha]; exact Bool.false_ne_true)]
  refine wpAny_bind (wpAny_pure (wpAny_bind (wpAny_dictEntries ho hdat ?_)))
  rw [hemp, if_neg Bool.false_ne_true]
  refine wpAny_bind ?_
  unfold Builtin.Dict.readDirectly
  refine wpAny_bind (wpAny_isInstance da.typeIs isSubtype_dict_dict ?_)
  simp only [Bool.not_true, Bool.false_eq_true, if_false]
  refine wpAny_bind (wpAny_specialOf da.typeIs F.slot_dict_iter.lookup (wpAny_pure ?_))
  simp only [beq_self_eq_true, if_true]
  have ap : ∀ e ∈ es.toList, KeyApart s' es e := keysApart (knd := tupleKind (mixKind prog w)) he (fun y hy => by rw [List.mem_singleton.mp hy]; exact hx) (by simp)
  refine wpAny_bind (wpAny_entriesForEmpty_raw ho hdat ap (wpAny_newObj_type ?_ (by show es.size ≤ sizeLine + 1; rw [hes, sizeLine_eq]; decide)))
  have nd : s'.heap.objs.size ≠ b := by
    obtain ⟨ob, _, _, hob, _⟩ := id db
    exact Nat.ne_of_gt (Heap.lt_size hob)
  have kp : ∀ c o, s'.heap.get? c = some o → (s'.heap.push { cls := .type "dict", data := .dict es }).get? c = some o := fun c o e => Heap.get?_push_of_some _ e
  have isK : ∀ {k : List Key} {c : Addr}, (tupleKind (mixKind prog w)).is s'.heap k c → (tupleKind (mixKind prog w)).is (s'.heap.push { cls := .type "dict", data := .dict es }) k c := fun {k c} z => by
    obtain ⟨o, its, m, q1, q2, q3, q4⟩ := z
    exact ⟨o, its, m, kp _ _ q1, q2, q3, q4⟩
  have dn : (s'.heap.push { cls := .type "dict", data := .dict es }).DictOfH (tupleKind (mixKind prog w)) s'.heap.objs.size [x] := ⟨_, es, 0, Heap.get?_push_size _ rfl, ⟨rfl, rfl, rfl⟩, rfl, he, fun y hy => isK (his y hy), hn⟩
  have db2 : (s'.heap.push { cls := .type "dict", data := .dict es }).DictOfH (tupleKind (mixKind prog w)) b more := by
    obtain ⟨ob, esb, epb, z1, z2, z3, z4, z5, z6⟩ := db
    exact ⟨ob, esb, epb, kp _ _ z1, z2, z3, z4, fun y hy => isK (z5 y hy), z6⟩
  refine wpAny_bind (wpAny_pure (wpAny_holding ?_))
  exact updateFrom_dictH (s := { s' with heap := s'.heap.push { cls := .type "dict", data := .dict es } }) (.ref s'.heap.objs.size) (tupleKind_room_in1 hu) nd hb dn db2 (.inl (fun z => nomatch z)) (by show 1 + more.length ≤ sizeLine; omega) fun h' e1 e2 sb => hq h' e1 fun c o e => sb.extBut _ _ (Nat.ne_of_lt (Heap.lt_size e)) (kp _ _ e)
end
def orD (d e : D) : Option R := match d, e with
  | .dT l, .dT m => (match l with
    | [p] => if m.length + 1 ≤ line then some ⟨true, .dT (putDs [p] m)⟩ else none
    | _ => none)
  | _, _ => none
theorem inv_dTk {X : Cx} {pins : List (Addr × Obj)} {σ : L2.St} {H : Hp} {s : Shared} {h' : Heap} {t' : Nat} {d : Addr} {kvs : List (List Key × V)} {xs : List (List Key × Addr × Value)} (I : Inv X pins σ H s) (hd : s.heap.objs.size ≤ d) (k : ∀ b o, s.heap.get? b = some o → h'.get? b = some o) (hl : kvs.length ≤ sizeLine)
    (rel : KT H kvs xs) (dd : h'.DictOfH (tupleKind (mixKind X.prog X.w)) d xs) : Inv X pins σ (upd H d (.dT kvs)) { s with heap := h', toks := t' } := by
  have n : H d = none := I.hok.fresh hd
  refine I.laid k hd ?_
  obtain ⟨o, es, ep, h1, h2, h3, h4, _, h5⟩ := dd
  refine ⟨hl, beq_eq_false_iff_ne.mpr (Nat.ne_of_gt (Nat.lt_of_lt_of_le I.big hd)), xs, rel.keeps fun b ys e => ?_, o, es, ep, h1, h2, h3, h4, h5⟩
  rw [upd_ne (ne_of_none e n)]; exact e
section
variable {X : Cx} {c : Cc} {P H : Hp}
theorem od_or (hK : X.K = c.K) (hu : X.A.units + 65 < cLine) : OpR X (binaryOp .BitOr) (rOp2 c orD) := by
  intro pins s σ H x y v u Q I rx ry ⟨P, S, a, b, r, le, n0, so, ra, rb, e, q⟩
  cases ra with
  | dT ha rka =>
    cases rb with
    | dT hb rkb =>
      cases rka with
      | nil => cases e
      | cons r1 rka =>
        cases rka with
        | cons _ _ => cases e
        | nil =>
          simp only [orD] at e
          split at e
          · rename_i hlen
            cases e
            cases (show v = Value.ref _ from rx)
            cases (show u = Value.ref _ from ry)
            obtain ⟨z1, hd1, xs1, kt1, d1⟩ := dt_rd I.hok (le.rd ha)
            obtain ⟨z2, hd2, xs2, kt2, d2⟩ := dt_rd I.hok (le.rd hb)
            cases kt1 with
            | @cons p1 x1 _ _ hp t1 =>
              cases t1
              have hl2 := rkb.length
              obtain ⟨_, _, _, _, _, _, _, his, _⟩ := id d1
              have htx : s.TypeIs (.ref x1.2.1) "tuple" := by
                obtain ⟨o, _, _, q1, q2, _⟩ := his x1 (List.mem_singleton.mpr rfl)
                exact ⟨o, q1, q2⟩
              refine wpAny_binaryOp_same (T := "dict") d1.typeIs d2.typeIs F.fills_dict_or F.slot_dict_or ?_
              refine call_dict_or (by omega) hd1 hd2 d1 d2 htx ?_ fun h' dd kp => ⟨(fun z => nomatch z), ?_⟩
              · rw [← Paired.length kt2, ← hl2, ← line_eq]; exact hlen
              · refine ⟨.ref _, _, inv_dTk (t' := s.toks) I (Nat.le_refl _) kp ?_ (kt_all kt2 (Paired.cons hp .nil)) dd, rfl, qx_dT q le so (rep_putTs rkb (.cons r1 .nil)) _ (I.hok.fresh (Nat.le_refl _))⟩
                refine Nat.le_trans (putAll_len _ _) ?_
                rw [← hl2, ← line_eq, List.length_singleton]
                omega
          · cases e
    | _ => cases e
  | _ => cases rb <;> cases e
end
end Pv

set_option Elab.async false
set_option linter.all false
set_option maxRecDepth 100000
namespace Pv
open PySem PySem.Spec PyProof.Rows L2

/-! ### sorted(list of alike data) -/
def leS (a b : D) : Bool := !PySem.W.dataLt (D.py b) (D.py a)
def insB (a : D) : List D → List D
  | [] => [a]
  | b :: l => if leS a b = true then a :: b :: l else b :: insB a l
def sortB : List D → List D
  | [] => []
  | a :: l => insB a (sortB l)
theorem ins_at {a : D} : ∀ {l1 l2 : List D}, (∀ b ∈ l1, (!leS a b) = true) → (∀ b ∈ l2, leS a b = true) → insB a (l1 ++ l2) = l1 ++ a :: l2
  | [], [], _, _ => rfl
  | [], b :: l, _, h => by
    show (if leS a b = true then a :: b :: l else b :: insB a l) = _
    rw [if_pos (h b List.mem_cons_self)]; rfl
  | c :: l1, l2, h1, h2 => by
    show (if leS a c = true then a :: c :: (l1 ++ l2) else c :: insB a (l1 ++ l2)) = _
    have hc := h1 c List.mem_cons_self
    rw [if_neg (by simpa using hc), ins_at (fun b hb => h1 b (List.mem_cons_of_mem _ hb)) h2]
    rfl
theorem leS_eq : PySem.W.dataLe false D.py = leS := rfl
theorem sortB_eq : ∀ l : List D, l.mergeSort leS = sortB l
  | [] => by simp [sortB]
  | a :: l => by
    have T : PySem.W.TotalLe leS := PySem.W.sortLe_total (PyProof.Rows.listOrd PyProof.Rows.itemOrd) false fun d : D => PySem.W.keyToks (D.py d)
    have tr : ∀ a b c, leS a b = true → leS b c = true → leS a c = true := fun a b c h1 h2 => T.trans a b c h1 h2
    have to : ∀ a b, (leS a b || leS b a) = true := fun a b => Bool.or_eq_true_iff.mpr (T.total a b)
    obtain ⟨l1, l2, e1, e2, e3⟩ := List.mergeSort_cons (le := leS) tr to a l
    have pw := List.pairwise_mergeSort (le := leS) tr to (a :: l)
    rw [e1] at pw ⊢
    have h2 : ∀ b ∈ l2, leS a b = true := fun b hb => (List.pairwise_cons.mp (List.pairwise_append.mp pw).2.1).1 b hb
    show _ = insB a (sortB l)
    rw [← sortB_eq l, e2, ins_at e3 h2]
def alikes (ds : List PyData) : Bool := ds.all fun d => ds.all fun e => PySem.W.alike d e
def isTupC : PyData → Bool
  | .tuple (_ :: _) => true
  | _ => false
def isFlatC : PyData → Bool
  | .none => false
  | .tuple _ => false
  | _ => true
def depthsOk (ds : List PyData) : Bool := ds.all fun d => decide (d.depth ≤ 50)
def sortedD (d : D) : Option R := match d with
  | .lst l => if (D.flat (.lst l) && alikes (pyL l) && ((pyL l).all isTupC || (pyL l).all isFlatC) && depthsOk (pyL l)) = true then some ⟨true, .lst (sortB l)⟩ else none
  | _ => none
theorem alikes_all {ds : List PyData} (h : alikes ds = true) : PySem.W.AllAlike ds := fun d hd e he => List.all_eq_true.mp (List.all_eq_true.mp h d hd) e he
theorem sortable_of {ds : List PyData} (h : (ds.all isTupC || ds.all isFlatC) = true) : PySem.W.Sortable ds := by
  rcases Bool.or_eq_true_iff.mp h with h | h
  · refine .inl fun d hd => ?_
    have := List.all_eq_true.mp h d hd
    cases d with
    | tuple l => cases l with
      | nil => cases this
      | cons x r => exact ⟨x, r, rfl⟩
    | _ => cases this
  · refine .inr fun d hd => ?_
    have := List.all_eq_true.mp h d hd
    cases d <;> first | exact ⟨fun z => PyData.noConfusion z, fun _ z => PyData.noConfusion z⟩ | cases this
theorem pyL_map : ∀ l : List D, pyL l = l.map D.py
  | [] => rfl
  | d :: l => by
    show D.py d :: pyL l = _
    rw [pyL_map l]; rfl
section
variable {X : Cx} {c : Cc} {P H : Hp}
theorem zip_each {l : List D} {xs : List V} {us : List Value} (r : Reps c.K c.G P l xs) (v : Vals xs us) : PySem.W.EachIs (fun (u : Value) (p : V × D) => RelV p.1 u ∧ Rep c.K c.G P p.2 p.1) us (xs.zip l) := by
  induction l generalizing xs us with
  | nil => cases r; cases v; exact .nil
  | cons d l ih =>
    cases r with
    | cons r1 r2 =>
      cases v with
      | cons v1 v2 => exact .cons ⟨v1, r1⟩ (ih r2 v2)
theorem each_unzip : ∀ {bs : List (V × D)} {us : List Value}, PySem.W.EachIs (fun (u : Value) (p : V × D) => RelV p.1 u ∧ Rep c.K c.G P p.2 p.1) us bs → Vals (bs.map (·.1)) us ∧ Reps c.K c.G P (bs.map (·.2)) (bs.map (·.1))
  | _, _, .nil => ⟨.nil, .nil⟩
  | _, _, .cons h t => ⟨.cons h.1 (each_unzip t).1, .cons h.2 (each_unzip t).2⟩
theorem flatL_mem : ∀ {l : List D} {d : D}, D.flat (.lst l) = true → d ∈ l → D.flat d = true
  | d0 :: l, d, h, m => by
    obtain ⟨f1, f2⟩ := Bool.and_eq_true_iff.mp (show (D.flat d0 && flatL l) = true from h)
    rcases List.mem_cons.mp m with e | m
    · rw [e]; exact f1
    · exact flatL_mem (l := l) f2 m
theorem map_snd_zip : ∀ {xs : List V} {l : List D}, l.length = xs.length → (xs.zip l).map (·.2) = l
  | [], [], _ => rfl
  | [], _ :: _, h => by cases h
  | _ :: _, [], h => by cases h
  | x :: xs, d :: l, h => by
    show d :: (xs.zip l).map (·.2) = _
    rw [map_snd_zip (by simpa using h)]
theorem each_weak {α β : Type} {R R' : α → β → Prop} : ∀ {us : List α} {bs : List β}, PySem.W.EachIs R us bs → (∀ u b, b ∈ bs → R u b → R' u b) → PySem.W.EachIs R' us bs
  | _, _, .nil, _ => .nil
  | _, _, .cons h t, f => .cons (f _ _ List.mem_cons_self h) (each_weak t fun u b hb r => f u b (List.mem_cons_of_mem _ hb) r)
theorem cd_sorted (hK : X.K = c.K) (hu : X.A.units + 65 < cLine) : CallR X (.builtin "sorted") (rB1 c sortedD) := by
  intro pins s σ H vs us Q I rs ⟨P, S, a, r, v, ev, le, so, rd, e, q⟩
  cases a with
  | lst l =>
    simp only [sortedD] at e
    split at e
    · rename_i hc
      cases e
      simp only [Bool.and_eq_true] at hc
      obtain ⟨⟨⟨hf, hal⟩, hst⟩, hdp⟩ := hc
      subst ev
      obtain ⟨A0, xs, rfl, sq, rx⟩ := rd.lstR le
      obtain ⟨u, rfl, ru⟩ := vals1 rs
      cases (show u = Value.ref A0 from ru)
      obtain ⟨its, rv, hl, hz⟩ := I.list (by rw [hK]; exact sq)
      have ez := zip_each rx rv
      have em : (xs.zip l).map (fun p => D.py p.2) = pyL l := by
        rw [pyL_map, ← map_snd_zip rx.length, List.map_map]
        rw [map_snd_zip rx.length]
        rfl
      have dpt : ∀ b ∈ xs.zip l, X.A.units + 2 + (D.py b.2).depth < cLine := fun b hb => by
        have m : D.py b.2 ∈ pyL l := by rw [← em]; exact List.mem_map.mpr ⟨b, hb, rfl⟩
        have := List.all_eq_true.mp hdp _ m
        have := of_decide_eq_true this
        omega
      refine PySem.W.sorted_data (R := fun (u : Value) (p : V × D) => RelV p.1 u ∧ Rep c.K c.G P p.2 p.1) (enc := fun p : V × D => D.py p.2) hl.isList ez (each_weak ez fun u b hb h => ?_) (by rw [em]; exact alikes_all hal) (by rw [em]; exact sortable_of hst) (by rw [List.length_zip, ← rx.length, Nat.min_self, rx.length]; exact hz) dpt fun out ho eo => ?_
      · have hb2 : b.2 ∈ l := by rw [← map_snd_zip rx.length]; exact List.mem_map.mpr ⟨b, hb, rfl⟩
        have dp := h.2.dp le (flatL_mem hf hb2)
        rw [← hK] at dp
        exact Dp.reads I _ b.1 u dp h.1
      · obtain ⟨ov, orp⟩ := each_unzip eo
        have es : ((xs.zip l).mergeSort (PySem.W.dataLe false fun p : V × D => D.py p.2)).map (·.2) = sortB l := by
          have e0 : (xs.zip l).mergeSort (PySem.W.dataLe false fun p : V × D => D.py p.2) = (xs.zip l).mergeSort (fun a b => leS a.2 b.2) := rfl
          rw [e0, List.map_mergeSort (s := leS) (f := fun p : V × D => p.2) (fun a _ b _ => rfl), map_snd_zip rx.length, sortB_eq]
        rw [es] at orp
        obtain ⟨ep, he'⟩ := PyProof.Rows.sortedAll_at s.heap its (List.toArray out)
        have hlen : (((xs.zip l).mergeSort (PySem.W.dataLe false fun p : V × D => D.py p.2)).map (·.1)).length ≤ sizeLine := by
          rw [List.length_map, List.length_mergeSort, List.length_zip, ← rx.length, Nat.min_self, rx.length]; exact hz
        exact ⟨.ref _, upd H (s.heap.objs.size + 1) (.lst _), I.laid (t' := s.toks) (fun _ _ => PyProof.Rows.sortedAll_old) (Nat.le_succ _) ⟨hlen, out, ep, ov, he'⟩, rfl, qx_lst q le so orp _ (I.hok.fresh (Nat.le_succ _))⟩
    · cases e
  | _ => cases e
end
end Pv

set_option Elab.async false
set_option linter.all false
set_option maxRecDepth 100000
namespace Pv
open PySem PySem.Spec PyProof.Rows L2

section
variable {X : Cx} {c : Cc} {P H : Hp} {a b : Expr} {x y : Ex} {p pos : Pos}
/-! ### tuple(range(..)), list(range(..)) -/
def rgD (m n : Int) : List D := (List.range (n - m).toNat).map fun (i : Nat) => D.int (m + i)
def rgOk (m n : Int) : Bool := decide (-line ≤ m ∧ m ≤ line ∧ -line ≤ n ∧ n ≤ line ∧ n - m ≤ line)
theorem rg_reps (m n : Int) : Reps c.K c.G P (rgD m n) (rgV m n) := by
  unfold rgD rgV
  generalize List.range (n - m).toNat = l
  induction l with
  | nil => exact .nil
  | cons i l ih => exact .cons (.int _) ih
theorem rgOk_ok {m n : Int} (h : rgOk m n = true) : RgOk m n := by
  have := of_decide_eq_true h
  have l62 := line_62
  have e : (line : Nat) = 2 ^ 24 := by decide
  refine ⟨by omega, by omega, by omega, by omega, ?_⟩
  omega
/-- the bounds of a range -/
abbrev Rx := SEnv → Sto → Out (Int × Int)
def rg1 (x : Ex) : Rx := fun env S => (x env S).bind fun a S => match a.d with
  | .int n => .ok (0, n) S
  | _ => .bad
def rg2 (x y : Ex) : Rx := fun env S => (x env S).bind fun a S => (y env S).bind fun b S => match a.d, b.d with
  | .int m, .int n => .ok (m, n) S
  | _, _ => .bad
def TRx (c : Cc) (r : Rx) : L2.St → Hp → (Int → Int → Hp → Prop) → Prop := fun σ H Q => ∃ P env S, Stt c P H env σ S ∧ (r env S).post (fun m S1 => ∀ P1 H1, Step c.ρ P H P1 H1 → StoOk c.K c.G c.ρ P1 H1 S1 → Q m.1 m.2 H1) (XP c P H)
theorem prg_imp {e : Expr} {t t' : L2.St → Hp → (Int → Int → Hp → Prop) → Prop} (h : PRg X e t) (i : ∀ σ H Q, t' σ H Q → t σ H Q) : PRg X e t' := fun pins s σ H Q I w => h pins s σ H Q I (i σ H Q w)
theorem trx_bind {α : Type} {env : SEnv} {σ : L2.St} {S : Sto} {o : Rx} {f : Int × Int → Sto → Out α} {QQ : α → Sto → Prop} {Q' : Int → Int → Hp → Prop} (s : Stt c P H env σ S) (h : ((o env S).bind f).post QQ (XP c P H))
    (k : ∀ r S1 P1 H1, Step c.ρ P H P1 H1 → Stt c P1 H1 env σ S1 → (f r S1).post QQ (XP c P H) → Q' r.1 r.2 H1) : TRx c o σ H Q' :=
  ⟨P, env, S, s, post_mono (post_bind.mp h) (fun r S1 q P1 H1 st so => k r S1 P1 H1 st (s.step st so) q) fun _ _ _ q => q⟩
theorem pr_1 (hg : Gl X "range") (hm : X.mg "range" = none) (ha : PE X a (TEx c x)) (na : starEach [a] X.env = (false, eval a X.env) :: starEach [] X.env) : PRg X (.Call (.Name "range" p) [a] [] pos) (TRx c (rg1 x)) :=
  prg_imp (prg_1 hg hm ha na) fun σ H Q ⟨P, env, S, s, h⟩ => tex_bindG s h fun r S1 v P1 H1 st1 s1 rp h1 => by
    obtain ⟨fr, d⟩ := r
    cases rp with
    | int n => exact ⟨n, rfl, h1 P1 H1 st1 s1.so⟩
    | _ => exact h1.elim
theorem pr_2 (hg : Gl X "range") (hm : X.mg "range" = none) (ha : PE X a (TEx c x)) (hb : PE X b (TEx c y)) (na : starEach [a, b] X.env = (false, eval a X.env) :: starEach [b] X.env) (nb : starEach [b] X.env = (false, eval b X.env) :: starEach [] X.env) (hp : (backTo pos (starEach [b] X.env)).any (·.1) = false) :
    PRg X (.Call (.Name "range" p) [a, b] [] pos) (TRx c (rg2 x y)) :=
  prg_imp (prg_2 hg hm ha hb na nb hp) fun σ H Q ⟨P, env, S, s, h⟩ => tex_bindG s h fun r S1 v P1 H1 st1 s1 rp h1 => tex_bindG s1 (xp_step st1 h1 fun m S' w P' H' st so => w P' H' (st1.trans st) so) fun r2 S2 v2 P2 H2 st2 s2 rp2 h2 => by
    obtain ⟨fr, d⟩ := r
    obtain ⟨fr2, d2⟩ := r2
    cases rp with
    | int m => cases rp2 with
      | int n => exact ⟨m, n, rfl, rfl, h2 P2 H2 st2 s2.so⟩
      | _ => exact h2.elim
    | _ => exact h2.elim
def tupRg (r : Rx) : Ex := fun env S => (r env S).bind fun m S => if rgOk m.1 m.2 = true then .ok ⟨false, .tup (rgD m.1 m.2)⟩ S else .bad
def lstRg (r : Rx) : Ex := fun env S => (r env S).bind fun m S => if rgOk m.1 m.2 = true then .ok ⟨true, .lst (rgD m.1 m.2)⟩ S else .bad
theorem pd_tupRg {e : Expr} {r : Rx} (hc : X.calm = true) (hg : Gl X "tuple") (hm : X.mg "tuple" = none) (he : PRg X e (TRx c r)) (na : starEach [e] X.env = (false, eval e X.env) :: starEach [] X.env) : PE X (.Call (.Name "tuple" p) [e] [] pos) (TEx c (tupRg r)) :=
  pe_imp (pe_tupRg hc hg hm he na) fun σ H Q ⟨P, env, S, s, h⟩ => trx_bind s h fun m S1 P1 H1 st1 s1 h1 => by
    by_cases hb : rgOk m.1 m.2 = true
    · rw [if_pos hb] at h1
      exact ⟨rgOk_ok hb, qx_tup (QX.step st1 h1) s1.le s1.so (rg_reps _ _)⟩
    · rw [if_neg hb] at h1; exact h1.elim
theorem pd_lstRg {e : Expr} {r : Rx} (hc : X.calm = true) (hg : Gl X "list") (hm : X.mg "list" = none) (he : PRg X e (TRx c r)) (na : starEach [e] X.env = (false, eval e X.env) :: starEach [] X.env) : PE X (.Call (.Name "list" p) [e] [] pos) (TEx c (lstRg r)) :=
  pe_imp (pe_listRg hc hg hm he na) fun σ H Q ⟨P, env, S, s, h⟩ => trx_bind s h fun m S1 P1 H1 st1 s1 h1 => by
    by_cases hb : rgOk m.1 m.2 = true
    · rw [if_pos hb] at h1
      exact ⟨rgOk_ok hb, qx_lst (QX.step st1 h1) s1.le s1.so (rg_reps _ _)⟩
    · rw [if_neg hb] at h1; exact h1.elim
/-! ### {}, {k: v} -/
def dnewT : Ex := fun _ S => .ok ⟨true, .dT []⟩ S
def dnewK : Ex := fun _ S => .ok ⟨true, .dK []⟩ S
theorem pd_dnewT : PE X (.Dict [] [] pos) (TEx c dnewT) := pe_imp pe_dnewT fun σ H Q ⟨P, env, S, s, h⟩ => qx_dT h s.le s.so .nil
theorem qx_dK {S : Sto} {Q : VK} {l : List (Key × D)} {kvs : List (Key × V)} (h : QX c P H Q ⟨true, .dK l⟩ S) (le : Le P H) (so : StoOk c.K c.G c.ρ P H S) (r : RepK c.K c.G P l kvs) : ∀ p, H p = none → Q (.ref p) (upd H p (.dK kvs)) := fun p n =>
  h (.ref p) P _ (Step.alloc le n) (so.alloc le n) (by unfold RepR; rw [if_pos rfl]; exact ⟨p, rfl, n, le.none n, .dK upd_same r⟩)
theorem pd_dnewK : PE X (.Dict [] [] pos) (TEx c dnewK) := pe_imp pe_dnewK fun σ H Q ⟨P, env, S, s, h⟩ => qx_dK h s.le s.so .nil
theorem tex_mono {σ : L2.St} {Q Q' : VK} (h : TEx c x σ H Q) (i : ∀ v H, Q v H → Q' v H) : TEx c x σ H Q' := by
  obtain ⟨P, env, S, s, h⟩ := h
  exact ⟨P, env, S, s, post_mono h (fun r S1 q v P1 H1 st so rr => i _ _ (q v P1 H1 st so rr)) fun _ _ _ q => q⟩
theorem eval_dispH {A : Around} {E : Value → Shared → Prop} {s : Shared} {env : Env} {keys : List (Option Expr)} {values : List Expr} {Q : Value → Shared → Prop} (hu : A.units + 1 < cLine) (hall : keys.all (·.isSome) = true) (hl : keys.length = values.length) (h0 : keys ≠ []) (h15 : keys.length ≤ 15)
    (h : wpAny (model X.prog X.w) A (evalPairs (pairTrees keys values env pos)) (fun vs s₁ => ∃ ps, CarriesH (tupleKind (mixKind X.prog X.w)) s₁.heap vs ps ∧ s₁.heap.DictOfH (tupleKind (mixKind X.prog X.w)) s.heap.objs.size [] ∧
      ∀ h' tk, h'.DictOfH (tupleKind (mixKind X.prog X.w)) s.heap.objs.size (storedAllH [] ps) → Heap.SameBut s.heap.objs.size s₁.heap h' → Q (.ref s.heap.objs.size) { s₁ with heap := h', toks := tk }) E { s with heap := s.heap.push { cls := .type "dict", data := .dict #[] } }) :
    wpAny (model X.prog X.w) A (eval (.Dict keys values pos) env) Q E s := by
  have hn := pairTrees_length keys values env pos hall hl
  have hne : pairTrees keys values env pos ≠ [] := fun z => h0 (List.length_eq_zero_iff.mp (by rw [← hn, z]; rfl))
  rw [arm_eval_Dict, zip_pairTrees keys values env pos hall hl, dictDisplay_pairs _ hne (by omega)]
  exact wpAny_bind (wpAny_standAt (wpAny_bind (wpAny_subDictH (knd := tupleKind (mixKind X.prog X.w)) (Q := fun d s' => wpAny (model X.prog X.w) A (pure (Value.ref d)) Q E s') (show A.units < cLine by omega) (by omega)
    (wpAny_mono h (fun vs s₁ ⟨ps, h1, h2, h3⟩ => ⟨ps, h1, h2, fun h' tk e sb => wpAny_pure (h3 h' tk e sb)⟩) fun _ _ e => e))))
/-- {k: v}, k a tuple -/
def dispT (x y : Ex) : Ex := fun env S => (x env S).bind fun a S => (y env S).bind fun b S => match tkey a.d with
  | some k => .ok ⟨true, .dT [(k, b.d)]⟩ S
  | none => .bad
theorem pd_dispT (hu : X.A.units + 65 < cLine) (ha : PE X a (TEx c x)) (hb : PE X b (TEx c y)) : PE X (.Dict [some a] [b] pos) (TEx c (dispT x y)) := by
  refine pe_imp (t := fun σ H Q => ∀ p, H p = none → TEx c x σ (upd H p (.dT [])) fun v1 H1 => TEx c y σ H1 fun v2 H2 => H2 p = some (.dT []) ∧ ∃ b k, v1 = .ref b ∧ H2 b = some (.tup (k.map kV)) ∧ Q (.ref p) (upd H2 p (.dT [(k, v2)]))) ⟨fun pins s σ H Q I q => ?_⟩
    fun σ H Q ⟨P, env, S, s, h⟩ p n => ?_
  · have hn := I.hok.fresh (Nat.le_refl s.heap.objs.size)
    have I1 := I.laid (a := s.heap.objs.size) (o := .dT []) (h' := s.heap.push { cls := .type "dict", data := .dict #[] }) (t' := s.toks) (fun _ _ q => Heap.get?_push_of_some _ q) (Nat.le_refl _) (dt_empty s.heap I.big)
    have pp : PPs X pos [some a] [b] [(TEx c x, TEx c y)] := pps_cons ha hb pps_nil
    refine eval_dispH (by omega) rfl rfl (fun z => nomatch z) (by show 1 ≤ 15; decide) (thn (pp.run pins _ σ _ (fun ps H2 => ∃ v1 v2, ps = [(v1, v2)] ∧ H2 s.heap.objs.size = some (.dT []) ∧ ∃ b k, v1 = .ref b ∧ H2 b = some (.tup (k.map kV)) ∧ Q (.ref s.heap.objs.size) (upd H2 s.heap.objs.size (.dT [(k, v2)]))) I1
      (show TEx c x σ _ fun v1 H1 => TEx c y σ H1 fun v2 H2 => _ from tex_mono (q _ hn) fun v1 H1 q1 => tex_mono q1 fun v2 H2 q2 => ⟨v1, v2, rfl, q2⟩)) fun ws s2 ⟨ps, H2, I2, rel, v1, v2, ep, e, bb, k, e1, e2, q2⟩ => ?_)
    subst ep e1
    cases rel with
    | @cons _ w _ _ rw0 t =>
      cases t
      obtain ⟨w1, w2⟩ := w
      obtain ⟨r1, r2⟩ := rw0
      cases (show w1 = Value.ref bb from r1)
      obtain ⟨z, hd, xs, kt, dd⟩ := dt_of I2.hok e
      cases kt
      refine ⟨[(k, bb, w2)], ⟨rfl, rfl, key_of I2.hok e2, trivial⟩, dd, fun h' tk d2 sb => ⟨.ref s.heap.objs.size, _, ?_, rfl, q2⟩⟩
      have he : ∃ q, h'.get? s.heap.objs.size = some q := let ⟨q, _, _, hq, _⟩ := d2; ⟨q, hq⟩
      obtain ⟨o, es, epp, h1, h2, h3, h4, _, h5⟩ := d2
      refine d_write I2 (by rw [e]; exact True.intro) sb he ⟨by show 1 ≤ sizeLine; decide, hd, [(k, bb, w2)], .cons ⟨rfl, ?_, r2⟩ .nil, o, es, epp, h1, h2, h3, h4, h5⟩
      rw [upd_ne (ne_of e2 e (fun z => nomatch z))]
      exact e2
  · have st : Step c.ρ P H P (upd H p (.dT [])) := Step.alloc s.le n
    have s0 := s.step st (s.so.alloc s.le n)
    have n0 : c.H0 p = none := s.st.dom p n
    unfold dispT at h
    refine tex_bindG s0 (xp_step st (show PX c P H Q _ from h) fun _ _ w => w) fun r S1 v P1 H1 st1 s1 rp h1 => tex_bindG s1 (xp_step st1 h1 fun _ _ w => w) fun r2 S2 v2 P2 H2 st2 s2 rp2 h2 => ?_
    have k1 := own_kept (u := .dT []) s0.r0 st1 n0 (s.le.none n) upd_same (fun xs z => nomatch z)
    have k2 := own_kept s1.r0 st2 n0 k1.1 k1.2 (fun xs z => nomatch z)
    refine ⟨k2.2, ?_⟩
    cases q : tkey r.d with
    | none => simp only [q] at h2; exact h2.elim
    | some k =>
      simp only [q] at h2
      obtain ⟨b, rfl, hb2⟩ := tkey_rep q (rp.mono st2.pp) s2.le
      refine ⟨b, k, rfl, s2.le.tup hb2, ?_⟩
      refine (show QX c P H Q ⟨true, .dT [(k, r2.d)]⟩ S2 from h2) (.ref p) P2 _ ((st.trans (st1.trans st2)).wr n k2.1 (by rw [k2.2]; exact fun z => nomatch z)) (s2.so.wr (s.new0 p n)) ?_
      unfold RepR
      rw [if_pos rfl]
      exact ⟨p, rfl, n, k2.1, .dT upd_same (.cons rp2 .nil)⟩
end
end Pv

set_option Elab.async false
set_option linter.all false
set_option maxRecDepth 100000
namespace Pv
open PySem PySem.Spec PyProof.Rows L2

/-! ### a written dict of a module -/
inductive KEnt (K : PySem.W.Frag) (G : Nat → Option (Addr × List Str)) (w : World) : List DictEntry → List (Key × D) → Prop
  | nil : KEnt K G w [] []
  | cons {e : DictEntry} {k : Key} {d : D} {es : List DictEntry} {l : List (Key × D)} : keyIs k e.key = true → e.hash = keyH w k → (∃ v, RelV v e.val ∧ ∀ P, Rep K G P d v) → KEnt K G w es l → KEnt K G w (e :: es) ((k, d) :: l)
def KTab (K : PySem.W.Frag) (G : Nat → Option (Addr × List Str)) (w : World) (a : Addr) (tb : List (Key × D)) : Prop :=
  ∃ es n, K.lookup a = some ⟨.type "dict", none, .dict es n, #[]⟩ ∧ KEnt K G w es.toList tb ∧ (a == sysModules) = false ∧ (tb.map (·.1)).Nodup
theorem KEnt.vals {K : PySem.W.Frag} {G : Nat → Option (Addr × List Str)} {w : World} {prog : Program} : ∀ {es : List DictEntry} {tb : List (Key × D)}, KEnt K G w es tb → ∃ (kvs : List (Key × V)) (vs : List (Key × Value)), KV kvs vs ∧ Pairs (mixKind prog w) es vs ∧ (∀ P, RepK K G P tb kvs) ∧ (∀ e ∈ es, ∃ k, (mixKind prog w).is k e.key = true ∧ e.hash = (mixKind prog w).hash k) ∧ vs.map (·.1) = tb.map (·.1)
  | _, _, .nil => ⟨[], [], .nil, .nil, fun _ => .nil, fun _ h => (nomatch h), rfl⟩
  | _, _, .cons (e := e) (k := k) h1 h2 ⟨v, h3, h4⟩ t => by
    obtain ⟨kvs, vs, g1, g2, g3, g4, g5⟩ := KEnt.vals (prog := prog) t
    refine ⟨(k, v) :: kvs, (k, e.val) :: vs, .cons ⟨rfl, h3⟩ g1, .cons h1 rfl g2, fun P => .cons (h4 P) (g3 P), fun e' he => ?_, congrArg (k :: ·) g5⟩
    rcases List.mem_cons.mp he with q | q
    · rw [q]; exact ⟨k, h1, h2⟩
    · exact g4 e' q
theorem KTab.dict {K : PySem.W.Frag} {G : Nat → Option (Addr × List Str)} {w : World} {prog : Program} {a : Addr} {tb : List (Key × D)} {h : Heap} (t : KTab K G w a tb) (kin : K.In h) : ∃ (kvs : List (Key × V)) (vs : List (Key × Value)), KV kvs vs ∧ h.DictOf (mixKind prog w) a vs ∧ (∀ P, RepK K G P tb kvs) ∧ (a == sysModules) = false := by
  obtain ⟨es, n, hl, ke, lo, nd⟩ := t
  obtain ⟨kvs, vs, g1, g2, g3, g4, g5⟩ := ke.vals (prog := prog)
  exact ⟨kvs, vs, g1, ⟨_, es, n, kin _ _ hl, ⟨rfl, rfl, rfl⟩, rfl, fun e he => g4 e (Array.mem_toList_iff.mpr he), g2, by rw [g5]; exact nd⟩, g3, lo⟩
def kinD (tb : List (Key × D)) (d : D) : Option R := (keyOf d).map fun k => bR (look tb k).isSome
def kninD (tb : List (Key × D)) (d : D) : Option R := (keyOf d).map fun k => bR (!(look tb k).isSome)
def kgetD (tb : List (Key × D)) (d : D) : Option R := (keyOf d).bind fun k => (look tb k).map fun d => ⟨false, d⟩
section
variable {X : Cx} {c : Cc} {P H : Hp} {a : Addr} {tb : List (Key × D)}
def rK1 (c : Cc) (a : Addr) (f : D → Option R) : R2 := fun x y H Q => y = .ref a ∧ rOp1 c f x H Q
theorem look_some {kvs : List (Key × V)} {vs : List (Key × Value)} (rk : RepK c.K c.G P tb kvs) (kv : KV kvs vs) (k : Key) : (look tb k).isSome = (valueAt vs k).isSome := by
  rw [← (kv.val k).isSome_eq]
  cases q : look tb k with
  | none => rw [(look_K rk k).2 q]; rfl
  | some d => obtain ⟨v, e, _⟩ := (look_K rk k).1 d q; rw [e]; rfl
theorem ok_in (t : KTab X.K c.G X.w a tb) (hK : X.K = c.K) : OpR X (compareOp .In) (rK1 c a (kinD tb)) := by
  intro pins s σ H x y v u Q I rx ry ⟨ey, P, S, d, r, le, n0, so, rd, e, q⟩
  subst ey
  cases (show u = Value.ref a from ry)
  obtain ⟨k, e1, e2⟩ := Option.map_eq_some_iff.mp e
  subst e2
  obtain ⟨kvs, vs, kv, dd, rk, lo⟩ := t.dict (prog := X.prog) I.kIn
  rw [keyOf_rep e1 rd] at rx
  refine wpAny_in_of (kV_is rx) lo dd.mapOf ⟨.bl _, H, I.tok _, rfl, ?_⟩
  rw [← look_some (c := c) (by rw [← hK]; exact rk P) kv k]
  exact qx_ret q le so (.bl _)
theorem ok_nin (t : KTab X.K c.G X.w a tb) (hK : X.K = c.K) : OpR X (compareOp .NotIn) (rK1 c a (kninD tb)) := by
  intro pins s σ H x y v u Q I rx ry ⟨ey, P, S, d, r, le, n0, so, rd, e, q⟩
  subst ey
  cases (show u = Value.ref a from ry)
  obtain ⟨k, e1, e2⟩ := Option.map_eq_some_iff.mp e
  subst e2
  obtain ⟨kvs, vs, kv, dd, rk, lo⟩ := t.dict (prog := X.prog) I.kIn
  rw [keyOf_rep e1 rd] at rx
  refine wpAny_notIn_of (kV_is rx) lo dd.mapOf ⟨.bl _, H, I.tok _, rfl, ?_⟩
  rw [← look_some (c := c) (by rw [← hK]; exact rk P) kv k]
  exact qx_ret q le so (.bl _)
def rIxK (c : Cc) (a : Addr) (f : D → Option R) : R2 := fun x y H Q => x = .ref a ∧ rOp1 c f y H Q
theorem ix_K (t : KTab X.K c.G X.w a tb) (hK : X.K = c.K) : IxR X (rIxK c a (kgetD tb)) := by
  intro value slice pins s σ H x y v u Q I rx ry ⟨ex, P, S, d, r, le, n0, so, rd, e, q⟩ hs
  subst ex
  cases (show v = Value.ref a from rx)
  obtain ⟨k, e1, e2⟩ := Option.bind_eq_some_iff.mp e
  obtain ⟨d2, e3, e4⟩ := Option.map_eq_some_iff.mp e2
  subst e4
  obtain ⟨kvs, vs, kv, dd, rk, lo⟩ := t.dict (prog := X.prog) I.kIn
  rw [keyOf_rep e1 rd] at ry
  have rk' : RepK c.K c.G P tb kvs := by rw [← hK]; exact rk P
  obtain ⟨w, e5, rw'⟩ := (look_K rk' k).1 d2 e3
  obtain ⟨w2, e6, r2⟩ := RelO.some_of (v := w) (o := valueAt vs k) (by rw [← e5]; exact kv.val k)
  exact tail_any dd.typeIs PySem.F.slot_dict_getitem.lookup (wpAny_getItem_of (kV_is ry) dd.mapOf e6 ⟨w, H, I.tok _, r2, qx_ret q le so rw'⟩) hs
variable {e : Expr} {x : Ex} {nm : Str} {p pos : Pos}
theorem opK_top {f : D → Option R} : ∀ σ H Q, TEx c (op1 f x) σ H Q → tOp (rK1 c a f) (TEx c x) (tC (.ref a)) σ H Q := fun σ H Q h => by
  obtain ⟨P, env, S, s, h⟩ := h
  exact tex_bind s h fun r S1 v P1 H1 st1 s1 rp1 h1 => by
    cases q : f r.d with
    | none => simp only [q] at h1; exact h1.elim
    | some r3 =>
      simp only [q] at h1
      exact ⟨rfl, P1, S1, r.d, r3, s1.le, s1.new0, s1.so, rp1, q, h1⟩
theorem ixK_top {f : D → Option R} : ∀ σ H Q, TEx c (op1 f x) σ H Q → tOp (rIxK c a f) (tC (.ref a)) (TEx c x) σ H Q := fun σ H Q h => by
  obtain ⟨P, env, S, s, h⟩ := h
  exact tex_bind s h fun r S1 v P1 H1 st1 s1 rp1 h1 => by
    cases q : f r.d with
    | none => simp only [q] at h1; exact h1.elim
    | some r3 =>
      simp only [q] at h1
      exact ⟨rfl, P1, S1, r.d, r3, s1.le, s1.new0, s1.so, rp1, q, h1⟩
theorem pd_kin (t : KTab X.K c.G X.w a tb) (hK : X.K = c.K) (hg : Gl X nm) (hm : X.mg nm = some (.ref a)) (hd : (nm == ("__debug__" : Str)) = false) (he : PE X e (TEx c x)) : PE X (.Compare e [.In] [.Name nm p] pos) (TEx c (op1 (kinD tb) x)) :=
  pe_imp (pe_cmpR (ok_in t hK) he (pe_glob hg hm (show RelV (.ref a) (.ref a) from rfl) hd) rfl) opK_top
theorem pd_knin (t : KTab X.K c.G X.w a tb) (hK : X.K = c.K) (hg : Gl X nm) (hm : X.mg nm = some (.ref a)) (hd : (nm == ("__debug__" : Str)) = false) (he : PE X e (TEx c x)) : PE X (.Compare e [.NotIn] [.Name nm p] pos) (TEx c (op1 (kninD tb) x)) :=
  pe_imp (pe_cmpR (ok_nin t hK) he (pe_glob hg hm (show RelV (.ref a) (.ref a) from rfl) hd) rfl) opK_top
theorem pd_kget (t : KTab X.K c.G X.w a tb) (hK : X.K = c.K) (hg : Gl X nm) (hm : X.mg nm = some (.ref a)) (hd : (nm == ("__debug__" : Str)) = false) (he : PE X e (TEx c x)) (hs : PlainIx e) : PE X (.Subscript (.Name nm p) e pos) (TEx c (op1 (kgetD tb) x)) :=
  pe_imp (pe_ix (ix_K t hK) (pe_glob hg hm (show RelV (.ref a) (.ref a) from rfl) hd) he hs) ixK_top
end
end Pv

set_option Elab.async false
set_option linter.all false
set_option maxRecDepth 100000
namespace Pv
open PySem PySem.Spec PyProof.Rows L2

section
variable {X : Cx} {c : Cc} {P H P1 H1 : Hp} {env : SEnv} {σ : L2.St} {S S1 : Sto} {x y z : Ex} {pos : Pos}
/-! ### a, b = x, y -/
def setR (i : Nat) (f : Bool) (r : R) (env : SEnv) : Option SEnv := match f with
  | true => if r.fr = true then some (env.set i (.own r.d)) else none
  | false => some (env.set i (.sh r.d))
def par2 (i : Nat) (f : Bool) (j : Nat) (g : Bool) (x y : Ex) : Sx := fun env S => (x env S).bind fun a S => (y env S).bind fun b S => match setR i f a env with
  | none => .bad
  | some e1 => match setR j g b e1 with
    | none => .bad
    | some e2 => .ok (.nx e2) S
def par3 (i : Nat) (f : Bool) (j : Nat) (g : Bool) (l : Nat) (h : Bool) (x y z : Ex) : Sx := fun env S => (x env S).bind fun a S => (y env S).bind fun b S => (z env S).bind fun d S => match setR i f a env with
  | none => .bad
  | some e1 => match setR j g b e1 with
    | none => .bad
    | some e2 => match setR l h d e2 with
      | none => .bad
      | some e3 => .ok (.nx e3) S
/-- a value that was made since H, as it stands -/
def Held (c : Cc) (H P1 H1 : Hp) (r : R) (v : V) : Prop := if r.fr = true then ∃ a, v = .ref a ∧ H a = none ∧ a ∉ c.ρ ∧ P1 a = none ∧ Root c.K c.G P1 H1 r.d a else Rep c.K c.G P1 r.d v
theorem Held.of {r : R} {v : V} (n : ∀ a, H a = none → a ∉ c.ρ) (h : RepR c.K c.G H P1 H1 r v) : Held c H P1 H1 r v := by
  unfold RepR at h
  unfold Held
  split at h
  · rename_i hf
    rw [if_pos hf]
    obtain ⟨a, e, n1, n2, ro⟩ := h
    exact ⟨a, e, n1, n a n1, n2, ro⟩
  · rename_i hf
    rw [if_neg hf]; exact h
theorem Held.step {H0 P2 H2 : Hp} {r : R} {v : V} (st : Step c.ρ P1 H1 P2 H2) (h : Held c H0 P1 H1 r v) : Held c H0 P2 H2 r v := by
  unfold Held at h ⊢
  split at h
  · rename_i hf
    rw [if_pos hf]
    obtain ⟨a, e, n1, nr, n2, ro⟩ := h
    obtain ⟨u, hu, mu⟩ := ro.there
    exact ⟨a, e, n1, nr, st.new a u nr n2 hu (fun xs z => by subst z; exact mu), ro.mono st.pp fun w hw => st.hh a w hw nr⟩
  · rename_i hf
    rw [if_neg hf]; exact h.mono st.pp
def OwnLive (H : Hp) (σ : L2.St) (env : SEnv) : Prop := ∀ j a, (sget env j).isOwn = true → σ[j]? = some (some (.ref a)) → H a ≠ none
theorem Stt.live (s : Stt c P H env σ S) : OwnLive H σ env := fun j a ho e => by
  obtain ⟨_, _, u, hu⟩ := s.ownAt ho e
  rw [hu]; exact fun z => nomatch z
/-- .. is laid for good -/
theorem Held.frz {H0 : Hp} {r : R} {v : V} (s : Stt c P1 H1 env σ S) (h : Held c H0 P1 H1 r v) (hb : ∀ a, H0 a = none → c.H0 a = none) (hn : OwnLive H0 σ env) : ∃ P2, Stt c P2 H1 env σ S ∧ Same P1 P2 ∧ Rep c.K c.G P2 r.d v ∧ ∀ b, P1 b = none → (r.fr = true → v ≠ .ref b) → P2 b = none := by
  unfold Held at h
  split at h
  · rename_i hfr
    obtain ⟨a, rfl, n1, nr, n2, ro⟩ := h
    obtain ⟨u, hu, _, rp⟩ := ro.rep n2
    have sm : Same P1 (upd P1 a u) := fun b o e => by rw [upd_ne (ne_of_none e n2)]; exact e
    refine ⟨upd P1 a u, ⟨⟨fun b w e => ?_, s.st.pp.trans sm, s.st.hh, s.st.dom, fun b w m q e t => ?_, fun b m q => ?_⟩, s.r0, s.so.freeze nr n2, s.ln, fun i => ?_, s.dj⟩, sm, rp, fun b e ne => by rw [upd_ne (fun z => ne hfr (by rw [z]))]; exact e⟩
    · by_cases z : b = a
      · subst z; rw [upd_same] at e; cases e; exact .inl hu
      · rw [upd_ne z] at e; exact s.le b w e
    · have ne : b ≠ a := fun z => by
        subst z
        have := hb b n1
        rw [this] at e; cases e
      rw [upd_ne ne]; exact s.st.new b w m q e t
    · rw [upd_ne (show b ≠ a from fun z => nr (by rw [← z]; exact m))]; exact s.st.cel b m q
    · have sl := s.sl i
      have hni := hn i
      cases q : sget env i with
      | un => trivial
      | sh d => rw [q] at sl; obtain ⟨v, e, r⟩ := sl; exact ⟨v, e, r.mono sm⟩
      | ref n => rw [q] at sl; exact sl
      | own d =>
        rw [q] at sl hni
        obtain ⟨b, e, hp, h0, r⟩ := sl
        exact ⟨b, e, by rw [upd_ne (fun z => hni b rfl e (by rw [z]; exact n1))]; exact hp, h0, r.mono sm fun _ e => e⟩
      | lk d =>
        rw [q] at sl hni
        obtain ⟨b, od, w, e, hp, h0, hf, r⟩ := sl
        exact ⟨b, od, w, e, by rw [upd_ne (fun z => hni b rfl e (by rw [z]; exact n1))]; exact hp, h0, hf, r.mono sm fun _ e => e⟩
  · exact ⟨P1, s, Same.refl _, h, fun b e _ => e⟩
theorem setR_ok {H0 : Hp} {i : Nat} {f : Bool} {r : R} {v : V} {e1 : SEnv} (s : Stt c P1 H1 env σ S) (h : Held c H0 P1 H1 r v) (hb : ∀ a, H0 a = none → c.H0 a = none) (hn : OwnLive H0 σ env) (e : setR i f r env = some e1) :
    ∃ P2, Stt c P2 H1 e1 (σ.set i (some v)) S ∧ Same P1 P2 ∧ ∀ b, P1 b = none → (r.fr = true → v ≠ .ref b) → P2 b = none := by
  cases f with
  | false =>
    cases e
    obtain ⟨P2, s2, sm, rp, k⟩ := h.frz s hb hn
    exact ⟨P2, s2.set rp, sm, k⟩
  | true =>
    unfold setR at e
    dsimp only at e
    by_cases hf : r.fr = true
    · rw [if_pos hf] at e
      cases e
      unfold Held at h
      rw [if_pos hf] at h
      obtain ⟨a, rfl, n1, nr, n2, ro⟩ := h
      exact ⟨P1, s.setOwn (hb a n1) n2 ro fun j _ ho q => hn j a ho q n1, Same.refl _, fun b e _ => e⟩
    · rw [if_neg hf] at e; cases e
theorem Held.up {H0 P2 : Hp} {r r0 : R} {v v0 : V} (sm : Same P1 P2) (h : Held c H0 P1 H1 r v) (k : ∀ b, P1 b = none → (r0.fr = true → v0 ≠ .ref b) → P2 b = none) (ne : r0.fr = true → ∀ b, v0 = .ref b → H0 b ≠ none) : Held c H0 P2 H1 r v := by
  unfold Held at h ⊢
  split at h
  · rename_i hf
    rw [if_pos hf]
    obtain ⟨a, e, n1, nr, n2, ro⟩ := h
    exact ⟨a, e, n1, nr, k a n2 (fun h0 z => ne h0 a z n1), ro.mono sm fun _ e => e⟩
  · rename_i hf
    rw [if_neg hf]; exact h.mono sm
theorem Held.here {H0 : Hp} {r : R} {v : V} (h : Held c H0 P1 H1 r v) : r.fr = true → ∀ b, v = .ref b → H1 b ≠ none := fun hf b e => by
  unfold Held at h
  rw [if_pos hf] at h
  obtain ⟨a, rfl, n1, nr, n2, ro⟩ := h
  cases e
  obtain ⟨u, hu, _⟩ := ro.there
  rw [hu]; exact fun z => nomatch z
theorem OwnLive.set {i : Nat} {f : Bool} {r : R} {v : V} {e1 : SEnv} (ln : env.length = σ.length) (h : OwnLive H1 σ env) (e : setR i f r env = some e1) (hv : r.fr = true → ∀ b, v = .ref b → H1 b ≠ none) : OwnLive H1 (σ.set i (some v)) e1 := fun j a ho q => by
  by_cases hi : i < env.length
  · by_cases hj : i = j
    · subst hj
      rw [List.getElem?_set_self (by omega)] at q
      have q' : v = .ref a := Option.some.inj (Option.some.inj q)
      cases f with
      | false => cases e; rw [sget_set_self hi] at ho; cases ho
      | true =>
        unfold setR at e
        dsimp only at e
        by_cases hf : r.fr = true
        · exact hv hf a q'
        · rw [if_neg hf] at e; cases e
    · rw [List.getElem?_set_ne hj] at q
      refine h j a ?_ q
      cases f with
      | false => cases e; rw [sget_set_ne hj] at ho; exact ho
      | true =>
        unfold setR at e
        dsimp only at e
        by_cases hf : r.fr = true
        · rw [if_pos hf] at e; cases e; rw [sget_set_ne hj] at ho; exact ho
        · rw [if_neg hf] at e; cases e
  · rw [List.set_eq_of_length_le (by omega)] at q
    refine h j a ?_ q
    cases f with
    | false => cases e; rw [List.set_eq_of_length_le (by omega)] at ho; exact ho
    | true =>
      unfold setR at e
      dsimp only at e
      by_cases hf : r.fr = true
      · rw [if_pos hf] at e; cases e; rw [List.set_eq_of_length_le (by omega)] at ho; exact ho
      · rw [if_neg hf] at e; cases e
/-- an expression within a statement, its value as it stands -/
theorem te_raw {α : Type} {f : R → Sto → Out α} {QQ : α → Sto → Prop} {Q' : VK} (s : Stt c P H env σ S) (h : ((x env S).bind f).post QQ (XP c c.P0 c.H0))
    (k : ∀ r S1 v P1 H1, Step c.ρ P H P1 H1 → Stt c P1 H1 env σ S1 → Held c H P1 H1 r v → (f r S1).post QQ (XP c c.P0 c.H0) → Q' v H1) : TEx c x σ H Q' :=
  ⟨P, env, S, s, post_mono (post_bind.mp h) (fun r S1 q v P1 H1 st so rr => k r S1 v P1 H1 st (s.step st so) (Held.of s.new0 rr) q) fun _ _ _ q => q.step s.st⟩
theorem par2_top {i j : Nat} {f g : Bool} : ∀ D σ H, TSx c (par2 i f j g x y) D σ H → tPar i j (tCons (TEx c x) (tCons (TEx c y) tNil)) D σ H := fun D σ H ⟨P, env, S, s, h⟩ =>
  te_raw s h fun r1 S1 v1 P1 H1 st1 s1 h1 q1 => te_raw s1 q1 fun r2 S2 v2 P2 H2 st2 s2 h2 q2 => by
    refine ⟨v1, v2, rfl, ?_⟩
    cases e1 : setR i f r1 env with
    | none => rw [e1] at q2; exact q2.elim
    | some en1 =>
      rw [e1] at q2
      dsimp only at q2
      cases e2 : setR j g r2 en1 with
      | none => rw [e2] at q2; exact q2.elim
      | some en2 =>
        rw [e2] at q2
        obtain ⟨P3, s3, sm3, k3⟩ := setR_ok s2 (h1.step st2) s.st.dom s.live e1
        obtain ⟨P4, s4, sm4, k4⟩ := setR_ok s3 (h2.up sm3 k3 h1.here) s1.st.dom (s1.live.set s1.ln e1 h1.here) e2
        exact q2 P4 H2 _ (st1.pp.trans (st2.pp.trans (sm3.trans sm4))) s4
theorem par3_top {i j l : Nat} {f g h : Bool} : ∀ D σ H, TSx c (par3 i f j g l h x y z) D σ H → tPar3 i j l (tCons (TEx c x) (tCons (TEx c y) (tCons (TEx c z) tNil))) D σ H := fun D σ H ⟨P, env, S, s, w⟩ =>
  te_raw s w fun r1 S1 v1 P1 H1 st1 s1 h1 q1 => te_raw s1 q1 fun r2 S2 v2 P2 H2 st2 s2 h2 q2 => te_raw s2 q2 fun r3 S3 v3 P3 H3 st3 s3 h3 q3 => by
    refine ⟨v1, v2, v3, rfl, ?_⟩
    cases e1 : setR i f r1 env with
    | none => rw [e1] at q3; exact q3.elim
    | some en1 =>
      rw [e1] at q3
      dsimp only at q3
      cases e2 : setR j g r2 en1 with
      | none => rw [e2] at q3; exact q3.elim
      | some en2 =>
        rw [e2] at q3
        dsimp only at q3
        cases e3 : setR l h r3 en2 with
        | none => rw [e3] at q3; exact q3.elim
        | some en3 =>
          rw [e3] at q3
          have h1' := h1.step st2
          obtain ⟨P4, s4, sm4, k4⟩ := setR_ok s3 (h1'.step st3) s.st.dom s.live e1
          obtain ⟨P5, s5, sm5, k5⟩ := setR_ok s4 ((h2.step st3).up sm4 k4 h1.here) s1.st.dom (s1.live.set s1.ln e1 h1.here) e2
          obtain ⟨P6, s6, sm6, k6⟩ := setR_ok s5 ((h3.up sm4 k4 h1'.here).up sm5 k5 h2.here) s2.st.dom ((s2.live.set s2.ln e1 h1'.here).set (by rw [List.length_set, ← setR_len e1]; exact s2.ln) e2 h2.here) e3
          exact q3 P6 H3 _ (st1.pp.trans (st2.pp.trans (st3.pp.trans (sm4.trans (sm5.trans sm6))))) s6
where
  setR_len {i : Nat} {f : Bool} {r : R} {env e1 : SEnv} (e : setR i f r env = some e1) : env.length = e1.length := by
    cases f with
    | false => cases e; rw [List.length_set]
    | true =>
      unfold setR at e
      dsimp only at e
      by_cases hf : r.fr = true
      · rw [if_pos hf] at e; cases e; rw [List.length_set]
      · rw [if_neg hf] at e; cases e
/-- .. with the tuple made and taken apart -/
theorem par2T_top {i j : Nat} {f g : Bool} {pp : Hp → V → Prop} : ∀ D σ H, TSx c (par2 i f j g x y) D σ H → tCons (TEx c x) (tCons (TEx c y) tNil) σ H fun vs H1 => vs.length = 2 ∧ ∀ p, H1 p = none → gNames [i, j] vs σ (upd H1 p (.tup vs)) D.nx := fun D σ H ⟨P, env, S, s, h⟩ =>
  te_raw s h fun r1 S1 v1 P1 H1 st1 s1 h1 q1 => te_raw s1 q1 fun r2 S2 v2 P2 H2 st2 s2 h2 q2 => by
    refine ⟨rfl, fun p np => ?_⟩
    cases e1 : setR i f r1 env with
    | none => rw [e1] at q2; exact q2.elim
    | some en1 =>
      rw [e1] at q2
      dsimp only at q2
      cases e2 : setR j g r2 en1 with
      | none => rw [e2] at q2; exact q2.elim
      | some en2 =>
        rw [e2] at q2
        have stA : Step c.ρ P2 H2 P2 (upd H2 p (.tup [v1, v2])) := Step.alloc s2.le np
        have sA := s2.step stA (s2.so.alloc s2.le np)
        obtain ⟨P3, s3, sm3, k3⟩ := setR_ok sA ((h1.step st2).step stA) s.st.dom s.live e1
        obtain ⟨P4, s4, sm4, k4⟩ := setR_ok s3 ((h2.step stA).up sm3 k3 h1.here) s1.st.dom (s1.live.set s1.ln e1 h1.here) e2
        exact ⟨v1, [v2], rfl, v2, [], rfl, rfl, q2 P4 _ _ (st1.pp.trans (st2.pp.trans (sm3.trans sm4))) s4⟩
theorem par3T_top {i j l : Nat} {f g h : Bool} : ∀ D σ H, TSx c (par3 i f j g l h x y z) D σ H → tCons (TEx c x) (tCons (TEx c y) (tCons (TEx c z) tNil)) σ H fun vs H1 => vs.length = 3 ∧ ∀ p, H1 p = none → gNames [i, j, l] vs σ (upd H1 p (.tup vs)) D.nx := fun D σ H ⟨P, env, S, s, w⟩ =>
  te_raw s w fun r1 S1 v1 P1 H1 st1 s1 h1 q1 => te_raw s1 q1 fun r2 S2 v2 P2 H2 st2 s2 h2 q2 => te_raw s2 q2 fun r3 S3 v3 P3 H3 st3 s3 h3 q3 => by
    refine ⟨rfl, fun p np => ?_⟩
    cases e1 : setR i f r1 env with
    | none => rw [e1] at q3; exact q3.elim
    | some en1 =>
      rw [e1] at q3
      dsimp only at q3
      cases e2 : setR j g r2 en1 with
      | none => rw [e2] at q3; exact q3.elim
      | some en2 =>
        rw [e2] at q3
        dsimp only at q3
        cases e3 : setR l h r3 en2 with
        | none => rw [e3] at q3; exact q3.elim
        | some en3 =>
          rw [e3] at q3
          have stA : Step c.ρ P3 H3 P3 (upd H3 p (.tup [v1, v2, v3])) := Step.alloc s3.le np
          have sA := s3.step stA (s3.so.alloc s3.le np)
          have h1' := h1.step st2
          obtain ⟨P4, s4, sm4, k4⟩ := setR_ok sA ((h1'.step st3).step stA) s.st.dom s.live e1
          obtain ⟨P5, s5, sm5, k5⟩ := setR_ok s4 (((h2.step st3).step stA).up sm4 k4 h1.here) s1.st.dom (s1.live.set s1.ln e1 h1.here) e2
          obtain ⟨P6, s6, sm6, k6⟩ := setR_ok s5 (((h3.step stA).up sm4 k4 h1'.here).up sm5 k5 h2.here) s2.st.dom ((s2.live.set s2.ln e1 h1'.here).set (by rw [List.length_set, ← par3_top.setR_len e1]; exact s2.ln) e2 h2.here) e3
          exact ⟨v1, [v2, v3], rfl, v2, [v3], rfl, v3, [], rfl, rfl, q3 P6 _ _ (st1.pp.trans (st2.pp.trans (st3.pp.trans (sm4.trans (sm5.trans sm6))))) s6⟩
end
end Pv

set_option Elab.async false
set_option linter.all false
set_option maxRecDepth 100000
namespace Pv
open PySem PySem.Spec PyProof.Rows L2

section
variable {X : Cx} {c : Cc} {P H P1 H1 : Hp} {env : SEnv} {σ : L2.St} {S S1 : Sto} {x y z : Ex} {pos : Pos} {e tgt : Expr}
/-! ### a dict or list of one's own, locked while it is walked -/
def lockX (i : Nat) (x : Ex) : Ex := fun env S => match sget env i with
  | .own d => nox (x (env.set i (.lk d)) S)
  | _ => .bad
theorem isOwn_lk {i j : Nat} {d : D} (h : (sget (env.set i (.lk d)) j).isOwn = true) (hi : (sget env i).isOwn = true) : (sget env j).isOwn = true := by
  by_cases hj : i = j
  · subst hj; exact hi
  · rw [sget_set_ne hj] at h; exact h
theorem Stt.lock {i : Nat} {d : D} {a : Addr} {u od} (s : Stt c P H env σ S) (q : sget env i = .own d) (e : σ[i]? = some (some (.ref a))) (hu : H a = some u) (hp : P a = none) (h0 : c.H0 a = none) (r : Root c.K c.G P H d a) : Stt c P (upd H a (.frz od u)) (env.set i (.lk d)) σ S := by
  have hi : i < env.length := by
    rcases Nat.lt_or_ge i env.length with h | h
    · exact h
    · unfold sget at q; rw [List.getD_eq_getElem?_getD, List.getElem?_eq_none h] at q; cases q
  have ho : (sget env i).isOwn = true := by rw [q]; rfl
  refine ⟨s.st.wr h0 hp (by rw [hu]; exact fun z => nomatch z), s.r0, s.so.wr (s.r0 a h0), by rw [List.length_set]; exact s.ln, fun j => ?_, fun j k b e1 e2 e3 e4 => s.dj j k b (isOwn_lk e1 ho) (isOwn_lk e2 ho) e3 e4⟩
  by_cases hj : i = j
  · subst hj
    rw [sget_set_self hi]
    exact ⟨a, od, u, e, hp, h0, upd_same, r.mono (Same.refl P) fun w hw => by rw [hu] at hw; cases hw; exact upd_same⟩
  · rw [sget_set_ne hj]
    have sl := s.sl j
    have ne : ∀ b, (sget env j).isOwn = true → σ[j]? = some (some (.ref b)) → b ≠ a := fun b ob eb z => hj (s.dj i j a ho ob e (by rw [← z]; exact eb))
    cases qj : sget env j with
    | un => trivial
    | sh d => rw [qj] at sl; exact sl
    | ref m => rw [qj] at sl; exact sl
    | own d2 =>
      rw [qj] at sl ne
      obtain ⟨b, eb, hpb, h0b, rb⟩ := sl
      have nb := ne b rfl eb
      exact ⟨b, eb, hpb, h0b, rb.mono (Same.refl P) fun w hw => by rw [upd_ne nb]; exact hw⟩
    | lk d2 =>
      rw [qj] at sl ne
      obtain ⟨b, od2, w, eb, hpb, h0b, hf, rb⟩ := sl
      have nb := ne b rfl eb
      exact ⟨b, od2, w, eb, hpb, h0b, by rw [upd_ne nb]; exact hf, rb.mono (Same.refl P) fun w' hw => by rw [upd_same] at hw ⊢; exact hw⟩
theorem lock_top {i : Nat} : ∀ σ H Q, TEx c (lockX i x) σ H Q → tLockE (TEx c x) σ H Q := fun σ H Q ⟨P, env, S, s, h⟩ => by
  unfold lockX at h
  cases q : sget env i with
  | own d =>
    rw [q] at h
    have sl := s.sl i
    rw [q] at sl
    obtain ⟨a, e, hp, h0, r⟩ := sl
    obtain ⟨u, hu, mu⟩ := r.there
    have na : a ∉ c.ρ := s.r0 a h0
    refine ⟨a, u, hu, mu, fun od => ⟨P, env.set i (.lk d), S, s.lock q e hu hp h0 r, post_mono (nox_post (E' := EF) h) (fun r1 S1 q1 v P1 H1 st so rr => ?_) fun _ _ _ q => q.elim⟩⟩
    obtain ⟨k1, k2⟩ := own_kept s.r0 st h0 hp upd_same (fun xs z => nomatch z)
    refine ⟨k2, q1 v P1 (upd H1 a u) ⟨fun b w eb => ?_, st.pp, fun b w eb nb => ?_, fun b eb => ?_, fun b w nb pb eb tb => ?_, st.cel⟩ (so.wr na) ?_⟩
    · have ne : b ≠ a := fun z => by subst z; rw [k1] at eb; cases eb
      rw [upd_ne ne]; exact st.le b w eb
    · by_cases z : b = a
      · subst z; rw [hu] at eb; cases eb; exact upd_same
      · rw [upd_ne z]; exact st.hh b w (by rw [upd_ne z]; exact eb) nb
    · have ne : b ≠ a := fun z => by subst z; rw [upd_same] at eb; cases eb
      rw [upd_ne ne] at eb
      have := st.dom b eb
      rw [upd_ne ne] at this; exact this
    · by_cases z : b = a
      · subst z; exact k1
      · exact st.new b w nb pb (by rw [upd_ne z]; exact eb) tb
    · unfold RepR at rr ⊢
      split at rr
      · rename_i hf
        rw [if_pos hf]
        obtain ⟨b, eb, n1, n2, ro⟩ := rr
        have ne : b ≠ a := fun z => by subst z; rw [upd_same] at n1; cases n1
        rw [upd_ne ne] at n1
        exact ⟨b, eb, n1, n2, ro.mono (Same.refl _) fun w hw => by rw [upd_ne ne]; exact hw⟩
      · rename_i hf
        rw [if_neg hf]; exact rr
  | _ => rw [q] at h; exact h.elim
theorem pd_lock (i : Nat) (h : PE X e (TEx c x)) : PE X e (TEx c (lockX i x)) := pe_imp (pe_lock h) lock_top
/-! ### .. its keys -/
def keyD : Key → D
  | .inl i => .int i
  | .inr s => .str s
def keysD : D → Option (List D)
  | .dK l => some (l.map fun p => keyD p.1)
  | .dT l => some (l.map fun p => .tup (p.1.map keyD))
  | _ => none
def iKey (i : Nat) : Ix := fun env S => match sget env i with
  | .lk d => (match keysD d with
    | some l => .ok l S
    | none => .bad)
  | _ => .bad
theorem key_rep (k : Key) : Rep c.K c.G P (keyD k) (kV k) := by
  cases k with
  | inl i => exact .int i
  | inr s => exact .str s
theorem keys_rep : ∀ l : List Key, Reps c.K c.G P (l.map keyD) (l.map kV)
  | [] => .nil
  | k :: l => .cons (key_rep k) (keys_rep l)
theorem RepK.getk {K : PySem.W.Frag} {G : Nat → Option (Addr × List Str)} : ∀ {l : List (Key × D)} {kvs : List (Key × V)} {i : Nat} {k : Key} {v : V}, RepK K G P l kvs → kvs[i]? = some (k, v) → ∃ d, l[i]? = some (k, d) ∧ Rep K G P d v
  | _, _, _, _, _, .nil, e => by simp at e
  | _, _, 0, _, _, .cons h r, e => by simp at e; obtain ⟨rfl, rfl⟩ := e; exact ⟨_, rfl, h⟩
  | _, _, i + 1, _, _, .cons h r, e => by
    obtain ⟨d, h1, h2⟩ := RepK.getk (i := i) r (by simpa using e)
    exact ⟨d, by simpa using h1, h2⟩
theorem RepT.getk {K : PySem.W.Frag} {G : Nat → Option (Addr × List Str)} : ∀ {l : List (List Key × D)} {kvs : List (List Key × V)} {i : Nat} {k : List Key} {v : V}, RepT K G P l kvs → kvs[i]? = some (k, v) → ∃ d, l[i]? = some (k, d) ∧ Rep K G P d v
  | _, _, _, _, _, .nil, e => by simp at e
  | _, _, 0, _, _, .cons h r, e => by simp at e; obtain ⟨rfl, rfl⟩ := e; exact ⟨_, rfl, h⟩
  | _, _, i + 1, _, _, .cons h r, e => by
    obtain ⟨d, h1, h2⟩ := RepT.getk (i := i) r (by simpa using e)
    exact ⟨d, by simpa using h1, h2⟩
/-- the key's own tuple is laid for good -/
theorem tup_here {q : Addr} {k : List Key} (le : Le P H) (so : StoOk c.K c.G c.ρ P H S) (e : H q = some (.tup (k.map kV))) : ∃ P', Step c.ρ P H P' H ∧ StoOk c.K c.G c.ρ P' H S ∧ Rep c.K c.G P' (.tup (k.map keyD)) (.ref q) := by
  have nq : q ∉ c.ρ := fun m => by
    obtain ⟨_, u, hu, mu⟩ := so.mem m
    rw [e] at hu; cases hu; exact mu
  have st := Step.tup (ρ := c.ρ) le nq e
  exact ⟨upd P q (.tup (k.map kV)), st, so.step st fun a m u h => h, .tup upd_same (keys_rep k)⟩
theorem ti_key (i : Nat) {nm : Str} {p : Pos} (hN : X.N[i]? = some nm) (hv : Vis X.env.scope nm) (hd : (nm == ("__debug__" : Str)) = false) (hcd : (nm == ("__classdict__" : Str)) = false) : PI X tgt (.Name nm p) (TIe c (iKey i)) :=
  pi_imp (pi_keys (pe_var hN hv hd hcd)) fun σ H R ⟨P, env, S, s, h⟩ => by
    unfold iKey at h
    have sl := s.sl i
    cases q : sget env i with
    | lk d =>
      rw [q] at h sl
      obtain ⟨a, od, u, e, hp, h0, hf, r⟩ := sl
      refine ⟨.ref a, e, a, od, rfl, ?_⟩
      cases r with
      | lst _ _ => exact h.elim
      | @dK _ kvs l hk rk =>
        rw [upd_same] at hk
        cases hk
        refine .inl ⟨_, hf, h _ P H (Step.refl s.le) s.so ⟨?_⟩⟩
        have w0 := walk_keys (d := a) (o := od) (kvs := kvs)
        rw [show kvs.length = (l.map fun p => keyD p.1).length by rw [List.length_map, rk.length]] at w0
        refine w0.mono (fun H' ⟨P', st⟩ => (own_kept s.r0 st h0 hp hf fun xs z => nomatch z).2) fun n H' x H2 hn _ ⟨eH, k, v, ek, ex⟩ => ?_
        subst eH ex
        obtain ⟨d, e1, _⟩ := rk.getk ek
        exact ⟨keyD k, by rw [List.getElem?_map, e1]; rfl, fun P2 S2 sm le so => ⟨P2, Step.refl le, so, key_rep k⟩⟩
      | @dT _ kvs l hk rk =>
        rw [upd_same] at hk
        cases hk
        refine .inr ⟨_, hf, h _ P H (Step.refl s.le) s.so ⟨?_⟩⟩
        have w0 := walk_keysT (d := a) (o := od) (kvs := kvs)
        rw [show kvs.length = (l.map fun p => D.tup (p.1.map keyD)).length by rw [List.length_map, rk.length]] at w0
        refine w0.mono (fun H' ⟨P', st⟩ => (own_kept s.r0 st h0 hp hf fun xs z => nomatch z).2) fun n H' x H2 hn _ ⟨eH, k, v, qa, ek, ex, et⟩ => ?_
        subst eH ex
        obtain ⟨d, e1, _⟩ := rk.getk ek
        exact ⟨.tup (k.map keyD), by rw [List.getElem?_map, e1]; rfl, fun P2 S2 sm le so => tup_here le so et⟩
    | _ => rw [q] at h; exact h.elim
end
end Pv

set_option Elab.async false
set_option linter.all false
set_option maxRecDepth 100000
namespace Pv
open PySem PySem.Spec PyProof.Rows L2

/-! ### name[k] = e -/
def putX (d k v : D) : Option D := match d with
  | .lst l => (match k with
    | .int j => (ixN l.length j).map fun m => .lst (l.set m v)
    | _ => none)
  | .dK l => if l.length < line then (keyOf k).map fun kk => .dK (putD l kk v) else none
  | .dT l => if l.length < line then (tkey k).map fun kk => .dT (putD l kk v) else none
  | _ => none
def putSlot (i : Nat) (k v : D) (env : SEnv) (S : Sto) : Out Fl := match sget env i with
  | .own d => (match putX d k v with
    | some d' => .ok (.nx (env.set i (.own d'))) S
    | none => .bad)
  | .ref n => (match S[n]? with
    | some d => (match putX d k v with
      | some d' => .ok (.nx env) (S.set n d')
      | none => .bad)
    | none => .bad)
  | _ => .bad
def storeS (i : Nat) (k e : Ex) : Sx := fun env S => (e env S).bind fun v S => match peek env S i with
  | none => .bad
  | some _ => (k env S).bind fun b S => putSlot i b.d v.d env S
def rSt : V → V → V → Hp → (Hp → Prop) → Prop := fun o i v H Q => rSetL o i v H Q ∨ ∃ a H', o = .ref a ∧ DPut H a i v H' ∧ Q H'
section
variable {X : Cx} {c : Cc} {P H P1 H1 : Hp} {env : SEnv} {σ : L2.St} {S S1 : Sto} {x y z : Ex} {pos : Pos} {e : Expr}
theorem set_any (hu : X.A.units + 65 < cLine) : PSet X rSt := by
  intro pins s σ H o i v ov iv u Q I ro ri rv h
  rcases h with h | ⟨a, H', eo, g, q⟩
  · exact set_list pins s σ H o i v ov iv u Q I ro ri rv h
  · subst eo
    cases (show ov = Value.ref a from ro)
    exact d_setItem (by omega) I g ri rv fun s' I' => ⟨H', I', q⟩
theorem rep_putK {k : Key} {d : D} {v : V} (rd : Rep c.K c.G P d v) : ∀ {l : List (Key × D)} {kvs : List (Key × V)}, RepK c.K c.G P l kvs → RepK c.K c.G P (putD l k d) (putK kvs k v) := by
  have any : ∀ {l : List (Key × D)} {kvs : List (Key × V)}, RepK c.K c.G P l kvs → (l.any fun p => decide (p.1 = k)) = (kvs.any fun p => decide (p.1 = k)) := fun {l} => by
    induction l with
    | nil => intro kvs r; cases r; rfl
    | cons p l ih =>
      intro kvs r
      cases r with
      | cons r1 r2 => rw [List.any_cons, List.any_cons, ih r2]
  have rpl : ∀ {l : List (Key × D)} {kvs : List (Key × V)}, RepK c.K c.G P l kvs → RepK c.K c.G P (l.map fun p => if p.1 = k then (p.1, d) else p) (kvs.map fun p => if p.1 = k then (p.1, v) else p) := fun {l} => by
    induction l with
    | nil => intro kvs r; cases r; exact .nil
    | cons p l ih =>
      intro kvs r
      cases r with
      | @cons k1 d1 v1 _ _ r1 r2 =>
        rw [List.map_cons, List.map_cons]
        by_cases e : k1 = k
        · rw [if_pos e, if_pos e]; exact .cons rd (ih r2)
        · rw [if_neg e, if_neg e]; exact .cons r1 (ih r2)
  have snoc : ∀ {l : List (Key × D)} {kvs : List (Key × V)}, RepK c.K c.G P l kvs → RepK c.K c.G P (l ++ [(k, d)]) (kvs ++ [(k, v)]) := fun {l} => by
    induction l with
    | nil => intro kvs r; cases r; exact .cons rd .nil
    | cons p l ih =>
      intro kvs r
      cases r with
      | cons r1 r2 => exact .cons r1 (ih r2)
  intro l kvs r
  unfold putD putK
  rw [any r]
  by_cases e : (kvs.any fun p => decide (p.1 = k)) = true
  · rw [if_pos e, if_pos e]; exact rpl r
  · rw [if_neg e, if_neg e]; exact snoc r
theorem root_put {d k v d' : D} {a : Addr} {kv vv : V} (le : Le P H) (r : Root c.K c.G P H d a) (rk : Rep c.K c.G P k kv) (rv : Rep c.K c.G P v vv) (e : putX d k v = some d') : ∃ u, Root c.K c.G P (upd H a u) d' a ∧ ∀ Q : Hp → Prop, Q (upd H a u) → rSt (.ref a) kv vv H Q := by
  cases r with
  | @lst _ xs l h rl =>
    cases rk with
    | int j =>
      obtain ⟨m, e1, e2⟩ := Option.map_eq_some_iff.mp (show (ixN l.length j).map _ = some d' from e)
      subst e2
      exact ⟨.lst (xs.set m vv), .lst upd_same (rl.set rv m), fun Q q => .inl ⟨a, xs, j, m, rfl, rfl, h, by rw [← rl.length]; exact e1, q⟩⟩
    | _ => cases e
  | @dK _ kvs l h rl =>
    simp only [putX] at e
    split at e
    · rename_i hl
      obtain ⟨kk, e1, e2⟩ := Option.map_eq_some_iff.mp e
      subst e2
      rw [keyOf_rep e1 rk]
      exact ⟨.dK (putK kvs kk vv), .dK upd_same (rep_putK rv rl), fun Q q => .inr ⟨a, _, rfl, DPut.k h (by rw [← rl.length, ← line_eq]; exact hl), q⟩⟩
    · cases e
  | @dT _ kvs l h rl =>
    simp only [putX] at e
    split at e
    · rename_i hl
      obtain ⟨kk, e1, e2⟩ := Option.map_eq_some_iff.mp e
      subst e2
      obtain ⟨b, rfl, hb⟩ := tkey_rep e1 rk le
      exact ⟨.dT (putK kvs kk vv), .dT upd_same (rep_putT rv rl), fun Q q => .inr ⟨a, _, rfl, DPut.t h (le.tup hb) (by rw [← rl.length, ← line_eq]; exact hl), q⟩⟩
    · cases e
theorem Stt.wrOwn {i : Nat} {d d' : D} {a : Addr} {u : HO} (s : Stt c P H env σ S) (q : sget env i = .own d) (e : σ[i]? = some (some (.ref a))) (hu : H a ≠ none) (hp : P a = none) (h0 : c.H0 a = none) (r : Root c.K c.G P (upd H a u) d' a) : Stt c P (upd H a u) (env.set i (.own d')) σ S := by
  have hi : i < env.length := by
    rcases Nat.lt_or_ge i env.length with h | h
    · exact h
    · unfold sget at q; rw [List.getD_eq_getElem?_getD, List.getElem?_eq_none h] at q; cases q
  have ho : (sget env i).isOwn = true := by rw [q]; rfl
  have io : ∀ {j : Nat}, (sget (env.set i (.own d')) j).isOwn = true → (sget env j).isOwn = true := fun {j} h => by
    by_cases hj : i = j
    · subst hj; exact ho
    · rw [sget_set_ne hj] at h; exact h
  refine ⟨s.st.wr h0 hp hu, s.r0, s.so.wr (s.r0 a h0), by rw [List.length_set]; exact s.ln, fun j => ?_, fun j k b e1 e2 e3 e4 => s.dj j k b (io e1) (io e2) e3 e4⟩
  by_cases hj : i = j
  · subst hj
    rw [sget_set_self hi]
    exact ⟨a, e, hp, h0, r⟩
  · rw [sget_set_ne hj]
    have sl := s.sl j
    have ne : ∀ b, (sget env j).isOwn = true → σ[j]? = some (some (.ref b)) → b ≠ a := fun b ob eb z => hj (s.dj i j a ho ob e (by rw [← z]; exact eb))
    cases qj : sget env j with
    | un => trivial
    | sh d => rw [qj] at sl; exact sl
    | ref m => rw [qj] at sl; exact sl
    | own d2 =>
      rw [qj] at sl ne
      obtain ⟨b, eb, hpb, h0b, rb⟩ := sl
      have nb := ne b rfl eb
      exact ⟨b, eb, hpb, h0b, rb.mono (Same.refl P) fun w hw => by rw [upd_ne nb]; exact hw⟩
    | lk d2 =>
      rw [qj] at sl ne
      obtain ⟨b, od2, w, eb, hpb, h0b, hf, rb⟩ := sl
      have nb := ne b rfl eb
      exact ⟨b, od2, w, eb, hpb, h0b, by rw [upd_ne nb]; exact hf, rb.mono (Same.refl P) fun w' hw => by rw [upd_same] at hw ⊢; exact hw⟩
theorem Stt.wrRef {n : Nat} {d' : D} {a : Addr} {u : HO} (s : Stt c P H env σ S) (hr : c.ρ[n]? = some a) (hn : n < S.length) (r : Root c.K c.G P (upd H a u) d' a) : Stt c P (upd H a u) env σ (S.set n d') := by
  have ha : a ∈ c.ρ := List.mem_of_getElem? hr
  obtain ⟨hp, u0, hu, _⟩ := s.so.mem ha
  have own : ∀ {b}, c.H0 b = none → b ≠ a := fun {b} hb z => s.r0 b hb (by rw [z]; exact ha)
  refine ⟨⟨fun b w e => ?_, s.st.pp, fun b w e nb => ?_, fun b e => ?_, s.st.new, s.st.cel⟩, s.r0, ⟨by rw [List.length_set]; exact s.so.len, s.so.nd, fun m d e => ?_⟩, s.ln, fun i => ?_, s.dj⟩
  · have ne : b ≠ a := fun z => by subst z; rw [hp] at e; cases e
    rw [upd_ne ne]; exact s.le b w e
  · have ne : b ≠ a := fun z => nb (by rw [z]; exact ha)
    rw [upd_ne ne]; exact s.st.hh b w e nb
  · have ne : b ≠ a := fun z => by subst z; rw [upd_same] at e; cases e
    rw [upd_ne ne] at e; exact s.st.dom b e
  · by_cases hm : n = m
    · subst hm
      rw [List.getElem?_set_self hn] at e
      cases e
      exact ⟨a, hr, hp, r⟩
    · rw [List.getElem?_set_ne hm] at e
      obtain ⟨b, hb, pb, rb⟩ := s.so.at_ m d e
      have ne : b ≠ a := fun z => by
        subst z
        exact hm ((List.getElem?_inj (List.getElem?_eq_some_iff.mp hr).1 s.so.nd).mp (hr.trans hb.symm))
      exact ⟨b, hb, pb, rb.mono (Same.refl P) fun w hw => by rw [upd_ne ne]; exact hw⟩
  · have sl := s.sl i
    cases q : sget env i with
    | un => trivial
    | sh d => rw [q] at sl; exact sl
    | ref m => rw [q] at sl; exact sl
    | own d2 =>
      rw [q] at sl
      obtain ⟨b, eb, hpb, h0b, rb⟩ := sl
      exact ⟨b, eb, hpb, h0b, rb.mono (Same.refl P) fun w hw => by rw [upd_ne (own h0b)]; exact hw⟩
    | lk d2 =>
      rw [q] at sl
      obtain ⟨b, od2, w, eb, hpb, h0b, hf, rb⟩ := sl
      exact ⟨b, od2, w, eb, hpb, h0b, by rw [upd_ne (own h0b)]; exact hf, rb.mono (Same.refl P) fun w' hw => by rw [upd_same] at hw ⊢; exact hw⟩
/-- the slot's own list or dict takes the item -/
theorem put_ok {i : Nat} {k v : D} {kv vv o : V} {D0 : Ends} (s : Stt c P H env σ S) (eo : σ[i]? = some (some o)) (rk : Rep c.K c.G P k kv) (rv : Rep c.K c.G P v vv) (h : (putSlot i k v env S).post (QF c P D0) (XP c c.P0 c.H0)) : rSt o kv vv H fun H' => D0.nx σ H' := by
  unfold putSlot at h
  have sl := s.sl i
  cases q : sget env i with
  | own d =>
    rw [q] at h sl
    obtain ⟨a, e, hp, h0, r⟩ := sl
    rw [eo] at e; cases e
    dsimp only at h
    cases q2 : putX d k v with
    | none => rw [q2] at h; exact h.elim
    | some d' =>
      rw [q2] at h
      obtain ⟨u, r2, w⟩ := root_put s.le r rk rv q2
      obtain ⟨u0, hu0, _⟩ := r.there
      exact w _ (h P _ σ (Same.refl P) (s.wrOwn q eo (by rw [hu0]; exact fun z => nomatch z) hp h0 r2))
  | ref n =>
    rw [q] at h sl
    obtain ⟨a, e, hr⟩ := sl
    rw [eo] at e; cases e
    dsimp only at h
    cases q1 : S[n]? with
    | none => rw [q1] at h; exact h.elim
    | some d =>
      rw [q1] at h
      dsimp only at h
      cases q2 : putX d k v with
      | none => rw [q2] at h; exact h.elim
      | some d' =>
        rw [q2] at h
        obtain ⟨b, hb, pb, r⟩ := s.so.at_ n d q1
        rw [hr] at hb; cases hb
        obtain ⟨u, r2, w⟩ := root_put s.le r rk rv q2
        exact w _ (h P _ σ (Same.refl P) (s.wrRef hr (List.getElem?_eq_some_iff.mp q1).1 r2))
  | _ => rw [q] at h; exact h.elim
theorem store_top {i : Nat} : ∀ D σ H, TSx c (storeS i y x) D σ H → tAsg (TEx c x) (gSub (tVar i) (TEx c y) rSt) D σ H := fun D σ H ⟨P, env, S, s, h⟩ =>
  te_in s h fun r S1 v P1 H1 st1 s1 rp h1 => by
    cases q : peek env S1 i with
    | none => rw [q] at h1; exact h1.elim
    | some d0 =>
      rw [q] at h1
      obtain ⟨o, eo, _⟩ := s1.slot q
      refine ⟨o, eo, te_in s1 h1 fun r2 S2 w P2 H2 st2 s2 rp2 h2 => ?_⟩
      refine put_ok s2 eo rp2 (rp.mono st2.pp) (post_mono h2 (fun fl S3 q3 => q3.step (st1.pp.trans st2.pp)) fun _ _ _ q => q)
theorem sx_store {k : Expr} {nm : Str} {p p2 : Pos} (i : Nat) (hu : X.A.units + 65 < cLine) (hN : X.N[i]? = some nm) (hv : Vis X.env.scope nm) (hd : (nm == ("__debug__" : Str)) = false) (hcd : (nm == ("__classdict__" : Str)) = false) (hk : PE X k (TEx c y)) (he : PE X e (TEx c x))
    (hs : swapsWithSole [.Subscript (.Name nm p) k p2] e pos.line X.env = pure false) (hw : swappedStores [.Subscript (.Name nm p) k p2] e X.env = pure none)
    (ha : ∀ v, assign (.Subscript (.Name nm p) k p2) X.env v = (do
      let ov ← holding [v] (eval (.Name nm p) X.env)
      let iv ← holding [v, ov] (eval k X.env)
      standAt p2
      holding [v, ov, iv] (setItem ov iv v)
      release [v, ov, iv] [])) : PS X (.Assign [.Subscript (.Name nm p) k p2] e pos) (TSx c (storeS i y x)) :=
  ps_imp (ps_asg he (pg_sub (pe_var hN hv hd hcd) hk (set_any hu) ha) hs hw rfl) store_top
end
end Pv

set_option Elab.async false
set_option linter.all false
set_option maxRecDepth 100000
namespace Pv
open PySem PySem.Spec PyProof.Rows L2

section
variable {X : Cx} {c : Cc} {P H P1 H1 : Hp} {env : SEnv} {σ : L2.St} {S S1 : Sto} {x y z : Ex} {pos : Pos} {e1 e2 e3 : Expr} {n1 n2 n3 : Str} {p1 p2 p3 q1 q2 : Pos} {k1 k2 : Nat}
/-- a, b = x, y of plain locals -/
theorem sx_par2 {i j : Nat} {f g : Bool} (hc : X.calm = true) (hN : X.N.Nodup) (hi : X.N[i]? = some n1) (hj : X.N[j]? = some n2) (hij : i ≠ j) (hx : X.env.scope.names.lookup n1 = some .local) (hy : X.env.scope.names.lookup n2 = some .local) (ha : PE X e1 (TEx c x)) (hb : PE X e2 (TEx c y))
    (s1 : starEach [e1, e2] X.env = (false, eval e1 X.env) :: starEach [e2] X.env) (s2 : starEach [e2] X.env = (false, eval e2 X.env) :: starEach [] X.env) (hw : swappedStores [.Tuple [.Name n1 p1, .Name n2 p2] k1 q1] (.Tuple [e1, e2] k2 q2) X.env = pure (some [n1, n2]))
    (hs : swapsWithSole [.Tuple [.Name n1 p1, .Name n2 p2] k1 q1] (.Tuple [e1, e2] k2 q2) pos.line X.env = pure false) : PS X (.Assign [.Tuple [.Name n1 p1, .Name n2 p2] k1 q1] (.Tuple [e1, e2] k2 q2) pos) (TSx c (par2 i f j g x y)) :=
  ps_imp (ps_par hc hN hi hj hij hx hy (pa_cons ha (pa_cons hb pa_nil s2) s1) hw hs) par2_top
theorem sx_par3 {i j l : Nat} {f g h : Bool} (hc : X.calm = true) (hN : X.N.Nodup) (hi : X.N[i]? = some n1) (hj : X.N[j]? = some n2) (hl : X.N[l]? = some n3) (hij : i ≠ j) (hil : i ≠ l) (hjl : j ≠ l) (hx : X.env.scope.names.lookup n1 = some .local) (hy : X.env.scope.names.lookup n2 = some .local) (hz : X.env.scope.names.lookup n3 = some .local)
    (ha : PE X e1 (TEx c x)) (hb : PE X e2 (TEx c y)) (hd : PE X e3 (TEx c z)) (s1 : starEach [e1, e2, e3] X.env = (false, eval e1 X.env) :: starEach [e2, e3] X.env) (s2 : starEach [e2, e3] X.env = (false, eval e2 X.env) :: starEach [e3] X.env) (s3 : starEach [e3] X.env = (false, eval e3 X.env) :: starEach [] X.env)
    (hw : swappedStores [.Tuple [.Name n1 p1, .Name n2 p2, .Name n3 p3] k1 q1] (.Tuple [e1, e2, e3] k2 q2) X.env = pure (some [n1, n2, n3])) (hs : swapsWithSole [.Tuple [.Name n1 p1, .Name n2 p2, .Name n3 p3] k1 q1] (.Tuple [e1, e2, e3] k2 q2) pos.line X.env = pure false) :
    PS X (.Assign [.Tuple [.Name n1 p1, .Name n2 p2, .Name n3 p3] k1 q1] (.Tuple [e1, e2, e3] k2 q2) pos) (TSx c (par3 i f j g l h x y z)) :=
  ps_imp (ps_par3 hc hN hi hj hl hij hil hjl hx hy hz (pa_cons ha (pa_cons hb (pa_cons hd pa_nil s3) s2) s1) hw hs) par3_top
theorem len2 {vs : List V} (h : vs.length = 2) : vs.length ≤ sizeLine := by rw [h]; decide
theorem len3 {vs : List V} (h : vs.length = 3) : vs.length ≤ sizeLine := by rw [h]; decide
/-- .. with the tuple made -/
theorem sx_par2T {i j : Nat} {f g : Bool} {es : List Expr} (hc : X.calm = true) (ha : PE X e1 (TEx c x)) (hb : PE X e2 (TEx c y)) (hg : PGs X es (gNames [i, j])) (hn : (assignEach es X.env).length = 2) (hst : (assignEach es X.env).findIdx? (·.1) = none)
    (s1 : starEach [e1, e2] X.env = (false, eval e1 X.env) :: starEach [e2] X.env) (s2 : starEach [e2] X.env = (false, eval e2 X.env) :: starEach [] X.env) (hs : swapsWithSole [.Tuple es k1 q1] (.Tuple [e1, e2] k2 q2) pos.line X.env = pure false) (hw : swappedStores [.Tuple es k1 q1] (.Tuple [e1, e2] k2 q2) X.env = pure none)
    (h1 : (assignEach [.Tuple es k1 q1] X.env).map (·.2) = [assign (.Tuple es k1 q1) X.env]) : PS X (.Assign [.Tuple es k1 q1] (.Tuple [e1, e2] k2 q2) pos) (TSx c (par2 i f j g x y)) :=
  ps_imp (ps_asg (pe_tup (pa_cons ha (pa_cons hb pa_nil s2) s1)) (pg_tup hc hg hn hst) hs hw h1) fun D σ H h =>
    tex_mono (par2T_top (pp := fun _ _ => True) D σ H h) fun v1 H1 q => tex_mono q fun v2 H2 ⟨l, w⟩ => ⟨len2 l, fun p np => ⟨p, _, rfl, .inl (.inl upd_same), l, w p np⟩⟩
theorem sx_par3T {i j l : Nat} {f g h : Bool} {es : List Expr} (hc : X.calm = true) (ha : PE X e1 (TEx c x)) (hb : PE X e2 (TEx c y)) (hd : PE X e3 (TEx c z)) (hg : PGs X es (gNames [i, j, l])) (hn : (assignEach es X.env).length = 3) (hst : (assignEach es X.env).findIdx? (·.1) = none)
    (s1 : starEach [e1, e2, e3] X.env = (false, eval e1 X.env) :: starEach [e2, e3] X.env) (s2 : starEach [e2, e3] X.env = (false, eval e2 X.env) :: starEach [e3] X.env) (s3 : starEach [e3] X.env = (false, eval e3 X.env) :: starEach [] X.env) (hs : swapsWithSole [.Tuple es k1 q1] (.Tuple [e1, e2, e3] k2 q2) pos.line X.env = pure false) (hw : swappedStores [.Tuple es k1 q1] (.Tuple [e1, e2, e3] k2 q2) X.env = pure none)
    (h1 : (assignEach [.Tuple es k1 q1] X.env).map (·.2) = [assign (.Tuple es k1 q1) X.env]) : PS X (.Assign [.Tuple es k1 q1] (.Tuple [e1, e2, e3] k2 q2) pos) (TSx c (par3 i f j g l h x y z)) :=
  ps_imp (ps_asg (pe_tup (pa_cons ha (pa_cons hb (pa_cons hd pa_nil s3) s2) s1)) (pg_tup hc hg hn hst) hs hw h1) fun D σ H w =>
    tex_mono (par3T_top D σ H w) fun v1 H1 q => tex_mono q fun v2 H2 q => tex_mono q fun v3 H3 ⟨l, w⟩ => ⟨len3 l, fun p np => ⟨p, _, rfl, .inl (.inl upd_same), l, w p np⟩⟩
/-- a name takes a value -/
theorem sx_set {i : Nat} {pt : Pos} (hN : X.N.Nodup) (hi : X.N[i]? = some n1) (hx : Loc X.env.scope n1) (he : PE X e1 (TEx c x)) (hs : swapsWith e1 (some (.Name n1 pt)) pos.line X.env = pure false) (hf : X.fn n1 = true ∨ X.env.scope.names.lookup n1 = some .local) : PS X (.Assign [.Name n1 pt] e1 pos) (TSx c (setS i x)) :=
  ps_imp (ps_set hN hi hx he hs hf) set_top
theorem sx_setO {i : Nat} {pt : Pos} (hN : X.N.Nodup) (hi : X.N[i]? = some n1) (hx : Loc X.env.scope n1) (he : PE X e1 (TEx c x)) (hs : swapsWith e1 (some (.Name n1 pt)) pos.line X.env = pure false) (hf : X.fn n1 = true ∨ X.env.scope.names.lookup n1 = some .local) : PS X (.Assign [.Name n1 pt] e1 pos) (TSx c (setO i x)) :=
  ps_imp (ps_set hN hi hx he hs hf) setO_top
/-- what is not reached -/
def nope : Sx := fun _ _ => .bad
theorem sx_nope {st : Stmt} : PS X st (TSx c nope) := ⟨fun pins s σ H D I ⟨P, env, S, s', h⟩ => h.elim⟩
theorem sxs_nope {st : List Stmt} : PSs X st (TSx c nope) := ⟨fun pins s σ H D I ⟨P, env, S, s', h⟩ => h.elim⟩
/-! ### row = [..]: a list that the callees write to -/
def calmE (env : SEnv) : Bool := env.all fun s => !s.isOwn
def cellS (i : Nat) (x : Ex) (b : Sx) : Sx := fun env S => (x env S).bind fun r S1 => if (r.fr && calmE env) = true then (nox (b (env.set i (.ref S1.length)) (S1 ++ [r.d]))).bind fun fl S2 => match fl with
    | .ret r => .ok (.ret r) (S2.take S1.length)
    | .nx _ => .bad
  else .bad
abbrev Cc.at_ (c : Cc) (ρ : List Addr) (P0 H0 : Hp) : Cc := { c with ρ := ρ, P0 := P0, H0 := H0 }
theorem calm_at (h : calmE env = true) (i : Nat) : (sget env i).isOwn = false := by
  unfold sget
  rw [List.getD_eq_getElem?_getD]
  cases q : env[i]? with
  | none => rfl
  | some s =>
    have := List.all_eq_true.mp h s (List.mem_of_getElem? q)
    simpa using this
theorem StoOk.shrink {K : PySem.W.Frag} {G : Nat → Option (Addr × List Str)} {ρ : List Addr} {a : Addr} (s : StoOk K G (ρ ++ [a]) P H S) {n : Nat} (hn : n = ρ.length) : StoOk K G ρ P H (S.take n) := by
  subst hn
  refine ⟨?_, (List.nodup_append.mp s.nd).1, fun m d e => ?_⟩
  · rw [List.length_take, ← s.len, List.length_append]; simp
  · rw [List.getElem?_take] at e
    split at e
    · rename_i hm
      obtain ⟨b, hb, pb, r⟩ := s.at_ m d e
      exact ⟨b, by rw [List.getElem?_append_left hm] at hb; exact hb, pb, r⟩
    · cases e
theorem Step.shrink {ρ : List Addr} {a : Addr} {P0 H0 P2 H2 : Hp} (st : Step ρ P0 H0 P H) (n0 : H0 a = none) (st2 : Step (ρ ++ [a]) P H P2 H2) (sh : ∀ b ∈ ρ, P b = none → P2 b = none) : Step ρ P0 H0 P2 H2 :=
  ⟨st2.le, st.pp.trans st2.pp, fun b u e nb => st2.hh b u (st.hh b u e nb) (fun m => by
      rcases List.mem_append.mp m with m | m
      · exact nb m
      · rw [List.mem_singleton.mp m, n0] at e; cases e), fun b e => st.dom b (st2.dom b e),
    fun b u nb p e t => st2.new b u (fun m => by
      rcases List.mem_append.mp m with m | m
      · exact nb m
      · rw [List.mem_singleton.mp m, n0] at e; cases e) (st.new b u nb p e t) (st.hh b u e nb) t, fun b m p => sh b m (st.cel b m p)⟩
theorem sx_cell {i : Nat} {st : Stmt} {rest : List Stmt} {b : Sx} (hx : PS X st (tAsg (TEx c x) (gName i))) (hr : ∀ ρ P0 H0, PSs X rest (TSx (c.at_ ρ P0 H0) b)) : PSs X (st :: rest) (TSx c (cellS i x b)) := by
  have h2 : PSs X rest (fun D σ H => ∃ ρ P0 H0, TSx (c.at_ ρ P0 H0) b D σ H) := ⟨fun pins s σ H D I ⟨ρ, P0, H0, w⟩ => (hr ρ P0 H0).run pins s σ H D I w⟩
  refine pss_imp (pss_cons hx h2) fun D σ H ⟨P, env, S, s, h⟩ => ⟨P, env, S, s, post_mono (post_bind.mp h) (fun r S1 q v P1 H1 st so rr => ?_) fun _ _ _ q => q.step s.st⟩
  by_cases hf : (r.fr && calmE env) = true
  · rw [if_pos hf] at q
    obtain ⟨hf1, hf2⟩ := Bool.and_eq_true_iff.mp hf
    unfold RepR at rr
    rw [if_pos hf1] at rr
    obtain ⟨a, rfl, n0, n1, ro⟩ := rr
    have s1 := s.step st so
    have na : a ∉ c.ρ := s.new0 a n0
    obtain ⟨u, hu, mu⟩ := ro.there
    have hl := so.len
    refine ⟨c.ρ ++ [a], P1, H1, P1, env.set i (.ref S1.length), S1 ++ [r.d], ⟨Step.refl s1.le, fun b hb m => ?_, ⟨by rw [List.length_append, List.length_append, hl]; rfl, ?_, fun m d e => ?_⟩, by rw [List.length_set, List.length_set]; exact s.ln, fun j => ?_, fun j k b e1 => ?_⟩, ?_⟩
    · rcases List.mem_append.mp m with m | m
      · exact s1.new0 b hb m
      · have hb2 : H1 b = none := hb
        rw [List.mem_singleton.mp m, hu] at hb2; cases hb2
    · exact List.nodup_append.mpr ⟨so.nd, by simp, fun x hx y hy => by rw [List.mem_singleton.mp hy]; exact fun z => na (by rw [← z]; exact hx)⟩
    · by_cases hm : m < S1.length
      · rw [List.getElem?_append_left hm] at e
        obtain ⟨b, hb, pb, rb⟩ := so.at_ m d e
        exact ⟨b, by rw [List.getElem?_append_left (by rw [hl]; exact hm)]; exact hb, pb, rb⟩
      · rw [List.getElem?_append_right (by omega)] at e
        have hm2 : m = S1.length := by
          cases h3 : m - S1.length with
          | zero => omega
          | succ k => rw [h3] at e; simp at e
        subst hm2
        simp at e
        subst e
        exact ⟨a, by rw [List.getElem?_append_right (by omega), hl]; simp, n1, ro⟩
    · by_cases hj : i = j
      · subst hj
        by_cases hi : i < env.length
        · rw [sget_set_self hi, List.getElem?_set_self (by rw [← s.ln]; exact hi)]
          exact ⟨a, rfl, by rw [List.getElem?_append_right (by omega), hl]; simp⟩
        · have e : sget (env.set i (.ref S1.length)) i = .un := by
            unfold sget
            rw [List.getD_eq_getElem?_getD, List.getElem?_eq_none (by rw [List.length_set]; omega)]; rfl
          rw [e]; trivial
      · rw [sget_set_ne hj, List.getElem?_set_ne hj]
        have sl := s1.sl j
        have cj := calm_at hf2 j
        cases q : sget env j with
        | un => trivial
        | sh d => rw [q] at sl; exact sl
        | ref m =>
          rw [q] at sl
          obtain ⟨b, e, hb⟩ := sl
          exact ⟨b, e, by rw [List.getElem?_append_left (List.getElem?_eq_some_iff.mp hb).1]; exact hb⟩
        | own d => rw [q] at cj; cases cj
        | lk d => rw [q] at cj; cases cj
    · exfalso
      by_cases hj : i = j
      · subst hj
        by_cases hi : i < env.length
        · rw [sget_set_self hi] at e1; cases e1
        · have e : sget (env.set i (.ref S1.length)) i = .un := by
            unfold sget
            rw [List.getD_eq_getElem?_getD, List.getElem?_eq_none (by rw [List.length_set]; omega)]; rfl
          rw [e] at e1; cases e1
      · rw [sget_set_ne hj, calm_at hf2 j] at e1; cases e1
    · refine post_mono (nox_post (E' := EF) (post_bind.mp q)) (fun fl S2 q2 => ?_) fun _ _ _ q => q.elim
      cases fl with
      | nx _ => exact q2.elim
      | ret r2 =>
        intro v P' H' st' so' rr'
        refine (show QF c P D (.ret r2) (S2.take S1.length) from q2) v P' H' (s1.st.shrink (s.st.dom a n0) st' fun b m pb => st'.cel b (List.mem_append_left _ m) pb) (so'.shrink hl.symm) ?_
        exact repR_up s1.st rr'
  · rw [if_neg hf] at q; exact q.elim
end
end Pv

set_option Elab.async false
set_option linter.all false
set_option maxRecDepth 100000
namespace Pv
open PySem PySem.Spec PyProof.Rows L2

section
variable {X : Cx} {c : Cc} {P H P1 H1 : Hp} {env : SEnv} {σ : L2.St} {S S1 : Sto} {x y z : Ex} {pos p : Pos} {a b e : Expr} {es : List Expr} {nm : Str}
/-! ### comparisons as tests -/
theorem tt_te {Q : Bool → Hp → Prop} (h : TTx c x σ H Q) : TEx c x σ H fun v H' => ∃ k, v = .bl k ∧ Q k H' := by
  obtain ⟨P, env, S, s, h⟩ := h
  exact ⟨P, env, S, s, post_mono h (fun r S1 ⟨k, e, w⟩ v P1 H1 st so rr => by subst e; cases rr; exact ⟨k, rfl, w P1 H1 st so⟩) fun _ _ _ q => q⟩
theorem pq_c {op : CmpOp} {r : R2} {ta tb : TE} (ho : OpR X (compareOp op) r) (ha : PE X a ta) (hb : PE X b tb) (hm : behindInMarks op b = false) (top : ∀ σ H Q, TEx c x σ H Q → tOp r ta tb σ H Q) : PT X (.Compare a [op] [b] pos) (TTx c x) :=
  pt_imp (pt_cmpR ho ha hb hm) fun σ H Q h => top σ H _ (tt_te h)
theorem pq_cmp2 {op : CmpOp} {f : D → D → Option R} (ho : OpR X (compareOp op) (rOp2 c f)) (ha : PE X a (TEx c x)) (hb : PE X b (TEx c y)) (hm : behindInMarks op b = false) : PT X (.Compare a [op] [b] pos) (TTx c (op2 f x y)) := pq_c ho ha hb hm op2_top
theorem pq_in {op : CmpOp} {f : D → D → Option R} (ho : OpR X (compareOp op) (rOpR c f)) (ha : PE X a (TEx c x)) (hb : PE X b (TEx c y)) (hm : behindInMarks op b = false) : PT X (.Compare a [op] [b] pos) (TTx c (op2 f x y)) := pq_c ho ha hb hm op2R_top
theorem pq_inV {op : CmpOp} {f : D → D → Option R} (i : Nat) (ho : OpR X (compareOp op) (rOpR c f)) (ha : PE X a (TEx c x)) (hN : X.N[i]? = some nm) (hv : Vis X.env.scope nm) (hd : (nm == ("__debug__" : Str)) = false) (hcd : (nm == ("__classdict__" : Str)) = false) :
    PT X (.Compare a [op] [.Name nm p] pos) (TTx c (inV f x i)) := pq_c ho ha (pe_var hN hv hd hcd) rfl inV_top
theorem pq_kin {A0 : Addr} {tb : List (Key × D)} (t : KTab X.K c.G X.w A0 tb) (hK : X.K = c.K) (hg : Gl X nm) (hm : X.mg nm = some (.ref A0)) (hd : (nm == ("__debug__" : Str)) = false) (he : PE X e (TEx c x)) : PT X (.Compare e [.In] [.Name nm p] pos) (TTx c (op1 (kinD tb) x)) :=
  pq_c (ok_in t hK) he (pe_glob hg hm (show RelV (.ref A0) (.ref A0) from rfl) hd) rfl opK_top
theorem pq_knin {A0 : Addr} {tb : List (Key × D)} (t : KTab X.K c.G X.w A0 tb) (hK : X.K = c.K) (hg : Gl X nm) (hm : X.mg nm = some (.ref A0)) (hd : (nm == ("__debug__" : Str)) = false) (he : PE X e (TEx c x)) : PT X (.Compare e [.NotIn] [.Name nm p] pos) (TTx c (op1 (kninD tb) x)) :=
  pq_c (ok_nin t hK) he (pe_glob hg hm (show RelV (.ref A0) (.ref A0) from rfl) hd) rfl opK_top
theorem pq_chain2 {op op' : CmpOp} {f g : D → D → Option R} {t : Expr} (hf : OpR X (compareOp op) (rOp2 c f)) (hg : OpR X (compareOp op') (rOp2 c g)) (ha : PE X a (TEx c x)) (hb : PE X b (TEx c y)) (ht : PE X t (TEx c z))
    (hm : lastMarks [op, op'] [b, t] = false) (hgb : boolR g) : PT X (.Compare a [op, op'] [b, t] pos) (TTx c (chain f g x y z)) := pq_chain hgb hf hg ha hb ht hm
theorem bool_cmpI (f : Int → Int → Bool) : boolR (cmpI f) := fun a b r h => by
  unfold cmpI at h
  split at h
  · cases h; exact ⟨_, rfl⟩
  · cases h
theorem bool_lt : boolR ltD := fun a b r h => by
  unfold ltD at h
  split at h
  · cases h; exact ⟨_, rfl⟩
  · cases h; exact ⟨_, rfl⟩
  · cases h
/-! ### calls of the program's own defs -/
structure Callee (P : Program) (w : World) (K : PySem.W.Frag) (mg : Str → Option Value) (base : Heap) (G : Nat → Option (Addr × List Str)) (xc : Nat → Value) (k : Nat) (nm : Str) (n : Nat) (cf : List Arg → Sto → Out R) : Prop where
  ex : ∃ (f : Addr) (fd : FuncData) (ps : List Str), FnOk P w K mg base (L2.CX P w) k f fd ps (spF K G xc n cf) ∧ mg nm = some (.ref f) ∧ PySem.W.keepIn K (.ref f) = true ∧ Binds K fd ps []
def LenA (l : Ax) (n : Nat) : Prop := ∀ env S as S1, l env S = .ok as S1 → as.length = n
theorem len_nil : LenA anil 0 := fun env S as S1 h => by cases h; rfl
theorem len_val {l : Ax} {n : Nat} (h : LenA l n) : LenA (aval x l) (n + 1) := fun env S as S1 e => by
  unfold aval at e
  cases q : x env S with
  | ok a S2 =>
    rw [q] at e
    cases q2 : l env S2 with
    | ok bs S3 =>
      simp only [Out.bind, q2] at e
      cases e
      exact congrArg (· + 1) (h env S2 bs _ q2)
    | exc _ _ _ => simp only [Out.bind, q2] at e; cases e
    | bad => simp only [Out.bind, q2] at e; cases e
  | exc _ _ _ => rw [q] at e; cases e
  | bad => rw [q] at e; cases e
theorem len_name {l : Ax} {n : Nat} (i : Nat) (h : LenA l n) : LenA (aname i l) (n + 1) := fun env S as S1 e => by
  unfold aname at e
  cases q : sget env i with
  | sh d =>
    rw [q] at e
    cases q2 : l env S with
    | ok bs S3 =>
      simp only [Out.bind, q2] at e
      cases e
      exact congrArg (· + 1) (h env S bs _ q2)
    | exc _ _ _ => simp only [Out.bind, q2] at e; cases e
    | bad => simp only [Out.bind, q2] at e; cases e
  | ref m =>
    rw [q] at e
    cases q2 : l env S with
    | ok bs S3 =>
      simp only [Out.bind, q2] at e
      cases e
      exact congrArg (· + 1) (h env S bs _ q2)
    | exc _ _ _ => simp only [Out.bind, q2] at e; cases e
    | bad => simp only [Out.bind, q2] at e; cases e
  | _ => rw [q] at e; cases e
theorem pd_call {k n : Nat} {l : Ax} {cf : Nat → List Arg → Sto → Out R} (i : Nat) (hK : X.K = c.K) (C : Callee X.prog X.w X.K X.mg X.base c.G c.xc k nm n (cf i)) (hr : Room k X.A) (px : Passes (L2.CX X.prog X.w) X c.E) (hg : Gl X nm) (hdb : (nm == ("__debug__" : Str)) = false) (ha : PA X (e :: es) (TAx c l)) (hl : LenA l n)
    (he : starEach (e :: es) X.env = (false, eval e X.env) :: starEach es X.env) (hpl : (backTo pos (starEach es X.env)).any (·.1) = false) : PE X (.Call (.Name nm p) (e :: es) [] pos) (TEx c (callX cf i l)) := by
  obtain ⟨f, fd, ps, F, hm, hk, hb⟩ := C.ex
  exact pe_imp (pe_call F hr hg hm hk hb .nil px ha hdb he hpl) (by rw [hK]; exact call_top fun P H env σ S as S1 _ h => hl env S as S1 h)
theorem pd_call0 {k : Nat} {cf : Nat → List Arg → Sto → Out R} (i : Nat) (hK : X.K = c.K) (C : Callee X.prog X.w X.K X.mg X.base c.G c.xc k nm 0 (cf i)) (hr : Room k X.A) (px : Passes (L2.CX X.prog X.w) X c.E) (hg : Gl X nm) (hdb : (nm == ("__debug__" : Str)) = false) : PE X (.Call (.Name nm p) [] [] pos) (TEx c (callX cf i anil)) := by
  obtain ⟨f, fd, ps, F, hm, hk, hb⟩ := C.ex
  refine pe_imp (pe_call0 F hr hg hm hk hb .nil px hdb) fun σ H Q h => ?_
  rw [hK]
  obtain ⟨P, env, S, s, w⟩ := call_top (c := c) (cf := cf) (f := i) (n := 0) (l := anil) (fun P H env σ S as S1 _ h => len_nil env S as S1 h) σ H Q h
  exact w [] P H (Step.refl s.le) s.so .nil
end
/-! ### a def -/
section
variable {P : Program} {w : World} {K : PySem.W.Frag} {mg : Str → Option Value} {base : Heap} {x qual : Str} {params : Arguments} {body : List Stmt} {scope : Scope} {dvs : List V} {kws : List (Str × V)} {f : Addr} {fd : FuncData} {N ps : List Str} {k : Nat}
abbrev XC (P : Program) (w : World) (K : PySem.W.Frag) (mg : Str → Option Value) (base : Heap) (N : List Str) (qual : Str) (scope : Scope) (f : Addr) (cd : Value) (A : Around) (outer : List Env) (s : Shared) (H : Hp) (E : XK) : Cx := cxOf (L2.CX P w) P w K mg base N qual scope f cd A outer s H E
theorem fn_ok {G : Nat → Option (Addr × List Str)} {xc : Nat → Value} {b : Sx} {m n : Nat} (F : FunD K x qual params body scope dvs kws f fd) (Sc : FnScope N ps scope) (hm : N.length = m) (hn : ps.length = n)
    (hb : ∀ (cdv : Value) (A : Around) (outer : List Env) (s : Shared) (H : Hp) (E : XK) (ρ : List Addr) (P0 : Hp), Room k (A.deeper (envOfC qual scope s.heap.objs.size f cdv)) → PSs (XC P w K mg base N qual scope f cdv A outer s H E) body (TSx ⟨K, G, xc, ρ, P0, H, E⟩ b)) :
    FnOk P w K mg base (L2.CX P w) (k + 1) f fd ps (spF K G xc n (runF b m)) := by
  refine F.ok Sc (fun vs H Q E ⟨ρ, P0, S, as, le, so, ra, hl, px⟩ => hl.trans hn.symm) fun cdv A outer s H vs Q E hr ⟨ρ, P0, S, as, le, so, ra, hl, px⟩ => ?_
  refine ⟨TSx ⟨K, G, xc, ρ, P0, H, E⟩ b, hb cdv A outer s H E ρ P0 hr, P0, as.map Arg.sl ++ List.replicate (N.length - as.length) .un, S, start_ok le so ra ?_, ?_⟩
  · have := congrArg List.length Sc.pre
    rw [List.length_take] at this
    omega
  · rw [hm]
    refine post_mono (post_bind.mp (show PX ⟨K, G, xc, ρ, P0, H, E⟩ P0 H Q (runF b m as S) from px)) (fun fl S1 q => ?_) fun _ _ _ q => q
    cases fl with
    | nx env' => exact fun P' H' σ' e st => q .non P' H' st.st st.so (RepR.sh .non)
    | ret r => exact q
/-- nothing is promised -/
theorem fn_bad {G : Nat → Option (Addr × List Str)} {xc : Nat → Value} {n : Nat} (F : FunD K x qual params body scope dvs kws f fd) (Sc : FnScope N ps scope) (hn : ps.length = n) : FnOk P w K mg base (L2.CX P w) 1 f fd ps (spF K G xc n fun _ _ => .bad) :=
  F.ok Sc (fun vs H Q E ⟨ρ, P0, S, as, le, so, ra, hl, px⟩ => hl.trans hn.symm) fun cdv A outer s H vs Q E hr ⟨ρ, P0, S, as, le, so, ra, hl, px⟩ => px.elim
theorem xc_takes {qual : Str} {cdv : Value} {A : Around} {outer : List Env} {s : Shared} {H : Hp} {E : XK} : Passes (L2.CX P w) (XC P w K mg base N qual scope f cdv A outer s H E) E :=
  fun pins σ H' s' e s2 I h => passes_call (X := XC P w K mg base N qual scope f cdv A outer s H E) (takes_of rfl rfl rfl rfl) (fun _ _ _ _ h => h) pins σ H' s' e s2 I h
theorem xc_own {qual : Str} {cdv : Value} {A : Around} {outer : List Env} {s : Shared} {H : Hp} {E : XK} : PassesOwn (model P w) (XC P w K mg base N qual scope f cdv A outer s H E).A (XC P w K mg base N qual scope f cdv A outer s H E).env (XC P w K mg base N qual scope f cdv A outer s H E).xe := passes_of rfl
theorem xc_units {A : Around} (r : Room k A) : A.units + 65 < cLine := by have := r.un; omega
end
/-! ### the names of a comprehension's block, by computing -/
def blkB (N : List Str) (sc scope : Scope) (own : List (Str × Nat)) : Bool :=
  decide (scope.kind = .function) && decide (∀ y ∈ scope.names, scope.names.lookup y.1 = some y.2) && decide (∀ p ∈ own, N[p.2]? = some p.1) && decide (∀ y ∈ scope.names, y.2 = .free → sc.names.lookup y.1 = some .cell ∨ sc.names.lookup y.1 = some .free) &&
    decide (∀ y ∈ scope.names, y.2 = .local ∨ y.2 = .cell → y.1 ∈ own.map (·.1) ∨ y.1 ∉ N)
theorem blk_of {N : List Str} {sc scope : Scope} {own : List (Str × Nat)} (h : blkB N sc scope own = true) : BlkOk N sc scope own := by
  simp only [blkB, Bool.and_eq_true, decide_eq_true_eq] at h
  obtain ⟨⟨⟨⟨h1, h2⟩, h3⟩, h4⟩, h5⟩ := h
  exact ⟨h1, h2, h3, h4, h5⟩
section
variable {X : Cx} {c : Cc} {elt tgt iter : Expr} {ifs : List Expr} {scope : Scope} {own : List (Str × Nat)} {tg : Tx} {it : Ix} {t e : Ex} {is vs : List Nat} {pos : Pos}
theorem pd_lcV (hc : X.calm = true) (hN : X.N.Nodup) (hi : PI X tgt iter (TIe c it)) (ok : BlkOk X.N X.env.scope scope own) (hvs : own.map (·.2) = vs) (his : ∀ i ∈ is, i ∈ vs)
    (hg : ∀ (s : Shared) (H : Hp) (C : Addr) (cl : List (Str × Addr)) (fp : List Addr), PG (X.blk s H scope (compEnvC scope cl C X.env) fp) tgt (TGx c.in0 is tg)) (ht : ∀ (s : Shared) (H : Hp) (C : Addr) (cl : List (Str × Addr)) (fp : List Addr), PTs (X.blk s H scope (compEnvC scope cl C X.env) fp) ifs (TTx c.in0 t))
    (he : ∀ (s : Shared) (H : Hp) (C : Addr) (cl : List (Str × Addr)) (fp : List Addr), PE (X.blk s H scope (compEnvC scope cl C X.env) fp) elt (TEx c.in0 e)) (hs : ∀ x, foldedSetIterable iter X.env x = pure x) :
    PE X (.ListComp elt [⟨tgt, iter, ifs, 0⟩] scope pos) (TEx c (compX vs tg it t e)) := by
  subst hvs
  exact pd_lc hc hN hi ok his hg ht he hs
theorem sx_setLc {i : Nat} {y : Str} {py spos : Pos} (hc : X.calm = true) (hN : X.N.Nodup) (hy : X.N[i]? = some y) (hyl : X.env.scope.names.lookup y = some .local) (hsw : swapsWith (.ListComp elt [⟨tgt, iter, ifs, 0⟩] scope pos) (some (.Name y py)) spos.line X.env = pure true)
    (hi : PI X tgt iter (TIe c it)) (ok : BlkOk X.N X.env.scope scope own) (hvs : own.map (·.2) = vs) (his : ∀ i ∈ is, i ∈ vs)
    (hg : ∀ (s : Shared) (H : Hp) (C : Addr) (cl : List (Str × Addr)) (fp : List Addr), PG (X.blk s H scope (compEnvC scope cl C X.env) fp) tgt (TGx c.in0 is tg)) (ht : ∀ (s : Shared) (H : Hp) (C : Addr) (cl : List (Str × Addr)) (fp : List Addr), PTs (X.blk s H scope (compEnvC scope cl C X.env) fp) ifs (TTx c.in0 t))
    (he : ∀ (s : Shared) (H : Hp) (C : Addr) (cl : List (Str × Addr)) (fp : List Addr), PE (X.blk s H scope (compEnvC scope cl C X.env) fp) elt (TEx c.in0 e)) (hs : ∀ x, foldedSetIterable iter X.env x = pure x) :
    PS X (.Assign [.Name y py] (.ListComp elt [⟨tgt, iter, ifs, 0⟩] scope pos) spos) (TSx c (setS i (compX vs tg it t e))) := by
  subst hvs
  exact ps_imp (ps_setLc hc hN hy hyl hsw hi ok hg ht he hs) (tAsg_lc his)
theorem sx_setLcO {i : Nat} {y : Str} {py spos : Pos} (hc : X.calm = true) (hN : X.N.Nodup) (hy : X.N[i]? = some y) (hyl : X.env.scope.names.lookup y = some .local) (hsw : swapsWith (.ListComp elt [⟨tgt, iter, ifs, 0⟩] scope pos) (some (.Name y py)) spos.line X.env = pure true)
    (hi : PI X tgt iter (TIe c it)) (ok : BlkOk X.N X.env.scope scope own) (hvs : own.map (·.2) = vs) (his : ∀ i ∈ is, i ∈ vs)
    (hg : ∀ (s : Shared) (H : Hp) (C : Addr) (cl : List (Str × Addr)) (fp : List Addr), PG (X.blk s H scope (compEnvC scope cl C X.env) fp) tgt (TGx c.in0 is tg)) (ht : ∀ (s : Shared) (H : Hp) (C : Addr) (cl : List (Str × Addr)) (fp : List Addr), PTs (X.blk s H scope (compEnvC scope cl C X.env) fp) ifs (TTx c.in0 t))
    (he : ∀ (s : Shared) (H : Hp) (C : Addr) (cl : List (Str × Addr)) (fp : List Addr), PE (X.blk s H scope (compEnvC scope cl C X.env) fp) elt (TEx c.in0 e)) (hs : ∀ x, foldedSetIterable iter X.env x = pure x) :
    PS X (.Assign [.Name y py] (.ListComp elt [⟨tgt, iter, ifs, 0⟩] scope pos) spos) (TSx c (setO i (compX vs tg it t e))) := by
  subst hvs
  exact ps_imp (ps_setLc hc hN hy hyl hsw hi ok hg ht he hs) (tAsg_lcO his)
end
end Pv

set_option Elab.async false
set_option linter.all false
set_option maxRecDepth 100000
namespace Pv
open PySem PySem.Spec PyProof.Rows L2

/-! ### the head's observation: the defs, the names, and a test of one's own -/
def hookP (n : Nat) (fa : List He.Fa) (fn : List He.DefD) (xt : PySem.W.Frag → Bool) : PySem.W.Hook where
  α := He.AlD × Bool
  obs := fun s => (He.obsDG n fa fn s.heap.get?, xt (He.frG s.heap.get? (He.asD s.heap.get? n)))
  val := fun _ => (He.valD fn, true)
  says := fun _ h => ∃ K : PySem.W.Frag, K.In h ∧ He.SaysD fa fn K ∧ xt K = true
  of := fun _ _ e => ⟨_, He.frG_in, congrArg Prod.fst e, congrArg Prod.snd e⟩
  keeps := fun _ _ _ ⟨K, hK, c⟩ k => ⟨K, PySem.W.Frag.In.keeps hK k, c⟩
def obP (n : Nat) (fa : List He.Fa) (fn : List He.DefD) (xt : PySem.W.Frag → Bool) (s : PySem.W.SharedT) : He.AlD × Bool := (He.obsDG n fa fn (HandSHeadRun.getT s), xt (He.frG (HandSHeadRun.getT s) (He.asD (HandSHeadRun.getT s) n)))
theorem obP_eq {n : Nat} {fa : List He.Fa} {fn : List He.DefD} {xt : PySem.W.Frag → Bool} (s : PySem.W.SharedT) : obP n fa fn xt s = (hookP n fa fn xt).obs s.abs := by
  have e : HandSHeadRun.getT s = s.abs.heap.get? := funext (HandSHeadRun.getT_eq s)
  unfold obP
  rw [e] <;> rfl
/-! ### a dict of ints of the module -/
def entB : List DictEntry → List (Int × Int) → Bool
  | [], [] => true
  | e :: es, (k, v) :: l => keyIs (.inl k) e.key && decide (e.hash = hashInt k) && (match e.val with | .int j _ => decide (j = v) | _ => false) && entB es l
  | _, _ => false
def tabI (x : Str) (l : List (Int × Int)) (K : PySem.W.Frag) : Bool := match K.lookup (He.ga K x) with
  | some ⟨.type c, none, .dict es _, sl⟩ => decide (c = "dict") && decide (sl = #[]) && entB es.toList l && !(He.ga K x == sysModules)
  | _ => false
def tbI (l : List (Int × Int)) : List (Key × D) := l.map fun p => (.inl p.1, .int p.2)
theorem entB_ok {K : PySem.W.Frag} {G : Nat → Option (Addr × List Str)} {w : World} : ∀ {es : List DictEntry} {l : List (Int × Int)}, entB es l = true → KEnt K G w es (tbI l)
  | [], [], _ => .nil
  | [], _ :: _, h => by cases h
  | _ :: _, [], h => by cases h
  | e :: es, (k, v) :: l, h => by
    simp only [entB, Bool.and_eq_true, decide_eq_true_eq] at h
    obtain ⟨⟨⟨h1, h2⟩, h3⟩, h4⟩ := h
    refine .cons h1 h2 ?_ (entB_ok h4)
    split at h3
    · rename_i j t q
      have e3 : j = v := of_decide_eq_true h3
      subst e3
      exact ⟨.int j, by rw [q]; exact ⟨t, rfl⟩, fun _ => .int j⟩
    · cases h3
theorem tabI_ok {K : PySem.W.Frag} {G : Nat → Option (Addr × List Str)} {w : World} {x : Str} {l : List (Int × Int)} (h : tabI x l K = true) (nd : ((tbI l).map (·.1)).Nodup) : KTab K G w (He.ga K x) (tbI l) := by
  unfold tabI at h
  split at h
  · rename_i c es n sl q
    simp only [Bool.and_eq_true, decide_eq_true_eq, Bool.not_eq_true'] at h
    obtain ⟨⟨⟨rfl, rfl⟩, h3⟩, h4⟩ := h
    exact ⟨es, n, q, entB_ok h3, h4, nd⟩
  · cases h
/-! ### the law's def at the script -/
def scrD (ns : List Int) : List D := ns.map D.int
theorem scr_rep {K : PySem.W.Frag} {G : Nat → Option (Addr × List Str)} {P : Hp} : ∀ ns : List Int, Reps K G P (scrD ns) (ns.map V.int)
  | [] => .nil
  | n :: ns => .cons (.int n) (scr_rep ns)
theorem law_at {K : PySem.W.Frag} {G : Nat → Option (Addr × List Str)} {xc : Nat → Value} {cf : List Pv.Arg → Sto → Out R} {H : Hp} {a : Addr} {ns : List Int} (hS : SqL K H a (ns.map V.int)) (h : ∃ S, cf [.sh (.ro (scrD ns))] [] = .ok ⟨false, .bl true⟩ S) :
    spF K G xc 1 cf [.ref a] H (fun v _ => v = .bl true) fun _ _ _ => False := by
  obtain ⟨S, h⟩ := h
  let P : Hp := fun b => if b = a then H b else none
  have le : Le P H := fun b u e => by
    have e2 : (if b = a then H b else none) = some u := e
    by_cases z : b = a
    · rw [if_pos z] at e2; exact .inl e2
    · rw [if_neg z] at e2; cases e2
  have sq : SqL K P a (ns.map V.int) := by
    have pa : P a = H a := if_pos rfl
    rcases hS with (q | ⟨o, q⟩) | q
    · exact .inl (.inl (by rw [pa]; exact q))
    · exact .inl (.inr ⟨o, by rw [pa]; exact q⟩)
    · exact .inr q
  refine ⟨[], P, [], [.sh (.ro (scrD ns))], le, ⟨rfl, List.nodup_nil, fun n d e => by simp at e⟩, .cons (show ArgOk K G [] P (.sh (.ro (scrD ns))) (.ref a) from .ro sq (scr_rep ns)) .nil, rfl, ?_⟩
  show (cf [.sh (.ro (scrD ns))] []).post _ _
  rw [h]
  intro v P' H' st so rr
  cases rr
  rfl
/-! ### the callees -/
theorem callee_mk {P : Program} {w : World} {K : PySem.W.Frag} {mg : Str → Option Value} {base : Heap} {G : Nat → Option (Addr × List Str)} {xc : Nat → Value} {k n : Nat} {nm qual : Str} {params : Arguments} {body : List Stmt} {scope : Scope} {dvs : List V} {kws : List (Str × V)} {f : Addr} {fd : FuncData} {ps : List Str} {cf : List Pv.Arg → Sto → Out R}
    (F : FunD K nm qual params body scope dvs kws f fd) (hm : mg nm = some (.ref f)) (b : Binds K fd ps []) (ok : FnOk P w K mg base (L2.CX P w) k f fd ps (spF K G xc n cf)) : Callee P w K mg base G xc k nm n cf := ⟨f, fd, ps, ok, hm, F.kp, b⟩
theorem no_out {P : Program} {w : World} (H : Hp) (s : Shared) (e : Value) (s' : Shared) : L2.CX P w [] H s (fun _ _ _ => False) e s' → False := fun ⟨_, _, _, _, _, _, _, _, _, _, _, _, z⟩ => z
/-- a law whose defs may raise, over a head by facts -/
theorem walk_P {l : PySem.W.OpenLaw} {n k : Nat} {q : Program} {loose : List Str} {XP : (Str → Option Value) → Heap → Prop} {YP : World → Heap → Prop} {d : DefRec} {x : Str} (hn : l.most = some n) (hn2 : n ≤ sizeLine) (hdf : d.params.defaults = []) (hr : Room k callerA)
    (F : ∀ (w : World) (mg : Str → Option Value) (fa : Addr) (h : Heap), YP w h → h.Ns mainGlobals mg → mg d.name = some (.ref fa) → ∃ (K : PySem.W.Frag) (fd : FuncData) (sp : Sp), K.In h ∧ (∀ (s : Shared) (u : Value), BindsTo s fd ⟨[u], []⟩ [(x, u)]) ∧
      (∀ (H : Hp) (a : Addr) (ns : List Int), ns.length ≤ n → SqL K H a (ns.map V.int) → sp [.ref a] H (fun v _ => v = .bl true) fun _ _ _ => False) ∧ ∀ base : Heap, K.In base → base.Ns mainGlobals mg → FnOk l.prog w K mg base (L2.CX l.prog w) k fa fd [x] sp) :
    PySem.W.WalkO q loose XP YP l.row.toRowW d [] (fun f vs => PySem.call f vs) :=
  Att.attach_call hn hdf fun w s₀ s₁ mg mb fa o pm cd doc a vs ns G Y ho hd hcd hmg hobj hints hlen hg => by
    obtain ⟨K, fd, sp, KX, hb, hsp, hF⟩ := F w mg fa _ Y G.T.g hmg
    exact law_call KX G.T.g G.T.b G.T.builtins G.T.nolimit hg hobj hints (Nat.le_trans hlen hn2) hr hF hb (fun H _ hS => hsp H a ns hlen hS) fun H e s' => no_out H s₁ e s'
end Pv

set_option Elab.async false
set_option linter.all false
set_option maxRecDepth 100000
namespace Pv
open PySem PySem.Spec PyProof.Rows L2

/-! ### the draw -/
def takenS : Sx :=
  seqS (ifS (op2 gtD (subV 0 (con (.int 3))) (con (.int 0))) (seqS (setS 2 (op2 modD (op1 intD (subV 0 (con (.int 3)))) (var 1))) (seqS (storeS 0 (con (.int 3)) (op2 fdivD (subV 0 (con (.int 3))) (var 1))) (retS (var 2)))) skip)
  (seqS (storeS 0 (con (.int 1)) (op2 addD (subV 0 (con (.int 1))) (con (.int 1))))
  (seqS (ifS (op2 gtD (subV 0 (con (.int 1))) (op1 lenD (subV 0 (con (.int 0))))) (seqS (storeS 0 (con (.int 2)) (op2 modD (op1 intD (op2 addD (op2 mulD (subV 0 (con (.int 2))) (con (.int 48271))) (con (.int 11)))) (con (.int 2147483647))))
    (retS (op2 modD (op1 intD (op2 fdivD (subV 0 (con (.int 2))) (con (.int 7)))) (var 1)))) skip)
  (seqS (setS 3 (op2 atD (subV 0 (con (.int 0))) (op2 subD (subV 0 (con (.int 1))) (con (.int 1)))))
  (seqS (storeS 0 (con (.int 2)) (op2 modD (op1 intD (op2 addD (op2 addD (op2 mulD (subV 0 (con (.int 2))) (con (.int 48271))) (var 3)) (con (.int 11)))) (con (.int 2147483647))))
  (seqS (ifS (op2 geD (var 3) (op2 powD (con (.int 10)) (con (.int 18)))) (storeS 0 (con (.int 3)) (op2 fdivD (var 3) (var 1))) skip)
  (retS (op2 modD (b1V intD 3) (var 1))))))))
def rowD (ns : List Int) (a b c : Int) : D := .lst [.ro (scrD ns), .int a, .int b, .int c]
theorem gt_eq (i j : Int) : gtD (.int i) (.int j) = some (bR (decide (j < i))) := rfl
theorem ge_eq (i j : Int) : geD (.int i) (.int j) = some (bR (decide (j ≤ i))) := rfl
theorem mod_eq {i j : Int} (h : j ≠ 0) : modD (.int i) (.int j) = some ⟨false, .int (i.fmod j)⟩ := by show (if j = 0 then none else _) = _; rw [if_neg h]
theorem fdiv_eq {i j : Int} (h : j ≠ 0) (h2 : j.natAbs < 1073741824) : fdivD (.int i) (.int j) = some ⟨false, .int (i.fdiv j)⟩ := by show (if _ then _ else _) = _; rw [if_pos (.inl ⟨h, h2⟩)]
theorem mul_eq {i j : Int} (h : -two64 < j ∧ j < two64) : mulD (.int i) (.int j) = some ⟨false, .int (i * j)⟩ := by show (if _ then _ else _) = _; rw [if_pos (.inl (.inr h))]
theorem out_ok {α β : Type} (a : α) (S : Sto) (f : α → Sto → Out β) : (Out.ok a S).bind f = f a S := rfl
theorem taken_c (ns : List Int) (a b c m : Int) (hc : 0 < c) (hm : m ≠ 0) (hm2 : m.natAbs < 1073741824) : runF takenS 4 [.ref 0, .sh (.int m)] [rowD ns a b c] = .ok ⟨false, .int (c.fmod m)⟩ [rowD ns a b (c.fdiv m)] := by
  have h1 : decide (0 < c) = true := decide_eq_true hc
  simp [runF, takenS, seqS, ifS, setS, storeS, retS, op1, op2, subV, con, var, peek, sget, rowD, atD, atSeq, seqR, atI, ixN, shO, intD, gt_eq, bR, h1, mod_eq hm, fdiv_eq hm hm2, putSlot, putX, Out.bind, Arg.sl]
def nextW (w x : Int) : Int := (w * 48271 + x + 11).fmod 2147483647
theorem taken_end (ns : List Int) (a b c m : Int) (hc : ¬ 0 < c) (ha : (ns.length : Int) < a + 1) (hm : m ≠ 0) (hm2 : m.natAbs < 1073741824) :
    runF takenS 4 [.ref 0, .sh (.int m)] [rowD ns a b c] = .ok ⟨false, .int ((((b * 48271 + 11).fmod 2147483647).fdiv 7).fmod m)⟩ [rowD ns (a + 1) ((b * 48271 + 11).fmod 2147483647) c] := by
  have h1 : decide (0 < c) = false := decide_eq_false hc
  have h2 : decide (((scrD ns).length : Int) < a + 1) = true := decide_eq_true (by unfold scrD; rw [List.length_map]; exact ha)
  have h3 : -two64 < (48271 : Int) ∧ (48271 : Int) < two64 := by decide
  have h4 : (2147483647 : Int) ≠ 0 := by decide
  have h5 : (7 : Int) ≠ 0 ∧ (7 : Int).natAbs < 1073741824 := by decide
  simp [runF, takenS, skip, seqS, ifS, setS, storeS, retS, op1, op2, subV, con, var, peek, sget, rowD, atD, atSeq, seqR, atI, ixN, shO, intD, lenD, addD, gt_eq, bR, h1, h2, mul_eq h3, mod_eq h4, fdiv_eq h5.1 h5.2, mod_eq hm, fdiv_eq hm hm2, putSlot, putX, Out.bind, Arg.sl]
theorem row0 (ns : List Int) (a b c : Int) : atD (rowD ns a b c) (.int 0) = some ⟨false, .ro (scrD ns)⟩ := rfl
theorem row1 (ns : List Int) (a b c : Int) : atD (rowD ns a b c) (.int 1) = some ⟨false, .int a⟩ := rfl
theorem row2 (ns : List Int) (a b c : Int) : atD (rowD ns a b c) (.int 2) = some ⟨false, .int b⟩ := rfl
theorem row3 (ns : List Int) (a b c : Int) : atD (rowD ns a b c) (.int 3) = some ⟨false, .int c⟩ := rfl
theorem put1 (ns : List Int) (a b c v : Int) : putX (rowD ns a b c) (.int 1) (.int v) = some (rowD ns v b c) := rfl
theorem put2 (ns : List Int) (a b c v : Int) : putX (rowD ns a b c) (.int 2) (.int v) = some (rowD ns a v c) := rfl
theorem put3 (ns : List Int) (a b c v : Int) : putX (rowD ns a b c) (.int 3) (.int v) = some (rowD ns a b v) := rfl
theorem at_ro (l : List D) (i : Int) : atD (.ro l) (.int i) = shO (atI l i) := rfl
theorem add_int (i j : Int) : addD (.int i) (.int j) = some ⟨false, .int (i + j)⟩ := rfl
theorem sub_int (i j : Int) : subD (.int i) (.int j) = some ⟨false, .int (i - j)⟩ := rfl
theorem len_ro (l : List D) : lenD (.ro l) = some ⟨false, .int l.length⟩ := rfl
theorem taken_at (ns : List Int) (a b c m x : Int) (hc : ¬ 0 < c) (ha : ¬ (ns.length : Int) < a + 1) (hx : atI (scrD ns) a = some (.int x)) (hm : m ≠ 0) (hm2 : m.natAbs < 1073741824) :
    runF takenS 4 [.ref 0, .sh (.int m)] [rowD ns a b c] = .ok ⟨false, .int (x.fmod m)⟩ [rowD ns (a + 1) (nextW b x) (if 10 ^ 18 ≤ x then x.fdiv m else c)] := by
  have h1 : decide (0 < c) = false := decide_eq_false hc
  have h2 : decide (((scrD ns).length : Int) < a + 1) = false := decide_eq_false (by unfold scrD; rw [List.length_map]; exact ha)
  have h3 : -two64 < (48271 : Int) ∧ (48271 : Int) < two64 := by decide
  have h4 : (2147483647 : Int) ≠ 0 := by decide
  have h6 : a + 1 - 1 = a := by omega
  have hp : powD (.int 10) (.int 18) = some ⟨false, .int 1000000000000000000⟩ := by rfl
  by_cases hg : (1000000000000000000 : Int) ≤ x
  · have h7 : decide ((1000000000000000000 : Int) ≤ x) = true := decide_eq_true hg
    rw [if_pos (show (10 : Int) ^ 18 ≤ x from hg)]
    simp [runF, takenS, skip, seqS, ifS, setS, storeS, retS, op1, op2, b1V, subV, con, var, peek, sget, row0, row1, row2, row3, put1, put2, put3, at_ro, hx, shO, intD, len_ro, add_int, sub_int, gt_eq, ge_eq, bR, h1, h2, h6, h7, hp, mul_eq h3, mod_eq h4, mod_eq hm, fdiv_eq hm hm2, putSlot, Out.bind, Arg.sl, nextW]
  · have h7 : decide ((1000000000000000000 : Int) ≤ x) = false := decide_eq_false hg
    rw [if_neg (show ¬ (10 : Int) ^ 18 ≤ x from hg)]
    simp [runF, takenS, skip, seqS, ifS, setS, storeS, retS, op1, op2, b1V, subV, con, var, peek, sget, row0, row1, row2, row3, put1, put2, put3, at_ro, hx, shO, intD, len_ro, add_int, sub_int, gt_eq, ge_eq, bR, h1, h2, h6, h7, hp, mul_eq h3, mod_eq h4, mod_eq hm, fdiv_eq hm hm2, putSlot, Out.bind, Arg.sl, nextW]
theorem scr_at (ns : List Int) {a : Int} (h0 : 0 ≤ a) (h : a < ns.length) : ∃ x, atI (scrD ns) a = some (.int x) := by
  have hl : (scrD ns).length = ns.length := by unfold scrD; rw [List.length_map]
  have hn : a.toNat < ns.length := by omega
  refine ⟨ns[a.toNat], ?_⟩
  unfold atI ixN
  rw [if_pos h0, if_pos (by rw [hl]; exact h)]
  show (scrD ns)[a.toNat]? = _
  unfold scrD
  rw [List.getElem?_map, List.getElem?_eq_getElem hn]
  rfl
theorem fmod_rng (x : Int) {m : Int} (h : 0 < m) : 0 ≤ x.fmod m ∧ x.fmod m < m := ⟨Int.fmod_nonneg_of_pos x h, Int.fmod_lt_of_pos x h⟩
/-- the row's state -/
structure RowOk (d : D) : Prop where
  ex : ∃ ns a b c, d = rowD ns a b c ∧ 0 ≤ a ∧ 0 ≤ c
/-- a draw: some number below the bound, the row stays one -/
theorem taken_ok {d : D} {m : Int} (r : RowOk d) (hm : 0 < m) (hm2 : m < 1073741824) : ∃ v d', RowOk d' ∧ 0 ≤ v ∧ v < m ∧ runF takenS 4 [.ref 0, .sh (.int m)] [d] = .ok ⟨false, .int v⟩ [d'] := by
  obtain ⟨ns, a, b, c, rfl, ha, hc⟩ := r.ex
  have m0 : m ≠ 0 := by omega
  have m1 : m.natAbs < 1073741824 := by omega
  by_cases h1 : 0 < c
  · exact ⟨_, _, ⟨ns, a, b, _, rfl, ha, Int.fdiv_nonneg (by omega) (by omega)⟩, (fmod_rng _ hm).1, (fmod_rng _ hm).2, taken_c ns a b c m h1 m0 m1⟩
  · by_cases h2 : (ns.length : Int) < a + 1
    · exact ⟨_, _, ⟨ns, a + 1, _, c, rfl, by omega, hc⟩, (fmod_rng _ hm).1, (fmod_rng _ hm).2, taken_end ns a b c m h1 h2 m0 m1⟩
    · obtain ⟨x, hx⟩ := scr_at ns ha (by omega)
      refine ⟨_, _, ⟨ns, a + 1, _, _, rfl, by omega, ?_⟩, (fmod_rng _ hm).1, (fmod_rng _ hm).2, taken_at ns a b c m x h1 h2 hx m0 m1⟩
      split
      · rename_i hg
        exact Int.fdiv_nonneg (Int.le_trans (by decide) hg) (by omega)
      · exact hc
end Pv

set_option Elab.async false
set_option linter.all false
set_option maxRecDepth 100000
namespace Pv
open PySem PySem.Spec PyProof.Rows L2

/-! ### one of some kinds -/
def pickS (i : Nat) (cf : Nat → List Pv.Arg → Sto → Out R) : Sx := retS (subV 1 (callX cf i (aname 0 (aval (b1V lenD 1) anil))))
theorem at_lst (l : List D) (i : Int) : atD (.lst l) (.int i) = shO (atI l i) := rfl
theorem at_tup (l : List D) (i : Int) : atD (.tup l) (.int i) = shO (atI l i) := rfl
theorem atI_nat {l : List D} {v : Int} (h0 : 0 ≤ v) (h : v < l.length) : ∃ x ∈ l, atI l v = some x := by
  have hn : v.toNat < l.length := by omega
  refine ⟨l[v.toNat], List.getElem_mem hn, ?_⟩
  unfold atI ixN
  rw [if_pos h0, if_pos h]
  show l[v.toNat]? = _
  rw [List.getElem?_eq_getElem hn]
theorem pick_ok {i : Nat} {cf : Nat → List Pv.Arg → Sto → Out R} (hc : cf i = runF takenS 4) {d : D} {l : List D} (r : RowOk d) (h0 : 0 < l.length) (h1 : l.length < 1000) : ∃ x ∈ l, ∃ d', RowOk d' ∧ runF (pickS i cf) 2 [.ref 0, .sh (.lst l)] [d] = .ok ⟨false, x⟩ [d'] := by
  obtain ⟨v, d', r', v0, v1, e⟩ := taken_ok (m := l.length) r (by omega) (by omega)
  obtain ⟨x, hx, ex⟩ := atI_nat (l := l) v0 v1
  refine ⟨x, hx, d', r', ?_⟩
  have hl : lenD (.lst l) = some ⟨false, .int l.length⟩ := rfl
  rw [← hc] at e
  unfold runF
  simp [pickS, retS, subV, callX, aname, aval, anil, b1V, peek, sget, hl, e, Out.bind, Arg.sl, at_lst, ex, shO]
/-! ### a comprehension whose turns each give a number -/
theorem comp_ints {tg : Tx} {t e : Ex} {env : SEnv} (Q : Int → Prop) (turn : ∀ (d : D) (row : D), RowOk row → ∃ env1 v row', tg env d = some env1 ∧ t env1 [row] = .ok ⟨false, .bl true⟩ [row] ∧ e env1 [row] = .ok ⟨false, .int v⟩ [row'] ∧ Q v ∧ RowOk row') :
    ∀ (ds : List D) (row : D), RowOk row → ∃ (xs : List Int) (row' : D), compL tg t e env ds [row] = .ok (xs.map D.int) [row'] ∧ xs.length = ds.length ∧ (∀ x ∈ xs, Q x) ∧ RowOk row'
  | [], row, r => ⟨[], row, rfl, rfl, (fun x h => nomatch h), r⟩
  | d :: ds, row, r => by
    obtain ⟨env1, v, row', h1, h2, h3, h4, h5⟩ := turn d row r
    obtain ⟨xs, row2, g1, g2, g3, g4⟩ := comp_ints Q turn ds row' h5
    refine ⟨v :: xs, row2, ?_, congrArg (· + 1) g2, fun x hx => ?_, g4⟩
    · unfold compL
      rw [h1]
      simp only [h2, nox, Out.bind, h3, g1]
      rfl
    · rcases List.mem_cons.mp hx with q | q
      · rw [q]; exact h4
      · exact g3 x q
end Pv

set_option Elab.async false
set_option linter.all false
set_option maxRecDepth 100000
namespace Pv
open PySem PySem.Spec PyProof.Rows L2

/-! ### the law's own comparison -/
def alikeS (i : Nat) (cf : Nat → List Pv.Arg → Sto → Out R) : Sx :=
    (seqS (ifS (isIX ["tuple", "list"] (var 1)) (seqS (ifS (orX (notX (isIX ["tuple", "list"] (var 0))) (op2 neD (isIX ["list"] (var 0)) (isIX ["list"] (var 1)))) (retS (con (.bl false))) skip)
    (seqS (ifS (op2 neD (b1V lenD 0) (b1V lenD 1)) (retS (con (.bl false))) skip)
    (retS (op2 eqD (compX [2] (tName 2) (iRg1 (lcons (b1V lenD 1) lnil)) (notX (callX cf i (aval (subV 0 (var 2)) (aval (subV 1 (var 2)) anil)))) (var 2)) (lstX lnil))))) skip)
    (seqS (ifS (orX (op2 isND (var 1) (con .non)) (isIX ["str"] (var 1))) (retS (andX (op2 eqD (var 0) (var 1)) (op2 eqD (isIX ["str"] (var 0)) (isIX ["str"] (var 1))))) skip)
    (retS (andX (isIX ["int"] (var 0)) (andX (op2 eqD (isIX ["bool"] (var 0)) (isIX ["bool"] (var 1))) (op2 eqD (var 0) (var 1)))))))
theorem comp_none {tg : Tx} {t e : Ex} {env : SEnv} {S : Sto} : ∀ ds : List D, (∀ d ∈ ds, ∃ env1, tg env d = some env1 ∧ t env1 S = .ok ⟨false, .bl false⟩ S) → compL tg t e env ds S = .ok [] S
  | [], _ => rfl
  | d :: ds, h => by
    obtain ⟨env1, h1, h2⟩ := h d (List.mem_cons_self ..)
    unfold compL
    rw [h1]
    simp only [h2, nox, Out.bind]
    exact comp_none ds fun x hx => h x (List.mem_cons_of_mem _ hx)
theorem alike_int {i : Nat} {cf : Nat → List Pv.Arg → Sto → Out R} {S : Sto} (x y : Int) : runF (alikeS i cf) 3 [.sh (.int x), .sh (.int y)] S = .ok ⟨false, .bl (decide (x = y))⟩ S := by
  rfl
abbrev tt' : R := ⟨false, .bl true⟩
abbrev ff' : R := ⟨false, .bl false⟩
section
variable {a b : Sx} {x y t : Ex} {env env1 : SEnv} {S S1 S2 : Sto} {o : Out Fl} {r r1 : R} {q : Out R} {i m : Nat} {f : D → D → Option R} {g : D → Option R} {as : List Arg} {d : D}
theorem s_nx (h : a env S = .ok (.nx env1) S1) (h2 : b env1 S1 = o) : seqS a b env S = o := by unfold seqS; rw [h]; exact h2
theorem s_ret (h : a env S = .ok (.ret r) S1) : seqS a b env S = .ok (.ret r) S1 := by unfold seqS; rw [h]; rfl
theorem i_t (h : t env S = .ok tt' S1) (h2 : a env S1 = o) : ifS t a b env S = o := by unfold ifS; rw [h]; exact h2
theorem i_f (h : t env S = .ok ff' S1) (h2 : b env S1 = o) : ifS t a b env S = o := by unfold ifS; rw [h]; exact h2
theorem e_set (h : x env S = .ok r S1) : setS i x env S = .ok (.nx (env.set i (.sh r.d))) S1 := by unfold setS; rw [h]; rfl
theorem e_ret (h : x env S = .ok r S1) : retS x env S = .ok (.ret r) S1 := by unfold retS; rw [h]; rfl
theorem e_ex (h : x env S = .ok r S1) : exS x env S = .ok (.nx env) S1 := by unfold exS; rw [h]; rfl
theorem or_t (h : x env S = .ok tt' S1) : orX x y env S = .ok tt' S1 := by unfold orX; rw [h]; rfl
theorem or_f (h : x env S = .ok ff' S1) (h2 : y env S1 = q) : orX x y env S = q := by unfold orX; rw [h]; exact h2
theorem and_t (h : x env S = .ok tt' S1) (h2 : y env S1 = q) : andX x y env S = q := by unfold andX; rw [h]; exact h2
theorem and_f (h : x env S = .ok ff' S1) : andX x y env S = .ok ff' S1 := by unfold andX; rw [h]; rfl
theorem not_t (h : x env S = .ok tt' S1) : notX x env S = .ok ff' S1 := by unfold notX; rw [h]; rfl
theorem not_f (h : x env S = .ok ff' S1) : notX x env S = .ok tt' S1 := by unfold notX; rw [h]; rfl
theorem e_2 (h : x env S = .ok r S1) (h2 : y env S1 = .ok r1 S2) (e : f r.d r1.d = some rr) : op2 f x y env S = .ok rr S2 := by
  unfold op2; rw [h]; simp only [Out.bind, h2, e]
theorem e_1 (h : x env S = .ok r S1) (e : g r.d = some r1) : op1 g x env S = .ok r1 S1 := by
  unfold op1; rw [h]; simp only [Out.bind, e]
theorem f_ret (h : a (as.map Arg.sl ++ List.replicate (m - as.length) .un) S = .ok (.ret r) S1) : runF a m as S = .ok r S1 := by unfold runF; rw [h]; rfl
theorem f_nx (h : a (as.map Arg.sl ++ List.replicate (m - as.length) .un) S = .ok (.nx env) S1) : runF a m as S = .ok ⟨false, .non⟩ S1 := by unfold runF; rw [h]; rfl
end
theorem ne_int (x y : Int) : neD (.int x) (.int y) = some (bR (!decide (x = y))) := rfl
theorem len_tup (l : List D) : lenD (.tup l) = some ⟨false, .int l.length⟩ := rfl
theorem alike_tups {i : Nat} {cf : Nat → List Pv.Arg → Sto → Out R} {S : Sto} (l m : List D) (hn : l.length < 1000) (hl : m.length = l.length)
    (h : ∀ k, k < l.length → ∃ x y, l[k]? = some x ∧ m[k]? = some y ∧ cf i [.sh x, .sh y] S = .ok ⟨false, .bl true⟩ S) : runF (alikeS i cf) 3 [.sh (.tup l), .sh (.tup m)] S = .ok ⟨false, .bl true⟩ S := by
  have h4 : op2 neD (b1V lenD 0) (b1V lenD 1) [.sh (.tup l), .sh (.tup m), .un] S = .ok ⟨false, .bl false⟩ S := by
    simp [op2, b1V, peek, sget, len_tup, ne_int, Out.bind, hl, bR]
  have h5 : compX [2] (tName 2) (iRg1 (lcons (b1V lenD 1) lnil)) (notX (callX cf i (aval (subV 0 (var 2)) (aval (subV 1 (var 2)) anil)))) (var 2) [.sh (.tup l), .sh (.tup m), .un] S = .ok ⟨true, .lst []⟩ S := by
    have hw : (-line : Int) ≤ (m.length : Int) ∧ (m.length : Int) ≤ line := by rw [hl]; unfold line; omega
    have e : iRg1 (lcons (b1V lenD 1) lnil) [.sh (.tup l), .sh (.tup m), .un] S = .ok ((List.range m.length).map fun (i : Nat) => D.int i) S := by
      simp [iRg1, lcons, lnil, b1V, peek, sget, len_tup, Out.bind, hw]
    unfold compX
    rw [e]
    show (if _ then _ else _) = _
    rw [if_pos (by rw [List.length_map, List.length_range, hl]; unfold line; omega)]
    rw [comp_none _ fun d hd => ?_]
    · rfl
    · obtain ⟨k, hk, rfl⟩ := List.mem_map.mp hd
      obtain ⟨x, y, g1, g2, g3⟩ := h k (by rw [List.mem_range] at hk; omega)
      refine ⟨_, rfl, ?_⟩
      have hk' : (k : Int) < l.length := by rw [List.mem_range] at hk; omega
      have a1 : atI l (k : Int) = some x := by unfold atI ixN; rw [if_pos (by omega), if_pos hk']; exact g1
      have a2 : atI m (k : Int) = some y := by unfold atI ixN; rw [if_pos (by omega), if_pos (by omega)]; exact g2
      simp [notX, callX, aval, anil, subV, peek, sget, clr, var, at_tup, a1, a2, shO, Out.bind, g3]
  exact f_ret (s_ret (i_t (S1 := S) rfl (s_nx (i_f (or_f (S1 := S) rfl rfl) rfl) (s_nx (i_f h4 rfl) (e_ret (e_2 h5 rfl rfl))))))
end Pv

set_option Elab.async false
set_option linter.all false
set_option maxRecDepth 100000
namespace Pv
open PySem PySem.Spec PyProof.Rows L2
theorem for_inv {tg : Tx} {b : Sx} {S : Sto} (I : SEnv → Prop) : ∀ (ds : List D), (∀ d ∈ ds, ∀ env, I env → ∃ env1 env2, tg env d = some env1 ∧ b env1 S = .ok (.nx env2) S ∧ I env2) → ∀ env, I env → ∃ env', I env' ∧ forL tg b ds env S = .ok (.nx env') S
  | [], _, env, i => ⟨env, i, rfl⟩
  | d :: ds, h, env, i => by
    obtain ⟨env1, env2, h1, h2, h3⟩ := h d (List.mem_cons_self ..) env i
    obtain ⟨env', h4, h5⟩ := for_inv I ds (fun x hx => h x (List.mem_cons_of_mem _ hx)) env2 h3
    refine ⟨env', h4, ?_⟩
    unfold forL
    rw [h1]
    simp only [h2, Out.bind]
    exact h5
def nD (xs : List Int) : D := .tup (xs.map D.int)
theorem atI_ints {xs : List Int} {k : Nat} (h : k < xs.length) : atI (xs.map D.int) (k : Int) = some (.int xs[k]) := by
  unfold atI ixN
  rw [if_pos (by omega), if_pos (by rw [List.length_map]; omega)]
  show (xs.map D.int)[k]? = _
  rw [List.getElem?_map, List.getElem?_eq_getElem h]
  rfl
theorem flat_ints : ∀ xs : List Int, flatL (xs.map D.int) = true
  | [] => rfl
  | x :: xs => by show (true && flatL (xs.map D.int)) = true; rw [flat_ints xs]; rfl
theorem lay_ints : ∀ xs : List Int, PyData.canLayAll0 (pyL (xs.map D.int)) = true
  | [] => rfl
  | x :: xs => by show (true && PyData.canLayAll0 (pyL (xs.map D.int))) = true; rw [lay_ints xs]; rfl
theorem deep_ints : ∀ xs : List Int, PyData.depthAll (pyL (xs.map D.int)) ≤ 1
  | [] => by show 0 ≤ 1; omega
  | x :: xs => by
    have := deep_ints xs
    show max (PyData.depth (.int x)) (PyData.depthAll (pyL (xs.map D.int))) ≤ 1
    have e : PyData.depth (.int x) ≤ 1 := by first | exact Nat.le_refl 1 | exact Nat.zero_le _
    omega
theorem eqv_ints : ∀ xs : List Int, PyData.eqvAll (pyL (xs.map D.int)) (pyL (xs.map D.int)) = true
  | [] => rfl
  | x :: xs => by show ((x == x) && PyData.eqvAll (pyL (xs.map D.int)) (pyL (xs.map D.int))) = true; rw [eqv_ints xs]; simp
theorem ok_nD (xs : List Int) : okD (nD xs) = true := by
  show (flatL (xs.map D.int) && (PyData.canLayAll0 (pyL (xs.map D.int)) && decide (PyData.depth (.tuple (pyL (xs.map D.int))) ≤ 64))) = true
  rw [flat_ints, lay_ints]
  have := deep_ints xs
  have e : PyData.depth (.tuple (pyL (xs.map D.int))) ≤ 64 := by rw [PyData.depth]; omega
  rw [decide_eq_true e]; rfl
theorem ne_nD (xs : List Int) : neD (nD xs) (nD xs) = some ff' := by
  unfold neD
  rw [ok_nD]
  show some (bR (!PyData.eqvAll (pyL (xs.map D.int)) (pyL (xs.map D.int)))) = _
  rw [eqv_ints]; rfl
theorem alike_nD {i : Nat} {cf cf2 : Nat → List Pv.Arg → Sto → Out R} {S : Sto} (hc : cf i = runF (alikeS i cf2) 3) (xs : List Int) (hn : xs.length < 1000) : runF (alikeS i cf) 3 [.sh (nD xs), .sh (nD xs)] S = .ok tt' S :=
  alike_tups _ _ (by rw [List.length_map]; exact hn) rfl fun k hk => by
    rw [List.length_map] at hk
    have e : (xs.map D.int)[k]? = some (.int xs[k]) := by rw [List.getElem?_map, List.getElem?_eq_getElem hk]; rfl
    refine ⟨_, _, e, e, ?_⟩
    rw [hc, alike_int]
    rw [decide_eq_true rfl]
theorem gt_abs {x n : Int} (h : -n ≤ x ∧ x ≤ n) : (gtD (.int (if x < 0 then -x else x)) (.int n)) = some ff' := by
  rw [gt_eq]
  have : decide (n < if x < 0 then -x else x) = false := by
    apply decide_eq_false
    split <;> omega
  rw [this]; rfl
end Pv

set_option Elab.async false
set_option linter.all false
set_option maxRecDepth 100000
namespace Pv
open PySem PySem.Spec PyProof.Rows L2
section
variable {x : Ex} {env : SEnv} {S S1 S2 : Sto} {q : Out R} {i : Nat} {as : List Arg} {l : Ax} {r : R} {cf : Nat → List Arg → Sto → Out R}
theorem x_call (h : l env S = .ok as S1) (h2 : cf i as S1 = q) : callX cf i l env S = q := by unfold callX; rw [h]; exact h2
theorem a_val (h : x env S = .ok r S1) (h2 : l env S1 = .ok as S2) : aval x l env S = .ok (.sh r.d :: as) S2 := by unfold aval; rw [h]; simp only [Out.bind, h2]
theorem e_for {tg : Tx} {it : Ix} {b : Sx} {ds : List D} {o : Out Fl} (h : it env S = .ok ds S1) (h2 : forL tg b ds env S1 = o) : forS tg it b env S = o := by unfold forS; rw [h]; exact h2
end
end Pv

set_option Elab.async false
set_option linter.all false
set_option maxRecDepth 100000
namespace Pv
open PySem PySem.Spec PyProof.Rows L2
section
variable {x y t e : Ex} {env env1 env2 env3 : SEnv} {S S1 S2 S3 : Sto} {q : Out R} {i j : Nat} {as : List Arg} {l : Ax} {r r1 r2 : R} {f g : Bool} {tg : Tx} {it : Ix} {vs : List Nat} {d : D} {ds out : List D} {b : Sx} {o : Out Fl} {n : Nat}
theorem e_par2 (h : x env S = .ok r S1) (h2 : y env S1 = .ok r1 S2) (e1 : setR i f r env = some env1) (e2 : setR j g r1 env1 = some env2) : par2 i f j g x y env S = .ok (.nx env2) S2 := by
  unfold par2; rw [h]; simp only [Out.bind, h2, e1, e2]
theorem a_ref (h : sget env i = .ref n) (h2 : l env S = .ok as S2) : aname i l env S = .ok (.ref n :: as) S2 := by unfold aname; rw [h]; simp only [h2, Out.bind]
theorem a_sh (h : sget env i = .sh d) (h2 : l env S = .ok as S2) : aname i l env S = .ok (.sh d :: as) S2 := by unfold aname; rw [h]; simp only [h2, Out.bind]
theorem e_comp (h : it env S = .ok ds S1) (hl : ds.length ≤ line) (h2 : compL tg t e (clr env vs) ds S1 = .ok out S2) : compX vs tg it t e env S = .ok ⟨true, .lst out⟩ S2 := by
  unfold compX; rw [h]; simp only [Out.bind, hl, if_true, h2]
theorem f_cons (h : tg env d = some env1) (h2 : b env1 S = .ok (.nx env2) S1) (h3 : forL tg b ds env2 S1 = o) : forL tg b (d :: ds) env S = o := by
  unfold forL; rw [h]; simp only [h2, Out.bind]; exact h3
theorem f_nil : forL tg b [] env S = .ok (.nx env) S := rfl
theorem e_cell (h : x env S = .ok ⟨true, d⟩ S1) (hc : calmE env = true) (h2 : b (env.set i (.ref S1.length)) (S1 ++ [d]) = .ok (.ret r) S2) : cellS i x b env S = .ok (.ret r) (S2.take S1.length) := by
  unfold cellS; rw [h]; simp only [Out.bind, hc, h2, nox]; rfl
theorem e_store {k : Ex} {d0 : D} (h : e env S = .ok r S1) (hp : peek env S1 i = some d0) (h2 : k env S1 = .ok r1 S2) (h3 : putSlot i r1.d r.d env S2 = o) : storeS i k e env S = o := by
  unfold storeS; rw [h]; simp only [Out.bind, hp, h2]; exact h3
end
theorem eq_i (i j : Int) : eqD (.int i) (.int j) = some (bR (decide (i = j))) := rfl
theorem ne_same {x y : Int} (h : x = y) : neD (.int x) (.int y) = some ff' := by subst h; show some (bR (!decide (x = x))) = _; rw [decide_eq_true rfl]; rfl
/-- one of some ints -/
theorem pick_in {i : Nat} {cf : Nat → List Pv.Arg → Sto → Out R} (hc : cf i = runF takenS 4) {d : D} {l : List D} (P : D → Prop) (r : RowOk d) (h0 : 0 < l.length) (h1 : l.length < 1000) (hP : ∀ x ∈ l, P x) : ∃ x, P x ∧ x ∈ l ∧ ∃ d', RowOk d' ∧ runF (pickS i cf) 2 [.ref 0, .sh (.lst l)] [d] = .ok ⟨false, x⟩ [d'] := by
  obtain ⟨x, hx, d', r', e⟩ := pick_ok hc r h0 h1
  exact ⟨x, hP x hx, hx, d', r', e⟩
theorem row_new (ns : List Int) (b : Int) : RowOk (.lst [.ro (scrD ns), .int 0, .int b, .int 0]) := ⟨ns, 0, b, 0, rfl, by omega, by omega⟩
end Pv

set_option Elab.async false
set_option linter.all false
/-! ratios: pairs of ints, the second one above 0 -/
namespace Ra
def canon (t l : Int) : Int × Int := (t / (Int.gcd t l : Int), l / (Int.gcd t l : Int))
theorem gcd_step {a b : Int} : Int.gcd b (a % b) = Int.gcd a b := by
  rw [Int.emod_def, Int.gcd_comm a b, Int.gcd_sub_mul_left_right]
theorem gpos {t l : Int} (h : 0 < l) : (0 : Int) < Int.gcd t l := by
  have := Int.gcd_pos_of_ne_zero_right t (b := l) (by omega)
  omega
theorem canon_scale {a b k : Int} (hk : 0 < k) : canon (k * a) (k * b) = canon a b := by
  unfold canon
  have e : (Int.gcd (k * a) (k * b) : Int) = k * Int.gcd a b := by
    rw [Int.gcd_mul_left, Int.natCast_mul, Int.natAbs_of_nonneg (by omega)]
  rw [e, Int.mul_ediv_mul_of_pos _ _ hk, Int.mul_ediv_mul_of_pos _ _ hk]
/-- equal ratios -/
def E (x y : Int × Int) : Prop := x.1 * y.2 = y.1 * x.2
theorem canon_eq {x y : Int × Int} (hx : 0 < x.2) (hy : 0 < y.2) (h : E x y) : canon x.1 x.2 = canon y.1 y.2 := by
  have h1 : y.2 * x.1 = x.2 * y.1 := by rw [Int.mul_comm, h, Int.mul_comm]
  rw [← canon_scale (a := x.1) (b := x.2) hy, h1, Int.mul_comm y.2 x.2, canon_scale hx]
theorem canon_mul {t l : Int} (h : 0 < l) : ∃ g : Int, 0 < g ∧ t = g * (canon t l).1 ∧ l = g * (canon t l).2 :=
  ⟨Int.gcd t l, gpos h, (Int.mul_ediv_cancel' (Int.gcd_dvd_left t l)).symm, (Int.mul_ediv_cancel' (Int.gcd_dvd_right t l)).symm⟩
theorem canon_pos {t l : Int} (h : 0 < l) : 0 < (canon t l).2 := by
  obtain ⟨g, g0, _, e⟩ := canon_mul (t := t) h
  rw [e] at h
  exact Int.pos_of_mul_pos_right h g0
where
  Int.pos_of_mul_pos_right {a b : Int} (h : 0 < a * b) (ha : 0 < a) : 0 < b := by
    rcases Int.lt_or_le 0 b with q | q
    · exact q
    · have := Int.mul_nonpos_of_nonneg_of_nonpos (Int.le_of_lt ha) q
      omega
theorem canon_E {t l : Int} (h : 0 < l) : E (canon t l) (t, l) := by
  obtain ⟨g, g0, e1, e2⟩ := canon_mul (t := t) h
  show (canon t l).1 * l = t * (canon t l).2
  generalize canon t l = p at e1 e2
  rw [e1, e2]; grind
theorem canon_gcd {t l : Int} (h : 0 < l) : Int.gcd (canon t l).1 (canon t l).2 = 1 := Int.gcd_ediv_gcd_ediv_gcd (Int.gcd_pos_of_ne_zero_right t (by omega))
theorem canon_self {a b : Int} (h : Int.gcd a b = 1) : canon a b = (a, b) := by
  unfold canon
  rw [h]; simp
theorem canon_le {t l : Int} (h : 0 < l) : (canon t l).1.natAbs ≤ t.natAbs ∧ (canon t l).2.natAbs ≤ l.natAbs := by
  obtain ⟨g, g0, e1, e2⟩ := canon_mul (t := t) h
  generalize canon t l = p at e1 e2
  have q : ∀ x : Int, x.natAbs ≤ (g * x).natAbs := fun x => by
    rw [Int.natAbs_mul]
    exact Nat.le_mul_of_pos_left _ (by omega)
  constructor
  · rw [e1]; exact q _
  · rw [e2]; exact q _
def addP (x y : Int × Int) : Int × Int := (x.1 * y.2 + y.1 * x.2, x.2 * y.2)
def sumP (ps : List (Int × Int)) : Int × Int := ps.foldl addP (0, 1)
def canonP (x : Int × Int) : Int × Int := canon x.1 x.2
theorem E.refl (x : Int × Int) : E x x := rfl
theorem E.symm {x y : Int × Int} (h : E x y) : E y x := Eq.symm h
theorem E.trans {x y z : Int × Int} (hy : 0 < y.2) (h : E x y) (g : E y z) : E x z := by
  unfold E at *
  have : y.2 * (x.1 * z.2) = y.2 * (z.1 * x.2) := by grind
  exact Int.eq_of_mul_eq_mul_left (by omega) this
theorem addP_E {x x' y y' : Int × Int} (h : E x x') (g : E y y') : E (addP x y) (addP x' y') := by
  unfold E addP at *
  grind
theorem foldl_E : ∀ {ps qs : List (Int × Int)} {x y : Int × Int}, ps.length = qs.length → (∀ (i : Nat) (p q : Int × Int), ps[i]? = some p → qs[i]? = some q → E p q) → E x y → E (ps.foldl addP x) (qs.foldl addP y)
  | [], [], _, _, _, _, h => h
  | [], _ :: _, _, _, hl, _, _ => by simp at hl
  | _ :: _, [], _, _, hl, _, _ => by simp at hl
  | p :: ps, q :: qs, x, y, hl, hp, h => by
    rw [List.foldl_cons, List.foldl_cons]
    exact foldl_E (by simpa using hl) (fun i a b ha hb => hp (i + 1) a b (by simpa using ha) (by simpa using hb)) (addP_E h (hp 0 p q rfl rfl))
theorem foldl_pos : ∀ {ps : List (Int × Int)} {x : Int × Int}, (∀ p ∈ ps, 0 < p.2) → 0 < x.2 → 0 < (ps.foldl addP x).2
  | [], _, _, h => h
  | p :: ps, x, hp, h => by
    rw [List.foldl_cons]
    exact foldl_pos (fun q hq => hp q (List.mem_cons_of_mem _ hq)) (Int.mul_pos h (hp p List.mem_cons_self))
/-- the same low ones: tops add -/
theorem foldl_add : ∀ {ns ms ds : List Int} {x y : Int × Int}, ns.length = ds.length → ms.length = ds.length → x.2 = y.2 →
    ((List.zipWith (fun (n : Int × Int) d => (n.1 + n.2, d)) (ns.zip ms) ds).foldl addP (x.1 + y.1, x.2)) = (((ns.zip ds).foldl addP x).1 + ((ms.zip ds).foldl addP y).1, ((ns.zip ds).foldl addP x).2) ∧ ((ns.zip ds).foldl addP x).2 = ((ms.zip ds).foldl addP y).2
  | [], [], [], x, y, _, _, h => ⟨rfl, h⟩
  | n :: ns, m :: ms, d :: ds, x, y, h1, h2, h => by
    simp only [List.zip_cons_cons, List.zipWith_cons_cons, List.foldl_cons]
    have := foldl_add (ns := ns) (ms := ms) (ds := ds) (x := addP x (n, d)) (y := addP y (m, d)) (by simpa using h1) (by simpa using h2) (by simp [addP, h])
    refine ⟨?_, this.2⟩
    rw [← this.1]
    congr 1
    simp only [addP, h]
    congr 1
    grind
  | [], _ :: _, _, _, _, h1, h2, _ => by simp at h1 h2; omega
  | _ :: _, [], _, _, _, h1, h2, _ => by simp at h1 h2; omega
  | [], [], _ :: _, _, _, h1, _, _ => by simp at h1
  | _ :: _, _ :: _, [], _, _, h1, _, _ => by simp at h1
end Ra

set_option Elab.async false
set_option linter.all false
set_option maxRecDepth 100000
namespace Pv
open PySem PySem.Spec PyProof.Rows L2

section
variable {X : Cx} {c : Cc} {P H P1 H1 : Hp} {env : SEnv} {σ : L2.St} {S S1 : Sto} {x y z : Ex} {pos : Pos} {e e1 e2 tgt : Expr} {nm : Str}
/-! ### a, b = e -/
def unpS (is : List Nat) (x : Ex) : Sx := fun env S => (x env S).bind fun r S => match tupOf r.d with
  | some ds => (match setAll is ds env with
    | some env' => .ok (.nx env') S
    | none => .bad)
  | none => .bad
theorem sx_unp {is : List Nat} {es : List Expr} {k : Nat} {q : Pos} (hK : X.K = c.K) (hc : X.calm = true) (he : PE X e (TEx c x)) (hg : PGs X es (gNames is)) (hn : (assignEach es X.env).length = is.length) (hst : (assignEach es X.env).findIdx? (·.1) = none)
    (hs : swapsWithSole [.Tuple es k q] e pos.line X.env = pure false) (hw : swappedStores [.Tuple es k q] e X.env = pure none) (h1 : (assignEach [.Tuple es k q] X.env).map (·.2) = [assign (.Tuple es k q) X.env]) :
    PS X (.Assign [.Tuple es k q] e pos) (TSx c (unpS is x)) :=
  ps_imp (ps_asg he (pg_tup hc hg hn hst) hs hw h1) fun D σ H ⟨P, env, S, s, h⟩ => te_in s h fun r S1 v P1 H1 st1 s1 rp h1 => by
    cases q : tupOf r.d with
    | none => simp only [q] at h1; exact h1.elim
    | some ds =>
      simp only [q] at h1
      cases q2 : setAll is ds env with
      | none => simp only [q2] at h1; exact h1.elim
      | some env' =>
        simp only [q2] at h1
        obtain ⟨a, xs, rfl, sq, rx⟩ := tupOf_rep q rp s1.le
        exact ⟨a, xs, rfl, by rw [hK]; exact sq, by rw [← rx.length, setAll_len q2], setAll_ok s1 rx q2 fun σ' s' _ => h1 P1 H1 σ' st1.pp s'⟩
/-! ### a list of one's own grows -/
def updSlot (i : Nat) (g : D → Option D) (env : SEnv) (S : Sto) : Out Fl := match sget env i with
  | .own d => (match g d with
    | some d' => .ok (.nx (env.set i (.own d'))) S
    | none => .bad)
  | .ref n => (match S[n]? with
    | some d => (match g d with
      | some d' => .ok (.nx env) (S.set n d')
      | none => .bad)
    | none => .bad)
  | _ => .bad
theorem upd_ok {i : Nat} {g : D → Option D} {o : V} {D0 : Ends} {W : V → (Hp → Prop) → Prop} (s : Stt c P H env σ S) (eo : σ[i]? = some (some o)) (h : (updSlot i g env S).post (QF c P D0) (XP c c.P0 c.H0))
    (hg : ∀ d d' a, Root c.K c.G P H d a → g d = some d' → ∃ u, Root c.K c.G P (upd H a u) d' a ∧ ∀ Q : Hp → Prop, Q (upd H a u) → W (.ref a) Q) : W o fun H' => D0.nx σ H' := by
  unfold updSlot at h
  have sl := s.sl i
  cases q : sget env i with
  | own d =>
    rw [q] at h sl
    obtain ⟨a, e, hp, h0, r⟩ := sl
    rw [eo] at e; cases e
    dsimp only at h
    cases q2 : g d with
    | none => rw [q2] at h; exact h.elim
    | some d' =>
      rw [q2] at h
      obtain ⟨u, r2, w⟩ := hg _ _ _ r q2
      obtain ⟨u0, hu0, _⟩ := r.there
      exact w _ (h P _ σ (Same.refl P) (s.wrOwn q eo (by rw [hu0]; exact fun z => nomatch z) hp h0 r2))
  | ref n =>
    rw [q] at h sl
    obtain ⟨a, e, hr⟩ := sl
    rw [eo] at e; cases e
    dsimp only at h
    cases q1 : S[n]? with
    | none => rw [q1] at h; exact h.elim
    | some d =>
      rw [q1] at h
      dsimp only at h
      cases q2 : g d with
      | none => rw [q2] at h; exact h.elim
      | some d' =>
        rw [q2] at h
        obtain ⟨b, hb, pb, r⟩ := s.so.at_ n d q1
        rw [hr] at hb; cases hb
        obtain ⟨u, r2, w⟩ := hg _ _ _ r q2
        exact w _ (h P _ σ (Same.refl P) (s.wrRef hr (List.getElem?_eq_some_iff.mp q1).1 r2))
  | _ => rw [q] at h; exact h.elim
def appD (v : D) (d : D) : Option D := match d with
  | .lst l => if l.length < line then some (.lst (l ++ [v])) else none
  | _ => none
def extD (v : D) (d : D) : Option D := match d, v with
  | .lst l, .lst m => if l.length + m.length ≤ line then some (.lst (l ++ m)) else none
  | _, _ => none
def mutS (i : Nat) (g : D → D → Option D) (x : Ex) : Sx := fun env S => match peek env S i with
  | some (.lst _) => (x env S).bind fun v S => updSlot i (g v.d) env S
  | _ => .bad
theorem slot_lst {i : Nat} {l : List D} (s : Stt c P H env σ S) (h : peek env S i = some (.lst l)) : ∃ a xs, σ[i]? = some (some (.ref a)) ∧ SqL c.K H a xs := by
  obtain ⟨o, eo, r⟩ := s.slot h
  cases r with
  | rep rd =>
    cases rd with
    | lst h1 _ => exact ⟨_, _, eo, .inl (.inl (s.le.lst h1))⟩
  | lst h1 _ => exact ⟨_, _, eo, .inl h1⟩
theorem mut_top {i : Nat} {g : D → D → Option D} {r : V → List V → Hp → VK → Prop} (hK : X.K = c.K)
    (hg : ∀ {P H : Hp} {v d d' : D} {y : V} {a : Addr}, Le P H → Rep c.K c.G P v y → Root c.K c.G P H d a → g v d = some d' → ∃ u, Root c.K c.G P (upd H a u) d' a ∧ ∀ Q : VK, Q .non (upd H a u) → r (.ref a) [y] H Q) :
    ∀ D σ H, TSx c (mutS i g x) D σ H → tBM X.K "list" r (tVar i) (tCons (TEx c x) tNil) σ H (fun _ H' => D.nx σ H') := fun D σ H ⟨P, env, S, s, h⟩ => by
  unfold mutS at h
  cases q : peek env S i with
  | none => rw [q] at h; exact h.elim
  | some d0 =>
    rw [q] at h
    cases d0 with
    | lst l =>
      obtain ⟨a, xs, ea, sq⟩ := slot_lst s q
      refine ⟨_, ea, .inl ⟨rfl, xs, by rw [hK]; exact sq⟩, ?_⟩
      refine te_in s h fun r1 S1 v P1 H1 st1 s1 rp h1 => ?_
      exact upd_ok (W := fun o Q => r o [v] H1 fun _ H' => Q H') s1 ea (post_mono h1 (fun fl S3 q3 => q3.step st1.pp) fun _ _ _ q => q) fun d d' a rt e => by
        obtain ⟨u, r2, w⟩ := hg s1.le rp rt e
        exact ⟨u, r2, fun Q q => w _ q⟩
    | _ => exact h.elim
theorem app_root {P H : Hp} {v d d' : D} {y : V} {a : Addr} (le : Le P H) (rv : Rep c.K c.G P v y) (r : Root c.K c.G P H d a) (e : appD v d = some d') : ∃ u, Root c.K c.G P (upd H a u) d' a ∧ ∀ Q : VK, Q .non (upd H a u) → rAppend (.ref a) [y] H Q := by
  cases r with
  | lst h r =>
    unfold appD at e
    dsimp only at e
    split at e
    · rename_i hl
      cases e
      exact ⟨_, .lst upd_same (r.append (.cons rv .nil)), fun Q q => ⟨a, _, y, rfl, rfl, h, by rw [← r.length, ← line_eq]; exact hl, q⟩⟩
    · cases e
  | _ => cases e
theorem ext_root {P H : Hp} {v d d' : D} {y : V} {a : Addr} (le : Le P H) (rv : Rep c.K c.G P v y) (r : Root c.K c.G P H d a) (e : extD v d = some d') : ∃ u, Root c.K c.G P (upd H a u) d' a ∧ ∀ Q : VK, Q .non (upd H a u) → rExtend (.ref a) [y] H Q := by
  cases r with
  | lst h r =>
    unfold extD at e
    cases rv with
    | lst h2 r2 =>
      dsimp only at e
      split at e
      · rename_i hl
        cases e
        exact ⟨_, .lst upd_same (r.append r2), fun Q q => ⟨a, _, _, _, rfl, rfl, h, le.lst h2, by rw [← r.length, ← r2.length, ← line_eq]; exact hl, q⟩⟩
      · cases e
    | _ => cases e
  | dK h r => cases v <;> cases e
  | dT h r => cases v <;> cases e
section
variable {p apos cpos : Pos}
theorem sx_app (i : Nat) (hK : X.K = c.K) (hN : X.N[i]? = some nm) (hv : Vis X.env.scope nm) (hd : (nm == ("__debug__" : Str)) = false) (hcd : (nm == ("__classdict__" : Str)) = false) (ha : PE X e (TEx c x))
    (hbase : attributeBase (.Name nm p) "append" X.env (eval (.Name nm p) X.env) = eval (.Name nm p) X.env)
    (hfew : ((backTo cpos (starEach [e] X.env)).all (fun x => !x.1) && (backToKw cpos (keywordEach [] X.env)).all (fun x => x.1.isSome)
      && decide ([e].length + ([] : List Keyword).length + (if ([] : List Keyword).isEmpty then 0 else 1) < 30)) = true)
    (hline : (apos.endLine == cpos.line) = true) (hs : starEach [e] X.env = (false, eval e X.env) :: starEach [] X.env) (hplain : (backTo cpos (starEach [] X.env)).any (·.1) = false)
    (hsw : swapsWith (.Call (.Attribute (.Name nm p) "append" apos) [e] [] cpos) none pos.line X.env = pure false) : PS X (.Expr (.Call (.Attribute (.Name nm p) "append" apos) [e] [] cpos) pos) (TSx c (mutS i appD x)) :=
  ps_imp (ps_expr (pe_bm PySem.F.plainAttrs_list PySem.F.slot_list_append PySem.F.type_list_append mt_append (pe_var hN hv hd hcd) (pa_cons ha pa_nil hs) hbase hfew hline hs hplain) hsw) fun D σ H h => mut_top hK app_root D σ H h
theorem sx_ext (i : Nat) (hK : X.K = c.K) (hN : X.N[i]? = some nm) (hv : Vis X.env.scope nm) (hd : (nm == ("__debug__" : Str)) = false) (hcd : (nm == ("__classdict__" : Str)) = false) (ha : PE X e (TEx c x))
    (hbase : attributeBase (.Name nm p) "extend" X.env (eval (.Name nm p) X.env) = eval (.Name nm p) X.env)
    (hfew : ((backTo cpos (starEach [e] X.env)).all (fun x => !x.1) && (backToKw cpos (keywordEach [] X.env)).all (fun x => x.1.isSome)
      && decide ([e].length + ([] : List Keyword).length + (if ([] : List Keyword).isEmpty then 0 else 1) < 30)) = true)
    (hline : (apos.endLine == cpos.line) = true) (hs : starEach [e] X.env = (false, eval e X.env) :: starEach [] X.env) (hplain : (backTo cpos (starEach [] X.env)).any (·.1) = false)
    (hsw : swapsWith (.Call (.Attribute (.Name nm p) "extend" apos) [e] [] cpos) none pos.line X.env = pure false) : PS X (.Expr (.Call (.Attribute (.Name nm p) "extend" apos) [e] [] cpos) pos) (TSx c (mutS i extD x)) :=
  ps_imp (ps_expr (pe_bm PySem.F.plainAttrs_list PySem.F.slot_list_extend PySem.F.type_list_extend mt_extend (pe_var hN hv hd hcd) (pa_cons ha pa_nil hs) hbase hfew hline hs hplain) hsw) fun D σ H h => mut_top hK ext_root D σ H h
end
/-! ### xs.index(v) -/
def seqL : D → Option (List D)
  | .lst l => some l
  | .ro l => some l
  | _ => none
def idxL (v : PyData) : List PyData → Nat → Option Nat
  | [], _ => none
  | z :: l, j => if PyData.eqv z v = true then some j else idxL v l (j + 1)
def indexD (d v : D) : Option R := match seqL d with
  | some l => if (okD (.lst l) && okD v) = true then (idxL (D.py v) (pyL l) 0).map fun j => ⟨false, .int (j : Nat)⟩ else none
  | none => none
theorem idxL_ok {v : PyData} : ∀ {l : List PyData} {k j : Nat}, idxL v l k = some j → ∃ m z, j = k + m ∧ l[m]? = some z ∧ PyData.eqv z v = true ∧ ∀ n z', n < m → l[n]? = some z' → PyData.eqv z' v = false
  | [], _, _, e => by cases e
  | z :: l, k, j, e => by
    unfold idxL at e
    split at e
    · rename_i h
      cases e
      exact ⟨0, z, rfl, rfl, h, fun n z' hn => absurd hn (Nat.not_lt_zero n)⟩
    · rename_i h
      obtain ⟨m, z2, e1, e2, e3, e4⟩ := idxL_ok e
      refine ⟨m + 1, z2, by omega, e2, e3, fun n z' hn ez => ?_⟩
      cases n with
      | zero =>
        have : z = z' := by simpa using ez
        subst this
        simpa using h
      | succ n => exact e4 n z' (by omega) ez
/-! ### o.m(e) of a built-in type -/
def opM (t : D → Bool) (f : D → D → Option R) (x y : Ex) : Ex := fun env S => (x env S).bind fun a S => match t a.d with
  | true => (y env S).bind fun b S => (match f a.d b.d with
    | some r => .ok r S
    | none => .bad)
  | false => .bad
def op0 (t : D → Bool) (f : D → Option R) (x : Ex) : Ex := fun env S => (x env S).bind fun a S => match t a.d with
  | true => (match f a.d with
    | some r => .ok r S
    | none => .bad)
  | false => .bad
theorem opM_top {t : D → Bool} {f : D → D → Option R} {T : String} {r : V → List V → Hp → VK → Prop} (hK : X.K = c.K) (ht : ∀ {P H : Hp} {d : D} {v : V}, Le P H → Rep c.K c.G P d v → t d = true → tyV c.K T v H)
    (hr : ∀ {P H : Hp} {S : Sto} {a b : D} {v w : V} {r3 : R} {Q : VK}, Le P H → (∀ a, H a = none → a ∉ c.ρ) → StoOk c.K c.G c.ρ P H S → Rep c.K c.G P a v → Rep c.K c.G P b w → t a = true → f a b = some r3 → QX c P H Q r3 S → r v [w] H Q) :
    ∀ σ H Q, TEx c (opM t f x y) σ H Q → tBM X.K T r (TEx c x) (tCons (TEx c y) tNil) σ H Q := fun σ H Q ⟨P, env, S, s, h⟩ =>
  tex_bind s h fun r1 S1 v P1 H1 st1 s1 rp1 h1 => by
    cases q : t r1.d with
    | false => simp only [q] at h1; exact h1.elim
    | true =>
      simp only [q] at h1
      refine ⟨by rw [hK]; exact ht s1.le rp1 q, tex_bind s1 h1 fun r2 S2 w P2 H2 st2 s2 rp2 h2 => ?_⟩
      cases q2 : f r1.d r2.d with
      | none => simp only [q2] at h2; exact h2.elim
      | some r3 =>
        simp only [q2] at h2
        exact hr s2.le s2.new0 s2.so (rp1.mono st2.pp) rp2 q q2 h2
theorem op0_top {t : D → Bool} {f : D → Option R} {T : String} {r : V → List V → Hp → VK → Prop} (hK : X.K = c.K) (ht : ∀ {P H : Hp} {d : D} {v : V}, Le P H → Rep c.K c.G P d v → t d = true → tyV c.K T v H)
    (hr : ∀ {P H : Hp} {S : Sto} {a : D} {v : V} {r3 : R} {Q : VK}, Le P H → (∀ a, H a = none → a ∉ c.ρ) → StoOk c.K c.G c.ρ P H S → Rep c.K c.G P a v → t a = true → f a = some r3 → QX c P H Q r3 S → r v [] H Q) :
    ∀ σ H Q, TEx c (op0 t f x) σ H Q → tBM0 X.K T r (TEx c x) σ H Q := fun σ H Q ⟨P, env, S, s, h⟩ =>
  tex_bind s h fun r1 S1 v P1 H1 st1 s1 rp1 h1 => by
    cases q : t r1.d with
    | false => simp only [q] at h1; exact h1.elim
    | true =>
      simp only [q] at h1
      cases q2 : f r1.d with
      | none => simp only [q2] at h1; exact h1.elim
      | some r3 =>
        simp only [q2] at h1
        exact ⟨by rw [hK]; exact ht s1.le rp1 q, hr s1.le s1.new0 s1.so rp1 q q2 h1⟩
def isL (d : D) : Bool := (seqL d).isSome
def isS : D → Bool
  | .str _ => true
  | _ => false
theorem seqL_rep {d : D} {l : List D} {P H : Hp} {v : V} (le : Le P H) (e : seqL d = some l) (r : Rep c.K c.G P d v) : ∃ a xs, v = .ref a ∧ SqL c.K H a xs ∧ Reps c.K c.G P l xs := by
  cases r with
  | lst h r => cases e; exact ⟨_, _, rfl, .inl (.inl (le.lst h)), r⟩
  | ro h r => cases e; exact ⟨_, _, rfl, le.sqL h, r⟩
  | _ => cases e
theorem isL_ty {P H : Hp} {d : D} {v : V} (le : Le P H) (r : Rep c.K c.G P d v) (h : isL d = true) : tyV c.K "list" v H := by
  obtain ⟨l, e⟩ := Option.isSome_iff_exists.mp h
  obtain ⟨a, xs, rfl, sq, _⟩ := seqL_rep le e r
  exact .inl ⟨rfl, xs, sq⟩
theorem isS_ty {P H : Hp} {d : D} {v : V} (le : Le P H) (r : Rep c.K c.G P d v) (h : isS d = true) : tyV c.K "str" v H := by
  cases r with
  | str z => rfl
  | _ => cases h
theorem pd_index {o : Expr} {apos cpos : Pos} (hK : X.K = c.K) (hu : X.A.units + 65 < cLine) (ho : PE X o (TEx c x)) (ha : PE X e (TEx c y))
    (hbase : attributeBase o "index" X.env (eval o X.env) = eval o X.env)
    (hfew : ((backTo cpos (starEach [e] X.env)).all (fun x => !x.1) && (backToKw cpos (keywordEach [] X.env)).all (fun x => x.1.isSome)
      && decide ([e].length + ([] : List Keyword).length + (if ([] : List Keyword).isEmpty then 0 else 1) < 30)) = true)
    (hline : (apos.endLine == cpos.line) = true) (hs : starEach [e] X.env = (false, eval e X.env) :: starEach [] X.env) (hplain : (backTo cpos (starEach [] X.env)).any (·.1) = false) :
    PE X (.Call (.Attribute o "index" apos) [e] [] cpos) (TEx c (opM isL indexD x y)) :=
  pe_imp (pe_bm PySem.F.plainAttrs_list PySem.F.slot_list_index PySem.F.type_list_index (mt_indexD hu) ho (pa_cons ha pa_nil hs) hbase hfew hline hs hplain) (opM_top hK isL_ty fun {P H S a b v w r3 Q} le n0 so ra rb ta e q => by
    unfold indexD at e
    cases el : seqL a with
    | none => rw [el] at e; cases e
    | some l =>
      rw [el] at e
      dsimp only at e
      split at e
      · rename_i hk
        obtain ⟨j, e1, e2⟩ := Option.map_eq_some_iff.mp e
        subst e2
        obtain ⟨k1, k2⟩ := Bool.and_eq_true_iff.mp hk
        obtain ⟨k3, k4⟩ := Bool.and_eq_true_iff.mp (show (D.flat (.lst l) && SeqAt.shaped (D.py (.lst l))) = true from k1)
        obtain ⟨k5, k6⟩ := Bool.and_eq_true_iff.mp (show (D.flat b && SeqAt.shaped (D.py b)) = true from k2)
        obtain ⟨p, xs, rfl, sq, rx⟩ := seqL_rep le el ra
        obtain ⟨m, z, e3, e4, e5, e6⟩ := idxL_ok e1
        have e7 : j = m := by omega
        subst e7
        rw [hK]
        exact ⟨p, w, D.py b, pyL l, j, z, rfl, rfl, .lst sq (Reps.dp le rx k3), Rep.dp le rb k5, k4, k6, e4, e5, e6, qx_ret q le so (.int _)⟩
      · cases e)
/-! ### max(a, b) -/
def max2D (ds : List D) : Option R := match ds with
  | [.int i, .int j] => some ⟨false, .int (if j > i then j else i)⟩
  | _ => none
theorem cd_max2 (hc : X.calm = true) : CallR X (.builtin "max") (rBi c max2D) := fun pins s σ H xs us Q I r ⟨P, S, ds, r3, le, n0, so, rr, e, q⟩ => by
  refine call_max2 hc pins s σ H xs us Q I r ?_
  unfold max2D at e
  split at e
  · rename_i i j
    cases e
    cases rr with
    | cons r1 r2 =>
      cases r2 with
      | cons r2 r3 =>
        cases r1; cases r2; cases r3
        exact ⟨i, j, rfl, qx_ret q le so (.int _)⟩
  · cases e
theorem pd_max2 {l : Lx} {p : Pos} {es : List Expr} (hc : X.calm = true) (hg : Gl X "max") (hm : X.mg "max" = none) (ha : PA X (e :: es) (TLx c l)) (he : starEach (e :: es) X.env = (false, eval e X.env) :: starEach es X.env) (hpl : (backTo pos (starEach es X.env)).any (·.1) = false) :
    PE X (.Call (.Name "max" p) (e :: es) [] pos) (TEx c (biX max2D l)) :=
  pe_imp (pe_callB (cd_max2 hc) hg hm (by decide +kernel) ha (by decide) (by decide) he hpl) bi_top
end
/-! ### what a module holds for good: ints, texts, tuples of such -/
mutual
def litB (K : PySem.W.Frag) : D → Value → Bool
  | .int i, .int j _ => decide (i = j)
  | .str s, .str t _ => decide (s = t)
  | .rt l, .ref a => (match K.lookup a with
    | some ⟨.type c, _, .seq its _, _⟩ => decide (c = "tuple") && decide (its.size ≤ line) && litsB K l its.toList
    | _ => false)
  | _, _ => false
def litsB (K : PySem.W.Frag) : List D → List Value → Bool
  | [], [] => true
  | d :: l, v :: vs => litB K d v && litsB K l vs
  | _, _ => false
end
section
variable {K : PySem.W.Frag} {G : Nat → Option (Addr × List Str)}
mutual
theorem litB_ok : ∀ {d : D} {u : Value}, litB K d u = true → ∃ v, RelV v u ∧ ∀ P, Rep K G P d v
  | .int i, u, h => by
    cases u with
    | int j t => exact ⟨.int j, ⟨t, rfl⟩, fun P => by rw [show i = j from of_decide_eq_true h]; exact .int j⟩
    | _ => simp [litB] at h
  | .str i, u, h => by
    cases u with
    | str j t => exact ⟨.str j, ⟨t, rfl⟩, fun P => by rw [show i = j from of_decide_eq_true h]; exact .str j⟩
    | _ => simp [litB] at h
  | .rt l, u, h => by
    cases u with
    | ref a =>
      unfold litB at h
      split at h
      · rename_i c d its n sl q
        simp only [Bool.and_eq_true, decide_eq_true_eq] at h
        obtain ⟨⟨h1, h2⟩, h3⟩ := h
        obtain ⟨vs, r, rp⟩ := litsB_ok h3
        exact ⟨.ref a, rfl, fun P => .rt (.inr ⟨_, its, n, q, by rw [h1], rfl, by rw [← line_eq]; exact h2, r⟩) (rp P)⟩
      · cases h
    | _ => simp [litB] at h
  | .non, u, h => by simp [litB] at h
  | .bl _, u, h => by simp [litB] at h
  | .tup _, u, h => by simp [litB] at h
  | .lst _, u, h => by simp [litB] at h
  | .ro _, u, h => by simp [litB] at h
  | .dK _, u, h => by simp [litB] at h
  | .dT _, u, h => by simp [litB] at h
  | .obj _ _, u, h => by simp [litB] at h
theorem litsB_ok : ∀ {l : List D} {us : List Value}, litsB K l us = true → ∃ vs, Vals vs us ∧ ∀ P, Reps K G P l vs
  | [], us, h => by
    cases us with
    | nil => exact ⟨[], .nil, fun _ => .nil⟩
    | cons _ _ => simp [litsB] at h
  | d :: l, us, h => by
    cases us with
    | nil => simp [litsB] at h
    | cons u us =>
      unfold litsB at h
      obtain ⟨h1, h2⟩ := Bool.and_eq_true_iff.mp h
      obtain ⟨v, r, rp⟩ := litB_ok h1
      obtain ⟨vs, r2, rp2⟩ := litsB_ok h2
      exact ⟨v :: vs, .cons r r2, fun P => .cons (rp P) (rp2 P)⟩
end
end
def KLit (K : PySem.W.Frag) (G : Nat → Option (Addr × List Str)) (a : Addr) (d : D) : Prop := ∀ P, Rep K G P d (.ref a)
def litC (x : Str) (d : D) (K : PySem.W.Frag) : Bool := litB K d (.ref (He.ga K x))
theorem litC_ok {K : PySem.W.Frag} {G : Nat → Option (Addr × List Str)} {x : Str} {d : D} (h : litC x d K = true) : KLit K G (He.ga K x) d := by
  obtain ⟨v, r, rp⟩ := litB_ok (G := G) h
  cases v with
  | ref b => cases r; exact rp
  | _ => first | (cases r; done) | (obtain ⟨_, r⟩ := r; cases r)
/-- .. with ints as keys -/
def entsB (K : PySem.W.Frag) : List DictEntry → List (Int × D) → Bool
  | [], [] => true
  | e :: es, (k, d) :: l => keyIs (.inl k) e.key && decide (e.hash = hashInt k) && litB K d e.val && entsB K es l
  | _, _ => false
def tabD (x : Str) (l : List (Int × D)) (K : PySem.W.Frag) : Bool := match K.lookup (He.ga K x) with
  | some ⟨.type c, none, .dict es _, sl⟩ => decide (c = "dict") && decide (sl = #[]) && entsB K es.toList l && !(He.ga K x == sysModules)
  | _ => false
def tbD (l : List (Int × D)) : List (Key × D) := l.map fun p => (.inl p.1, p.2)
theorem entsB_ok {K : PySem.W.Frag} {G : Nat → Option (Addr × List Str)} {w : World} : ∀ {es : List DictEntry} {l : List (Int × D)}, entsB K es l = true → KEnt K G w es (tbD l)
  | [], [], _ => .nil
  | [], _ :: _, h => by cases h
  | _ :: _, [], h => by cases h
  | e :: es, (k, d) :: l, h => by
    simp only [entsB, Bool.and_eq_true, decide_eq_true_eq] at h
    obtain ⟨⟨⟨h1, h2⟩, h3⟩, h4⟩ := h
    exact .cons h1 h2 (litB_ok h3) (entsB_ok h4)
theorem tabD_ok {K : PySem.W.Frag} {G : Nat → Option (Addr × List Str)} {w : World} {x : Str} {l : List (Int × D)} (h : tabD x l K = true) (nd : ((tbD l).map (·.1)).Nodup) : KTab K G w (He.ga K x) (tbD l) := by
  unfold tabD at h
  split at h
  · rename_i c es n sl q
    simp only [Bool.and_eq_true, decide_eq_true_eq, Bool.not_eq_true'] at h
    obtain ⟨⟨⟨rfl, rfl⟩, h3⟩, h4⟩ := h
    exact ⟨es, n, q, entsB_ok h3, h4, nd⟩
  · cases h
theorem pd_klit {X : Cx} {c : Cc} {nm : Str} {pos : Pos} {a : Addr} {d : D} (t : KLit X.K c.G a d) (hK : X.K = c.K) (hg : Gl X nm) (hm : X.mg nm = some (.ref a)) (hd : (nm == ("__debug__" : Str)) = false) : PE X (.Name nm pos) (TEx c (con d)) :=
  pd_con (pe_glob hg hm (show RelV (.ref a) (.ref a) from rfl) hd) fun P => by rw [← hK]; exact t P
end Pv

set_option Elab.async false
set_option linter.all false
set_option maxRecDepth 100000
namespace Pv
open PySem PySem.Spec PyProof.Rows L2

/-! ### the pairs of a dict that stays as it is: one locked, or one of a module -/
def HasO (K : PySem.W.Frag) (H : Hp) (d : Addr) (o : Obj) : Prop := (∃ u, H d = some (.frz o u)) ∨ K.lookup d = some o
theorem HasO.get {X : Cx} {pins : List (Addr × Obj)} {σ : L2.St} {H : Hp} {s : Shared} {d : Addr} {o : Obj} (h : HasO X.K H d o) (I : Inv X pins σ H s) : s.heap.get? d = some o := by
  rcases h with ⟨u, h⟩ | h
  · exact (I.hok d _ h).1
  · exact I.kIn _ _ h
def EntV (p : V × V) (e : DictEntry) : Prop := RelV p.1 e.key ∧ RelV p.2 e.val
def ItR (K : PySem.W.Frag) (d : Addr) (o : Obj) (kvs : List (V × V)) : It where
  go := fun i H => HasO K H d o ∧ i < kvs.length
  yld := fun i H x H' => ∃ T p, kvs[i]? = some p ∧ x = .ref T ∧ H T = none ∧ H' = upd H T (.tup [p.1, p.2])
  stop := fun i H => HasO K H d o ∧ kvs.length ≤ i
theorem turn_raw {P : Program} {w : World} {K : PySem.W.Frag} {elts : List Expr} {kk : Nat} {tpos : Pos} {d : Addr} {o : Obj} {es : Array DictEntry} {ep : Nat} {kvs : List (V × V)} (it : Addr) (ho : o.ExactDict) (hd : o.data = .dict es ep) (hv : Paired EntV kvs es.toList) :
    Turn P w K (.Tuple elts kk tpos) (ItR K d o kvs) [it] it (fun i h => ∃ a b, IsItemIter h it d i es.size ep a b) where
  mem := List.mem_singleton.mpr rfl
  obj := fun i h ⟨a, b, e⟩ c hc => by
    cases List.mem_singleton.mp hc
    exact ⟨_, e, fun v z => nomatch z⟩
  keep := fun i h h' ⟨a, b, e⟩ k => ⟨a, b, k it (List.mem_singleton.mpr rfl) _ e⟩
  item := by
    intro X hP hw hK hc i pins s σ H E I hf ⟨a, b, st⟩ ⟨g1, g2⟩
    subst hP hw hK
    have len : kvs.length = es.size := by rw [Paired.length hv]; exact Array.length_toList
    have lt : i < es.size := by omega
    have old : it < s.heap.objs.size := Heap.lt_size st
    have ek : kvs[i]? = some kvs[i] := List.getElem?_eq_getElem g2
    have en : EntV kvs[i] es[i] := by
      obtain ⟨e, q1, q2⟩ := paired_get hv ek
      rw [Array.getElem?_toList, Array.getElem?_eq_getElem lt] at q1
      cases q1
      exact q2
    refine wpAny_pyNext_items_item_raw st ⟨o, g1.get I, ho, hd⟩ lt fun h1 out hT hz kp => ⟨_, rfl, wpAny_letOwnedTupleGo_items (s := { s with heap := h1 }) out fun h2 in2 sb => ?_⟩
    have new : ObjOk X.prog X.w (upd H s.heap.objs.size (.tup [kvs[i].1, kvs[i].2])) h2 s.heap.objs.size (.tup [kvs[i].1, kvs[i].2]) :=
      ⟨by show 2 ≤ sizeLine; decide, [es[i].key, es[i].val], .cons en.1 (.cons en.2 .nil), ⟨_, (sb.2 _ (Nat.ne_of_gt old)).trans hT, rfl, _, rfl⟩⟩
    refine ⟨.ref s.heap.objs.size, _, I.turnedNew (t' := s.toks) (ch := [it]) (fun c oc hc e => (sb.2 c (by simpa using hc)).trans (kp c oc (by simpa using hc) e)) hf (Nat.le_refl _) new, rfl, ⟨_, kvs[i], ek, rfl, I.hok.fresh (Nat.le_refl _), rfl⟩, ⟨_, _, in2⟩, fun c hc => ?_⟩
    cases List.mem_singleton.mp hc
    rw [upd_ne (Nat.ne_of_lt old)]
    exact (hf it (List.mem_singleton.mpr rfl)).1
  done := by
    intro X hP hw hK hc i pins s σ H E I hf ⟨a, b, st⟩ ⟨g1, g2⟩
    subst hP hw hK
    have len : kvs.length = es.size := by rw [Paired.length hv]; exact Array.length_toList
    obtain ⟨f0, f1, f2, f3, f4, f5⟩ := hf it (List.mem_singleton.mpr rfl)
    exact wpAny_pyNext_items_end_raw (I.ok.hd hc) st ⟨o, g1.get I, ho, hd⟩ (by omega) fun h1 eb => ⟨rfl, I.turned (t' := s.toks) (fun c oc nc e => eb c oc nc e) f0 f1 f3 f4 f5⟩
  self := fun A i s Q E ⟨_, _, e⟩ h => PySem.W.kcp_self e h
def iRaw (K : PySem.W.Frag) (td : TE) : TI := fun σ H R => td σ H fun x H1 => ∃ d o es ep kvs, x = V.ref d ∧ (d == sysModules) = false ∧ HasO K H1 d o ∧ o.ExactDict ∧ o.data = .dict es ep ∧ Paired EntV kvs es.toList ∧ R (ItR K d o kvs) H1
theorem pi_raw {X : Cx} {e : Expr} {td : TE} {elts : List Expr} {kk : Nat} {tpos apos cpos : Pos} (he : PE X e td) (hbase : attributeBase e "items" X.env (eval e X.env) = eval e X.env) (hline : (apos.endLine == cpos.line) = true) :
    PI X (.Tuple elts kk tpos) (.Call (.Attribute e "items" apos) [] [] cpos) (iRaw X.K td) := ⟨fun pins s σ H R I h => by
  refine wpAny_Call_method (T := "dict") (id := "dict.items") hbase rfl hline F.plainAttrs_dict F.slot_dict_items F.type_dict_items (thn (he.run pins s σ H _ I h) fun u s1 ⟨x, H1, I1, rx, d, o, es, ep, kvs, ex, hs, g, xd, hdt, hv, q⟩ => ?_)
  subst ex
  cases (show u = Value.ref d from rx)
  have raw : s1.heap.DictRaw d es ep := ⟨o, g.get I1, xd, hdt⟩
  refine ⟨raw.typeIs, fun a ea => by cases ea; exact ⟨o, g.get I1, xd.2.1⟩, method_meetsIn (s := s1) F.slot_dict_items F.entry_dict_items rfl (PySem.evalArgs_none ⟨rfl, raw.typeIs, F.args_dict_items_1 _, _, meets_dict_items_raw d hs, ⟨es, ep, raw⟩, ?_⟩)⟩
  refine wpAny_pyIter_items_raw ⟨_, Heap.get?_push_size _ rfl, rfl, rfl⟩ (raw.at fun ob e => Heap.get?_push_of_some _ e) (pi_one (tk := s1.toks) (I1.kept (t' := s1.toks) fun b ob e => Heap.get?_push_of_some _ e) _ (turn_raw _ xd hdt hv) ⟨.none, .none, Heap.get?_push_size _ rfl⟩ q)⟩
theorem walk_raw {K : PySem.W.Frag} {d : Addr} {o : Obj} {kvs : List (V × V)} : Walk (ItR K d o kvs) kvs.length (fun H => HasO K H d o) (YPair (fun i => kvs[i]?.map Prod.fst) (fun i => kvs[i]?.map Prod.snd)) where
  goes := fun i H hi q => ⟨q, hi⟩
  stops := fun H q => ⟨q, Nat.le_refl _⟩
  yields := fun i H x H' hi q ⟨T, p, e1, e2, e3, e4⟩ => ⟨T, p.1, p.2, e2, e3, e4, by simp [e1], by simp [e1]⟩
/-! ### name.items(), a dict of the module -/
theorem KEnt.ents {K : PySem.W.Frag} {G : Nat → Option (Addr × List Str)} {w : World} : ∀ {es : List DictEntry} {tb : List (Key × D)}, KEnt K G w es tb →
    ∃ kvs : List (V × V), Paired EntV kvs es ∧ kvs.length = tb.length ∧ ∀ (i : Nat) (p : V × V), kvs[i]? = some p → ∃ q : Key × D, tb[i]? = some q ∧ p.1 = kV q.1 ∧ ∀ P, Rep K G P q.2 p.2
  | _, _, .nil => ⟨[], .nil, rfl, fun i p e => by simp at e⟩
  | _, _, .cons (k := k) (d := d) h1 h2 ⟨v, h3, h4⟩ t => by
    obtain ⟨kvs, g1, g2, g3⟩ := KEnt.ents t
    refine ⟨(kV k, v) :: kvs, .cons ⟨relV_key h1, h3⟩ g1, congrArg (· + 1) g2, fun i p e => ?_⟩
    cases i with
    | zero =>
      have e2 : (kV k, v) = p := by simpa using e
      subst e2
      exact ⟨(k, d), rfl, rfl, h4⟩
    | succ i =>
      obtain ⟨q, q1, q2⟩ := g3 i p (by simpa using e)
      exact ⟨q, by simpa using q1, q2⟩
def iPairs (tb : List (Key × D)) : Ix := fun _ S => .ok (tb.map fun p => .tup [keyD p.1, p.2]) S
section
variable {X : Cx} {c : Cc} {P H P1 H1 : Hp} {env : SEnv} {σ : L2.St} {S S1 : Sto} {x y z : Ex} {pos : Pos} {e tgt : Expr} {nm : Str}
theorem ti_itemsK {A0 : Addr} {tb : List (Key × D)} {elts : List Expr} {kk : Nat} {p tpos apos cpos : Pos} (t : KTab X.K c.G X.w A0 tb) (hK : X.K = c.K) (hg : Gl X nm) (hm : X.mg nm = some (.ref A0)) (hd : (nm == ("__debug__" : Str)) = false)
    (hbase : attributeBase (.Name nm p) "items" X.env (eval (.Name nm p) X.env) = eval (.Name nm p) X.env) (hline : (apos.endLine == cpos.line) = true) :
    PI X (.Tuple elts kk tpos) (.Call (.Attribute (.Name nm p) "items" apos) [] [] cpos) (TIx c (iPairs tb)) :=
  pi_imp (pi_raw (pe_glob hg hm (show RelV (.ref A0) (.ref A0) from rfl) hd) hbase hline) fun σ H R ⟨P, env, S, s, h⟩ => by
    obtain ⟨es, n, hl, ke, lo, nd⟩ := t
    obtain ⟨kvs, g1, g2, g3⟩ := ke.ents
    refine ⟨A0, _, es, n, kvs, rfl, lo, .inr hl, ⟨rfl, rfl, rfl⟩, rfl, g1, h _ P H (Step.refl s.le) s.so ?_⟩
    have w := walk_raw (K := X.K) (d := A0) (o := ⟨.type "dict", none, .dict es n, #[]⟩) (kvs := kvs)
    rw [show kvs.length = (tb.map fun p => D.tup [keyD p.1, p.2]).length by rw [List.length_map, g2]] at w
    refine walkD_pair w (fun H _ => .inr hl) fun i x y hi ex ey => ?_
    obtain ⟨p, ep, rfl⟩ := Option.map_eq_some_iff.mp ex
    obtain ⟨p', ep', rfl⟩ := Option.map_eq_some_iff.mp ey
    rw [ep] at ep'; cases ep'
    obtain ⟨q, q1, q2, q3⟩ := g3 i p ep
    refine ⟨keyD q.1, q.2, by rw [List.getElem?_map, q1]; rfl, ?_, ?_⟩
    · rw [q2]; exact key_rep q.1
    · rw [← hK]; exact q3 _
/-! ### {k: v for ..}, keys ints or texts -/
def dcL (tg : Tx) (t k e : Ex) (env : SEnv) : List D → List (Key × D) → Sto → Out (List (Key × D))
  | [], acc, S => .ok acc S
  | d :: ds, acc, S => match tg env d with
    | none => .bad
    | some env1 => (nox (t env1 S)).bind fun r S => match r with
      | ⟨false, .bl true⟩ => (nox (k env1 S)).bind fun kv S => (nox (e env1 S)).bind fun v S => (match keyOf kv.d with
        | some kk => dcL tg t k e env ds (putD acc kk v.d) S
        | none => .bad)
      | ⟨false, .bl false⟩ => dcL tg t k e env ds acc S
      | _ => .bad
def dcX (vs : List Nat) (tg : Tx) (it : Ix) (t k e : Ex) : Ex := fun env S => (it env S).bind fun ds S => if ds.length ≤ line then (dcL tg t k e (clr env vs) ds [] S).bind fun out S => .ok ⟨true, .dK out⟩ S else .bad
theorem dc_it {J : It} {n : Nat} {G : Hp → Prop} {Y : Nat → Hp → V → Hp → Prop} (w : Walk J n G Y) {g : TG} {tt : TT} {tk tv : TE} {vs : List Nat} {σ : L2.St} {H1 : Hp} {D0 : Addr} {Qd : Hp → Prop} (Pv : Nat → Hp → Prop) (h0 : Pv 0 (upd H1 D0 (.dK []))) (hG : ∀ i H, Pv i H → G H)
    (hs : ∀ i x H H', i < n → Pv i H → Y i H x H' → g x (wipe σ vs) H' fun σ2 H2 => wipe σ2 vs = wipe σ vs ∧ tt σ2 H2 fun b H3 =>
      if b = true then tk σ2 H3 fun y H4 => tv σ2 H4 fun z H5 => ∃ kvs k, y = kV k ∧ H5 D0 = some (.dK kvs) ∧ kvs.length < sizeLine ∧ Pv (i + 1) (upd H5 D0 (.dK (putK kvs k z))) else Pv (i + 1) H3) (hd : ∀ H, Pv n H → Qd H) :
    ∃ W : Nat → Nat → Hp → Prop, (∃ m, W 0 m (upd H1 D0 (.dK []))) ∧ ∀ i m H, W i m H →
      (J.stop i H ∧ Qd H) ∨ (J.go i H ∧ ∃ Nx : Hp → Prop, (∀ H', Nx H' → ∃ m', m' < m ∧ W (i + 1) m' H') ∧ ∀ x H', J.yld i H x H' → g x (wipe σ vs) H' fun σ2 H2 => wipe σ2 vs = wipe σ vs ∧ tt σ2 H2 fun b H3 =>
        if b = true then tk σ2 H3 fun y H4 => tv σ2 H4 fun z H5 => ∃ kvs k, y = kV k ∧ H5 D0 = some (.dK kvs) ∧ kvs.length < sizeLine ∧ Nx (upd H5 D0 (.dK (putK kvs k z))) else Nx H3) :=
  ⟨fun i m H => m + i = n ∧ Pv i H, ⟨n, rfl, h0⟩, fun i m H ⟨e, p⟩ => by
    cases m with
    | zero =>
      have e2 : i = n := by omega
      subst e2
      exact .inl ⟨w.stops H (hG i H p), hd H p⟩
    | succ m => exact .inr ⟨w.goes i H (by omega) (hG i H p), Pv (i + 1), fun H' p' => ⟨m, Nat.lt_succ_self m, by omega, p'⟩, fun x H' y => hs i x H H' (by omega) p (w.yields i H x H' (by omega) (hG i H p) y)⟩⟩
theorem putD_len {κ : Type} [DecidableEq κ] (l : List (κ × D)) (k : κ) (d : D) : (putD l k d).length ≤ l.length + 1 := by
  unfold putD
  split
  · rw [List.length_map]; exact Nat.le_succ _
  · rw [List.length_append]; exact Nat.le_refl _
theorem dc_top {vs : List Nat} {tg : Tx} {it : Ix} {t k e : Ex} {is : List Nat} (his : ∀ i ∈ is, i ∈ vs) : ∀ σ H Q, TEx c (dcX vs tg it t k e) σ H Q → tDc (TIe c it) (TGx c.in0 is tg) (TTx c.in0 t) (TEx c.in0 k) (TEx c.in0 e) vs σ H Q := by
  rintro σ H Q ⟨P, env, S, s, h⟩
  refine ⟨P, env, S, s, post_mono (post_bind.mp h) (fun ds S1 q J P1 H1 st so wd D0 nD => ?_) fun _ _ _ q => q⟩
  have s1 := s.step st so
  have hl : ds.length ≤ line := by
    by_cases hl : ds.length ≤ line
    · exact hl
    · rw [if_neg hl] at q; exact q.elim
  rw [if_pos hl] at q
  have q := post_bind.mp q
  have nP : P1 D0 = none := st.le.none nD
  have n0 : c.H0 D0 = none := s1.st.dom D0 nD
  have nown : ∀ j, (sget (Pv.clr env vs) j).isOwn = true → (wipe σ vs)[j]? ≠ some (some (.ref D0)) := fun j hj e2 => by
    obtain ⟨_, _, u, hu⟩ := (s1.clr vs).ownAt hj e2
    rw [nD] at hu; cases hu
  have kD : ∀ {Pa Ha Pb Hb : Hp}, Step c.ρ Pa Ha Pb Hb → Pa D0 = none → (∀ {w}, Ha D0 = some (.dK w) → Pb D0 = none ∧ Hb D0 = some (.dK w)) := fun {Pa Ha Pb Hb} sx pa {w} hw =>
    ⟨sx.new D0 _ (s.r0 D0 n0) pa hw (fun xs z => nomatch z), sx.hh D0 _ hw (s.r0 D0 n0)⟩
  have back : ∀ {Pk Hk : Hp} {Sk : Sto}, Step c.ρ P1 H1 Pk Hk → StoOk c.K c.G c.ρ Pk Hk Sk → Stt c Pk Hk (Pv.clr env vs) (wipe σ vs) Sk := fun {Pk Hk Sk} a b => (s1.clr vs).step a b
  refine dc_it wd.w (D0 := D0) (fun i H2 => ∃ P2 S2 acc av, Stt c P2 H2 (Pv.clr env vs) (wipe σ vs) S2 ∧ Step c.ρ P1 H1 P2 H2 ∧ P2 D0 = none ∧ H2 D0 = some (.dK av) ∧ RepK c.K c.G P2 acc av ∧ acc.length ≤ i ∧
      (dcL tg t k e (Pv.clr env vs) (ds.drop i) acc S2).post (fun out S' => QX c P H Q ⟨true, .dK out⟩ S') (XP c P H))
    ⟨P1, S1, [], [], back (Step.alloc st.le nD) (so.alloc st.le nD), Step.alloc st.le nD, nP, upd_same, .nil, Nat.le_refl _, by rw [List.drop_zero]; exact q⟩ (fun i H2 ⟨P2, _, _, _, _, st2, _⟩ => ⟨P2, st2⟩) ?_ ?_
  · rintro i x H2 H3 hi ⟨P2, S2, acc, av, s2, st2, p2, d2, r2, l2, q2⟩ ⟨d, hd, y⟩
    obtain ⟨P3, st3, so3, r3⟩ := y P2 S2 st2.pp s2.le s2.so
    have s3 := s2.step st3 so3
    have hdr : ds.drop i = d :: ds.drop (i + 1) := by
      rw [List.drop_eq_getElem_cons hi]
      rw [List.getElem?_eq_getElem hi] at hd
      rw [Option.some.inj hd]
    rw [hdr] at q2
    unfold dcL at q2
    obtain ⟨p3, d3⟩ := kD st3 p2 d2
    cases qt : tg (Pv.clr env vs) d with
    | none => rw [qt] at q2; exact q2.elim
    | some env3 =>
      rw [qt] at q2
      refine ⟨P3, Pv.clr env vs, S2, d, env3, s3.in0, r3, qt, fun σ' s4' hw => ⟨(hw vs his).trans (lc_top.wipe_wipe σ vs), ?_⟩⟩
      have s4 : Stt c P3 H3 env3 σ' S2 := ⟨s4'.st, s4'.r0, s4'.so, s4'.ln, fun j => by have := s4'.sl j; cases hq : sget env3 j <;> rw [hq] at this <;> exact this, s4'.dj⟩
      refine nox_tt s4 q2 (fun r Sx q => ite_inv q) fun b S5 P5 H5 st5 s5 q5 => ?_
      obtain ⟨p5, d5⟩ := kD st5 p3 d3
      have st15 := st2.trans (st3.trans st5)
      cases b with
      | false => exact iteF ⟨P5, S5, acc, av, back st15 s5.so, st15, p5, d5, r2.mono (st3.pp.trans st5.pp), Nat.le_succ_of_le l2, q5⟩
      | true =>
        refine iteT (nox_in s5 q5 fun rk S6 vk P6 H6 st6 s6 r6 q6 => nox_in s6 q6 fun rv S7 vv P7 H7 st7 s7 r7 q7 => ?_)
        obtain ⟨p6, d6⟩ := kD st6 p5 d5
        obtain ⟨p7, d7⟩ := kD st7 p6 d6
        have st17 := st15.trans (st6.trans st7)
        cases qk : keyOf rk.d with
        | none => rw [qk] at q7; exact q7.elim
        | some kk =>
          rw [qk] at q7
          have la := r2.length
          have rr := r2.mono (st3.pp.trans (st5.pp.trans (st6.pp.trans st7.pp)))
          refine ⟨av, kk, keyOf_rep qk r6, d7, by rw [← la, ← line_eq]; omega, P7, S7, putD acc kk rv.d, putK av kk vv, ?_, st17.wr nD p7 (by rw [d7]; exact fun z => nomatch z), p7, upd_same, rep_putK r7 rr, Nat.le_trans (putD_len _ _ _) (Nat.succ_le_succ l2), q7⟩
          exact (back st17 s7.so).wr n0 p7 (by rw [d7]; exact fun z => nomatch z) nown
  · rintro H2 ⟨P2, S2, acc, av, s2, st2, p2, d2, r2, l2, q2⟩
    rw [List.drop_length] at q2
    refine (show QX c P H Q ⟨true, .dK acc⟩ S2 from q2) (.ref D0) P2 H2 (st.trans st2) s2.so ?_
    unfold RepR
    rw [if_pos rfl]
    exact ⟨D0, rfl, st.dom D0 nD, p2, .dK d2 r2⟩
theorem pd_dc {kx vx iter : Expr} {ifs : List Expr} {scope : Scope} {own : List (Str × Nat)} {tg : Tx} {it : Ix} {t k e : Ex} {is vs : List Nat} (hc : X.calm = true) (hN : X.N.Nodup) (hi : PI X tgt iter (TIe c it)) (ok : BlkOk X.N X.env.scope scope own) (hvs : own.map (·.2) = vs) (his : ∀ i ∈ is, i ∈ vs)
    (hg : ∀ (s : Shared) (H : Hp) (C : Addr) (cl : List (Str × Addr)) (fp : List Addr), PG (X.blk s H scope (compEnvC scope cl C X.env) fp) tgt (TGx c.in0 is tg)) (ht : ∀ (s : Shared) (H : Hp) (C : Addr) (cl : List (Str × Addr)) (fp : List Addr), PTs (X.blk s H scope (compEnvC scope cl C X.env) fp) ifs (TTx c.in0 t))
    (hk : ∀ (s : Shared) (H : Hp) (C : Addr) (cl : List (Str × Addr)) (fp : List Addr), PE (X.blk s H scope (compEnvC scope cl C X.env) fp) kx (TEx c.in0 k))
    (he : ∀ (s : Shared) (H : Hp) (C : Addr) (cl : List (Str × Addr)) (fp : List Addr), PE (X.blk s H scope (compEnvC scope cl C X.env) fp) vx (TEx c.in0 e)) (hs : ∀ x, foldedSetIterable iter X.env x = pure x) :
    PE X (.DictComp kx vx [⟨tgt, iter, ifs, 0⟩] scope pos) (TEx c (dcX vs tg it t k e)) := by
  subst hvs
  exact pe_imp (pe_dc hc hN hi ok hg ht hk he hs) (dc_top his)
/-- name = {..}, stored while the comprehension's frame still stands -/
theorem ps_setDc {i : Nat} {y : Str} {py spos : Pos} {kx vx iter : Expr} {ifs : List Expr} {scope : Scope} {own : List (Str × Nat)} {wi : TI} {g : TG} {tt : TT} {tk tv : TE} (hc : X.calm = true) (hN : X.N.Nodup) (hy : X.N[i]? = some y) (hyl : X.env.scope.names.lookup y = some .local)
    (hsw : swapsWith (.DictComp kx vx [⟨tgt, iter, ifs, 0⟩] scope pos) (some (.Name y py)) spos.line X.env = pure true) (hi : PI X tgt iter wi) (ok : BlkOk X.N X.env.scope scope own)
    (hg : ∀ (s : Shared) (H : Hp) (C : Addr) (cl : List (Str × Addr)) (fp : List Addr), PG (X.blk s H scope (compEnvC scope cl C X.env) fp) tgt g) (ht : ∀ (s : Shared) (H : Hp) (C : Addr) (cl : List (Str × Addr)) (fp : List Addr), PTs (X.blk s H scope (compEnvC scope cl C X.env) fp) ifs tt)
    (hk : ∀ (s : Shared) (H : Hp) (C : Addr) (cl : List (Str × Addr)) (fp : List Addr), PE (X.blk s H scope (compEnvC scope cl C X.env) fp) kx tk) (he : ∀ (s : Shared) (H : Hp) (C : Addr) (cl : List (Str × Addr)) (fp : List Addr), PE (X.blk s H scope (compEnvC scope cl C X.env) fp) vx tv)
    (hs : ∀ x, foldedSetIterable iter X.env x = pure x) : PS X (.Assign [.Name y py] (.DictComp kx vx [⟨tgt, iter, ifs, 0⟩] scope pos) spos) (tAsg (tDc wi g tt tk tv (own.map (·.2))) (gName i)) := ⟨fun pins s σ H D I h => by
  rw [exec_Assign_Name_used _ _ _ _ hsw]
  have core : wpAny (model X.prog X.w) X.A (comprehension (.DictComp kx vx [⟨tgt, iter, ifs, 0⟩] scope pos) scope X.env (firstIterPos [⟨tgt, iter, ifs, 0⟩] pos) newDict false (eval iter X.env) (some (assign (.Name y py) X.env))) (fun _ t => SP X pins D .next t) X.xe s :=
    dc_core (Qf := fun _ t => SP X pins D .next t) hc hN I hi ok hg ht hk he hs (show tDc wi g tt tk tv (own.map (·.2)) σ H fun x H1 => gName i x σ H1 D.nx from h) fun B C t m H1 I1 q hn ⟨f0, f1, f2, f3, f4, f5⟩ => by
      show wpAny _ _ (assign (.Name y py) X.env (.ref B)) _ _ _
      refine wpAny_assign_Name (store_ok2 (v := V.ref B) I1 hN hy (.inl hyl) rfl (fun t2 I2 ⟨b, sb, hb⟩ => ⟨m, hn.sameBut sb ?_, fun h3 sb3 => ⟨_, H1, I2.turned (t' := t2.toks) (fun d o nd e => (sb3.2 d nd).trans e) f0 f1 f3 f4 f5, q⟩⟩) (.inr hyl))
      rcases hb with rfl | hb
      · exact f1
      · exact fun e => f4 y b hb e.symm
  exact wpAny_bind (wpAny_standAt (wpAny_bind (wpAny_bind (thn core fun _ t q => wpAny_pure (wpAny_pure q)))))⟩
theorem sx_setDc {i : Nat} {y : Str} {py spos : Pos} {kx vx iter : Expr} {ifs : List Expr} {scope : Scope} {own : List (Str × Nat)} {tg : Tx} {it : Ix} {t k e : Ex} {is vs : List Nat} (hc : X.calm = true) (hN : X.N.Nodup) (hy : X.N[i]? = some y) (hyl : X.env.scope.names.lookup y = some .local)
    (hsw : swapsWith (.DictComp kx vx [⟨tgt, iter, ifs, 0⟩] scope pos) (some (.Name y py)) spos.line X.env = pure true) (hi : PI X tgt iter (TIe c it)) (ok : BlkOk X.N X.env.scope scope own) (hvs : own.map (·.2) = vs) (his : ∀ i ∈ is, i ∈ vs)
    (hg : ∀ (s : Shared) (H : Hp) (C : Addr) (cl : List (Str × Addr)) (fp : List Addr), PG (X.blk s H scope (compEnvC scope cl C X.env) fp) tgt (TGx c.in0 is tg)) (ht : ∀ (s : Shared) (H : Hp) (C : Addr) (cl : List (Str × Addr)) (fp : List Addr), PTs (X.blk s H scope (compEnvC scope cl C X.env) fp) ifs (TTx c.in0 t))
    (hk : ∀ (s : Shared) (H : Hp) (C : Addr) (cl : List (Str × Addr)) (fp : List Addr), PE (X.blk s H scope (compEnvC scope cl C X.env) fp) kx (TEx c.in0 k)) (he : ∀ (s : Shared) (H : Hp) (C : Addr) (cl : List (Str × Addr)) (fp : List Addr), PE (X.blk s H scope (compEnvC scope cl C X.env) fp) vx (TEx c.in0 e))
    (hs : ∀ x, foldedSetIterable iter X.env x = pure x) : PS X (.Assign [.Name y py] (.DictComp kx vx [⟨tgt, iter, ifs, 0⟩] scope pos) spos) (TSx c (setS i (dcX vs tg it t k e))) := by
  subst hvs
  exact ps_imp (ps_setDc hc hN hy hyl hsw hi ok hg ht hk he hs) fun D σ H h => dc_top his σ H _ (set_top D σ H h)
theorem sx_setDcO {i : Nat} {y : Str} {py spos : Pos} {kx vx iter : Expr} {ifs : List Expr} {scope : Scope} {own : List (Str × Nat)} {tg : Tx} {it : Ix} {t k e : Ex} {is vs : List Nat} (hc : X.calm = true) (hN : X.N.Nodup) (hy : X.N[i]? = some y) (hyl : X.env.scope.names.lookup y = some .local)
    (hsw : swapsWith (.DictComp kx vx [⟨tgt, iter, ifs, 0⟩] scope pos) (some (.Name y py)) spos.line X.env = pure true) (hi : PI X tgt iter (TIe c it)) (ok : BlkOk X.N X.env.scope scope own) (hvs : own.map (·.2) = vs) (his : ∀ i ∈ is, i ∈ vs)
    (hg : ∀ (s : Shared) (H : Hp) (C : Addr) (cl : List (Str × Addr)) (fp : List Addr), PG (X.blk s H scope (compEnvC scope cl C X.env) fp) tgt (TGx c.in0 is tg)) (ht : ∀ (s : Shared) (H : Hp) (C : Addr) (cl : List (Str × Addr)) (fp : List Addr), PTs (X.blk s H scope (compEnvC scope cl C X.env) fp) ifs (TTx c.in0 t))
    (hk : ∀ (s : Shared) (H : Hp) (C : Addr) (cl : List (Str × Addr)) (fp : List Addr), PE (X.blk s H scope (compEnvC scope cl C X.env) fp) kx (TEx c.in0 k)) (he : ∀ (s : Shared) (H : Hp) (C : Addr) (cl : List (Str × Addr)) (fp : List Addr), PE (X.blk s H scope (compEnvC scope cl C X.env) fp) vx (TEx c.in0 e))
    (hs : ∀ x, foldedSetIterable iter X.env x = pure x) : PS X (.Assign [.Name y py] (.DictComp kx vx [⟨tgt, iter, ifs, 0⟩] scope pos) spos) (TSx c (setO i (dcX vs tg it t k e))) := by
  subst hvs
  exact ps_imp (ps_setDc hc hN hy hyl hsw hi ok hg ht hk he hs) fun D σ H h => dc_top his σ H _ (setO_top D σ H h)
end
end Pv

set_option Elab.async false
set_option linter.all false
set_option maxRecDepth 100000
namespace Pv
open PySem PySem.Spec PyProof.Rows L2

/-! ### data are equal to themselves -/
mutual
theorem eqv_refl : ∀ d : PyData, PyData.canLay0 d = true → PyData.eqv d d = true
  | .none, _ => rfl
  | .bool a, _ => by cases a <;> rfl
  | .int i, _ => by show (i == i) = true; simp
  | .str x, _ => by show (x == x) = true; simp
  | .list xs, h => eqvAll_refl xs h
  | .tuple xs, h => eqvAll_refl xs h
  | .dict _, h => by cases h
theorem eqvAll_refl : ∀ ds : List PyData, PyData.canLayAll0 ds = true → PyData.eqvAll ds ds = true
  | [], _ => rfl
  | x :: xs, h => by
    obtain ⟨h1, h2⟩ := Bool.and_eq_true_iff.mp (show (PyData.canLay0 x && PyData.canLayAll0 xs) = true from h)
    show (PyData.eqv x x && PyData.eqvAll xs xs) = true
    rw [eqv_refl x h1, eqvAll_refl xs h2]; rfl
end
structure Good (k : Nat) (d : D) : Prop where
  flat : D.flat d = true
  lay : PyData.canLay0 (D.py d) = true
  deep : PyData.depth (D.py d) ≤ k
theorem good_int (i : Int) (k : Nat) : Good k (.int i) := ⟨rfl, rfl, by first | exact Nat.zero_le _ | (show 0 ≤ k; exact Nat.zero_le _)⟩
theorem good_bl (b : Bool) (k : Nat) : Good k (.bl b) := ⟨rfl, rfl, by show 0 ≤ k; exact Nat.zero_le _⟩
theorem good_list {k : Nat} : ∀ {l : List D}, (∀ d ∈ l, Good k d) → flatL l = true ∧ PyData.canLayAll0 (pyL l) = true ∧ PyData.depthAll (pyL l) ≤ k
  | [], _ => ⟨rfl, rfl, Nat.zero_le _⟩
  | d :: l, h => by
    obtain ⟨h1, h2, h3⟩ := h d List.mem_cons_self
    obtain ⟨g1, g2, g3⟩ := good_list (l := l) fun x hx => h x (List.mem_cons_of_mem _ hx)
    refine ⟨?_, ?_, ?_⟩
    · show (D.flat d && flatL l) = true; rw [h1, g1]; rfl
    · show (PyData.canLay0 (D.py d) && PyData.canLayAll0 (pyL l)) = true; rw [h2, g2]; rfl
    · show max (PyData.depth (D.py d)) (PyData.depthAll (pyL l)) ≤ k; omega
theorem good_tup {k : Nat} {l : List D} (h : ∀ d ∈ l, Good k d) : Good (k + 1) (.tup l) := by
  obtain ⟨g1, g2, g3⟩ := good_list h
  exact ⟨g1, g2, by show PyData.depth (.tuple (pyL l)) ≤ k + 1; rw [PyData.depth]; omega⟩
theorem good_lst {k : Nat} {l : List D} (h : ∀ d ∈ l, Good k d) : Good (k + 1) (.lst l) := by
  obtain ⟨g1, g2, g3⟩ := good_list h
  exact ⟨g1, g2, by show PyData.depth (.list (pyL l)) ≤ k + 1; rw [PyData.depth]; omega⟩
theorem Good.ok {k : Nat} {d : D} (h : Good k d) (hk : k ≤ 64) : okD d = true := by
  show (D.flat d && (PyData.canLay0 (D.py d) && decide (PyData.depth (D.py d) ≤ 64))) = true
  rw [h.flat, h.lay, decide_eq_true (show PyData.depth (D.py d) ≤ 64 from Nat.le_trans h.deep hk)]; rfl
theorem eq_same {k : Nat} {d : D} (h : Good k d) (hk : k ≤ 64) : eqD d d = some tt' := by
  unfold eqD
  rw [h.ok hk]
  show some (bR (PyData.eqv (D.py d) (D.py d))) = _
  rw [eqv_refl _ h.lay]; rfl
theorem ne_sameD {k : Nat} {d : D} (h : Good k d) (hk : k ≤ 64) : neD d d = some ff' := by
  unfold neD
  rw [h.ok hk]
  show some (bR (!PyData.eqv (D.py d) (D.py d))) = _
  rw [eqv_refl _ h.lay]; rfl
/-! ### bounded numbers -/
def fu : Nat := 2 ^ 1000
def Bd (k : Nat) (x : Int) : Prop := x.natAbs < 2 ^ k
theorem bd_log {k : Nat} {x : Int} (h : Bd k x) (hk : 0 < k) : x.natAbs.log2 < k := by
  by_cases z : x.natAbs = 0
  · rw [z, Nat.log2_zero]; exact hk
  · exact (Nat.log2_lt z).mpr h
theorem bd_mul {a b : Nat} {x y : Int} (hx : Bd a x) (hy : Bd b y) (ha : 0 < a) (hb : 0 < b) (h : a + b ≤ 1000000) : mulD (.int x) (.int y) = some ⟨false, .int (x * y)⟩ := by
  show (if _ then _ else _) = _
  have h1 := bd_log hx ha
  have h2 := bd_log hy hb
  rw [if_pos (.inr (by omega))]
theorem Bd.times {a b : Nat} {x y : Int} (hx : Bd a x) (hy : Bd b y) : Bd (a + b) (x * y) := by
  unfold Bd at *
  rw [Int.natAbs_mul, Nat.pow_add]
  exact Nat.mul_lt_mul'' hx hy
theorem Bd.plus {a : Nat} {x y : Int} (hx : Bd a x) (hy : Bd a y) : Bd (a + 1) (x + y) := by
  unfold Bd at *
  have := Int.natAbs_add_le x y
  rw [Nat.pow_succ]; omega
theorem Bd.le {a b : Nat} {x : Int} (hx : Bd a x) (h : a ≤ b) : Bd b x := Nat.lt_of_lt_of_le hx (Nat.pow_le_pow_right (by decide) h)
theorem Bd.of_le {a : Nat} {x y : Int} (hx : Bd a x) (h : y.natAbs ≤ x.natAbs) : Bd a y := Nat.lt_of_le_of_lt h hx
theorem bd_div {k : Nat} {x y : Int} (hy : 0 < y) (h : Bd k y) (hk : 0 < k) (hk2 : k ≤ 9000) : fdivD (.int x) (.int y) = some ⟨false, .int (x / y)⟩ := by
  show (if _ then _ else _) = _
  have h1 := bd_log h hk
  rw [if_pos (.inr ⟨hy, by omega⟩), Int.fdiv_eq_ediv_of_nonneg x (Int.le_of_lt hy)]
/-! ### the greatest common divisor -/
section
variable {S : Sto} {cf : Nat → List Pv.Arg → Sto → Out R}
theorem var_of {i : Nat} {env : SEnv} {d : D} (h : sget env i = .sh d) : var i env S = .ok ⟨false, d⟩ S := by unfold var; rw [h]
theorem gcd_loop {i j : Nat} (hij : i ≠ j) : ∀ (n : Nat) (env : SEnv) (a b : Int), sget env i = .sh (.int a) → sget env j = .sh (.int b) → i < env.length → j < env.length → 0 ≤ b → b < n →
    ∃ env' g, whileL (op2 neD (var j) (con (.int 0))) (par2 i false j false (var j) (op2 modD (var i) (var j))) n env S = .ok (.nx env') S ∧ sget env' i = .sh (.int g) ∧ g.natAbs = Int.gcd a b ∧ (0 ≤ a → 0 ≤ g) ∧ ∀ k, k ≠ i → k ≠ j → sget env' k = sget env k
  | 0, env, a, b, _, _, _, _, h0, h1 => by omega
  | n + 1, env, a, b, ha, hb, hi, hj, h0, h1 => by
    have ht : op2 neD (var j) (con (.int 0)) env S = .ok ⟨false, .bl (!decide (b = 0))⟩ S := e_2 (var_of hb) rfl rfl
    unfold whileL
    rw [ht]
    by_cases hz : b = 0
    · subst hz
      exact ⟨env, a, rfl, ha, by rw [Int.gcd_zero], fun h => h, fun _ _ _ => rfl⟩
    · rw [decide_eq_false hz]
      have hm : op2 modD (var i) (var j) env S = .ok ⟨false, .int (a % b)⟩ S := e_2 (var_of ha) (var_of hb) (by rw [mod_eq hz, Int.fmod_eq_emod_of_nonneg a h0])
      have hp : par2 i false j false (var j) (op2 modD (var i) (var j)) env S = .ok (.nx ((env.set i (.sh (.int b))).set j (.sh (.int (a % b))))) S := e_par2 (var_of hb) hm rfl rfl
      simp only [Out.bind, Bool.not_false, hp]
      have l1 : i < ((env.set i (.sh (.int b))).set j (.sh (.int (a % b)))).length := by simpa using hi
      have l2 : j < ((env.set i (.sh (.int b))).set j (.sh (.int (a % b)))).length := by simpa using hj
      have g1 : sget ((env.set i (.sh (.int b))).set j (.sh (.int (a % b)))) i = .sh (.int b) := by rw [sget_set_ne (Ne.symm hij), sget_set_self hi]
      have g2 : sget ((env.set i (.sh (.int b))).set j (.sh (.int (a % b)))) j = .sh (.int (a % b)) := sget_set_self (by simpa using hj)
      have hlt := Int.emod_lt_of_pos a (show 0 < b by omega)
      have hnn := Int.emod_nonneg a hz
      obtain ⟨env', g, q1, q2, q3, q4, q5⟩ := gcd_loop hij n _ b (a % b) g1 g2 l1 l2 hnn (by omega)
      refine ⟨env', g, q1, q2, by rw [q3, Ra.gcd_step], fun _ => q4 (by omega), fun k k1 k2 => ?_⟩
      rw [q5 k k1 k2, sget_set_ne (Ne.symm k2), sget_set_ne (Ne.symm k1)]
theorem common_ok {a b : Int} (h0 : 0 ≤ b) (h1 : b < fu) : runF (seqS (whileS fu (op2 neD (var 1) (con (.int 0))) (par2 0 false 1 false (var 1) (op2 modD (var 0) (var 1)))) (retS (b1V absD 0))) 2 [.sh (.int a), .sh (.int b)] S = .ok ⟨false, .int (Int.gcd a b : Int)⟩ S := by
  obtain ⟨env', g, q1, q2, q3, _, _⟩ := gcd_loop (S := S) (i := 0) (j := 1) (by decide) fu [.sh (.int a), .sh (.int b)] a b rfl rfl (show 0 < 2 by decide) (show 1 < 2 by decide) h0 h1
  refine f_ret (s_nx (env1 := env') (S1 := S) q1 (e_ret ?_))
  have e : peek env' S 0 = some (.int g) := by unfold peek; rw [q2]
  unfold b1V
  rw [e]
  show Out.ok (⟨false, .int (if g < 0 then -g else g)⟩ : R) S = _
  rw [← q3]
  congr 3
  split <;> omega
def ratD (p : Int × Int) : D := .tup [.int p.1, .int p.2]
theorem good_rat (p : Int × Int) : Good 1 (ratD p) := good_tup fun d hd => by
  simp only [List.mem_cons, List.not_mem_nil, or_false] at hd
  rcases hd with rfl | rfl <;> exact good_int _ _
/-- what a def that shortens ratios answers -/
def RatF (c : List Pv.Arg → Sto → Out R) : Prop := ∀ (t l : Int) (S : Sto), 0 < l → Bd 1000 l → c [.sh (.int t), .sh (.int l)] S = .ok ⟨false, ratD (Ra.canon t l)⟩ S
theorem fu_of {l : Int} (h : 0 < l) (hb : Bd 1000 l) : l < fu := by
  unfold Bd at hb
  unfold fu
  omega
theorem gcd_bd {t l : Int} (h : 0 < l) (hb : Bd 1000 l) : Bd 1000 (Int.gcd t l : Int) := hb.of_le (by
  have := Int.gcd_le_right t h
  omega)
theorem ratio_ok {i : Nat} {cf : Nat → List Pv.Arg → Sto → Out R} (hc : ∀ (a b : Int) (S : Sto), 0 ≤ b → b < fu → cf i [.sh (.int a), .sh (.int b)] S = .ok ⟨false, .int (Int.gcd a b : Int)⟩ S) :
    RatF (runF (seqS (ifS (op2 ltD (var 1) (con (.int 0))) (par2 0 false 1 false (op1 negD (var 0)) (op1 negD (var 1))) skip) (seqS (setS 2 (callX cf i (aname 0 (aname 1 anil)))) (retS (tupX (lcons (op2 fdivD (var 0) (var 2)) (lcons (op2 fdivD (var 1) (var 2)) lnil)))))) 3) := fun t l S hl hb => by
  have h1 : op2 ltD (var 1) (con (.int 0)) [.sh (.int t), .sh (.int l), .un] S = .ok ff' S := e_2 (S1 := S) rfl rfl (by show some (bR (decide (l < 0))) = _; rw [decide_eq_false (by omega)]; rfl)
  have h2 := hc t l S (Int.le_of_lt hl) (fu_of hl hb)
  have g0 := Ra.gpos (t := t) hl
  have gb := gcd_bd (t := t) hl hb
  have d1 := bd_div (x := t) g0 gb (by decide) (by decide)
  have d2 := bd_div (x := l) g0 gb (by decide) (by decide)
  refine f_ret (s_nx (i_f h1 rfl) (s_nx (e_set (x_call (a_sh rfl (a_sh rfl rfl)) h2)) (e_ret ?_)))
  have e1 : op2 fdivD (var 0) (var 2) [.sh (.int t), .sh (.int l), .sh (.int (Int.gcd t l : Int))] S = .ok ⟨false, .int (t / (Int.gcd t l : Int))⟩ S := e_2 (S1 := S) rfl rfl d1
  have e2 : op2 fdivD (var 1) (var 2) [.sh (.int t), .sh (.int l), .sh (.int (Int.gcd t l : Int))] S = .ok ⟨false, .int (l / (Int.gcd t l : Int))⟩ S := e_2 (S1 := S) rfl rfl d2
  show tupX _ [.sh (.int t), .sh (.int l), .sh (.int (Int.gcd t l : Int))] S = _
  simp [tupX, lcons, lnil, e1, e2, Out.bind, line, ratD, Ra.canon]
theorem lawRatio_ok : RatF (runF (seqS (par2 2 false 3 false (b1V absD 0) (var 1)) (seqS (whileS fu (op2 neD (var 3) (con (.int 0))) (par2 2 false 3 false (var 3) (op2 modD (var 2) (var 3)))) (retS (tupX (lcons (op2 fdivD (var 0) (var 2)) (lcons (op2 fdivD (var 1) (var 2)) lnil)))))) 4) := fun t l S hl hb => by
  obtain ⟨env', g, q1, q2, q3, q4, q5⟩ := gcd_loop (S := S) (i := 2) (j := 3) (by decide) fu [.sh (.int t), .sh (.int l), .sh (.int (if t < 0 then -t else t)), .sh (.int l)] (if t < 0 then -t else t) l rfl rfl (show 2 < 4 by decide) (show 3 < 4 by decide) (Int.le_of_lt hl) (fu_of hl hb)
  have g0 := Ra.gpos (t := t) hl
  have gb := gcd_bd (t := t) hl hb
  have d1 := bd_div (x := t) g0 gb (by decide) (by decide)
  have d2 := bd_div (x := l) g0 gb (by decide) (by decide)
  have eg : g = (Int.gcd t l : Int) := by
    have h1 := q4 (by split <;> omega)
    have h2 : Int.gcd (if t < 0 then -t else t) l = Int.gcd t l := by split <;> simp
    rw [h2] at q3
    omega
  subst eg
  have k0 : sget env' 0 = .sh (.int t) := q5 0 (by decide) (by decide)
  have k1 : sget env' 1 = .sh (.int l) := q5 1 (by decide) (by decide)
  have e1 : op2 fdivD (var 0) (var 2) env' S = .ok ⟨false, .int (t / (Int.gcd t l : Int))⟩ S := e_2 (var_of k0) (var_of q2) d1
  have e2 : op2 fdivD (var 1) (var 2) env' S = .ok ⟨false, .int (l / (Int.gcd t l : Int))⟩ S := e_2 (var_of k1) (var_of q2) d2
  refine f_ret (s_nx (e_par2 (S1 := S) (S2 := S) rfl rfl rfl rfl) (s_nx (env1 := env') (S1 := S) q1 (e_ret ?_)))
  simp [tupX, lcons, lnil, e1, e2, Out.bind, line, ratD, Ra.canon]
/-! ### sums -/
theorem rat_at0 (p : Int × Int) : atD (ratD p) (.int 0) = some ⟨false, .int p.1⟩ := rfl
theorem rat_at1 (p : Int × Int) : atD (ratD p) (.int 1) = some ⟨false, .int p.2⟩ := rfl
theorem sub_of {i : Nat} {env : SEnv} {d : D} {k : Ex} {r r1 : R} (h : sget env i = .sh d) (hk : k env S = .ok r1 S) (e : atD d r1.d = some r) : subV i k env S = .ok r S := by
  unfold subV peek
  rw [h]
  simp only [hk, Out.bind, e]
/-- both parts are small -/
def Sm (a b : Nat) (p : Int × Int) : Prop := 0 < p.2 ∧ Bd a p.1 ∧ Bd b p.2
theorem Sm.canon {a b : Nat} {p : Int × Int} (h : Sm a b p) : Sm a b (Ra.canonP p) := by
  have q := Ra.canon_le (t := p.1) h.1
  exact ⟨Ra.canon_pos h.1, h.2.1.of_le q.1, h.2.2.of_le q.2⟩
theorem Sm.le {a b a' b' : Nat} {p : Int × Int} (h : Sm a b p) (ha : a ≤ a') (hb : b ≤ b') : Sm a' b' p := ⟨h.1, h.2.1.le ha, h.2.2.le hb⟩
theorem Sm.add {a b k : Nat} {x p : Int × Int} (hx : Sm k k x) (hp : Sm a b p) (hab : b ≤ a) : Sm (k + a + 1) (k + a + 1) (Ra.addP x p) :=
  ⟨Int.mul_pos hx.1 hp.1, (hx.2.1.times (hp.2.2.le hab)).plus ((hp.2.1.times hx.2.2).le (by omega)), (hx.2.2.times hp.2.2).le (by omega)⟩
theorem plus_ok {i : Nat} {cf : Nat → List Pv.Arg → Sto → Out R} (hc : RatF (cf i)) {x p : Int × Int} {S : Sto} {k a b : Nat} (hx : Sm k k x) (hp : Sm a b p) (hk : 0 < k) (ha : 0 < a) (hb : 0 < b) (h : k + b ≤ 1000) (h2 : k + a ≤ 100000) :
    runF (retS (callX cf i (aval (op2 addD (op2 mulD (subV 0 (con (.int 0))) (subV 1 (con (.int 1)))) (op2 mulD (subV 1 (con (.int 0))) (subV 0 (con (.int 1))))) (aval (op2 mulD (subV 0 (con (.int 1))) (subV 1 (con (.int 1)))) anil)))) 2 [.sh (ratD x), .sh (ratD p)] S =
      .ok ⟨false, ratD (Ra.canonP (Ra.addP x p))⟩ S := by
  have s00 : subV 0 (con (.int 0)) [.sh (ratD x), .sh (ratD p)] S = .ok ⟨false, .int x.1⟩ S := rfl
  have s01 : subV 0 (con (.int 1)) [.sh (ratD x), .sh (ratD p)] S = .ok ⟨false, .int x.2⟩ S := rfl
  have s10 : subV 1 (con (.int 0)) [.sh (ratD x), .sh (ratD p)] S = .ok ⟨false, .int p.1⟩ S := rfl
  have s11 : subV 1 (con (.int 1)) [.sh (ratD x), .sh (ratD p)] S = .ok ⟨false, .int p.2⟩ S := rfl
  have m1 := bd_mul hx.2.1 hp.2.2 hk hb (by omega)
  have m2 := bd_mul hp.2.1 hx.2.2 ha hk (by omega)
  have m3 := bd_mul hx.2.2 hp.2.2 hk hb (by omega)
  exact f_ret (e_ret (x_call (a_val (e_2 (e_2 s00 s11 m1) (e_2 s10 s01 m2) rfl) (a_val (e_2 s01 s11 m3) rfl)) (hc _ _ S (Int.mul_pos hx.1 hp.1) ((hx.2.2.times hp.2.2).le h))))
theorem times_ok {i : Nat} {cf : Nat → List Pv.Arg → Sto → Out R} (hc : RatF (cf i)) {p : Int × Int} {x : Int} {S : Sto} {a b : Nat} (hp : Sm a b p) (hx : Bd a x) (ha : 0 < a) (h2 : a + a ≤ 1000) (hb : b ≤ 1000) :
    runF (retS (callX cf i (aval (op2 mulD (subV 0 (con (.int 0))) (var 1)) (aval (subV 0 (con (.int 1))) anil)))) 2 [.sh (ratD p), .sh (.int x)] S = .ok ⟨false, ratD (Ra.canonP (p.1 * x, p.2))⟩ S := by
  have s00 : subV 0 (con (.int 0)) [.sh (ratD p), .sh (.int x)] S = .ok ⟨false, .int p.1⟩ S := rfl
  have s01 : subV 0 (con (.int 1)) [.sh (ratD p), .sh (.int x)] S = .ok ⟨false, .int p.2⟩ S := rfl
  exact f_ret (e_ret (x_call (a_val (e_2 (S1 := S) s00 rfl (bd_mul hp.2.1 hx ha ha (by omega))) (a_val s01 rfl)) (hc _ _ S hp.1 (hp.2.2.le hb))))
theorem canonP_add {x p : Int × Int} (hx : 0 < x.2) (hp : 0 < p.2) : Ra.canonP (Ra.addP (Ra.canonP x) p) = Ra.canonP (Ra.addP x p) :=
  Ra.canon_eq (Int.mul_pos (Ra.canon_pos hx) hp) (Int.mul_pos hx hp) (Ra.addP_E (Ra.canon_E hx) (Ra.E.refl p))
theorem total_loop {i : Nat} {cf : Nat → List Pv.Arg → Sto → Out R} {a b : Nat} (ha : 0 < a) (hb : 0 < b) (hab : b ≤ a) (hc : ∀ (x p : Int × Int) (k : Nat) (S : Sto), Sm k k x → Sm a b p → 0 < k → k + b ≤ 1000 → cf i [.sh (ratD x), .sh (ratD p)] S = .ok ⟨false, ratD (Ra.canonP (Ra.addP x p))⟩ S) :
    ∀ (ps : List (Int × Int)) (x : Int × Int) (k : Nat) (env : SEnv), (∀ p ∈ ps, Sm a b p) → Sm k k x → 0 < k → k + ps.length * (a + 1) + b ≤ 1000 → env.length = 3 → sget env 1 = .sh (ratD (Ra.canonP x)) →
      ∃ env', forL (tName 2) (setS 1 (callX cf i (aname 1 (aname 2 anil)))) (ps.map ratD) env S = .ok (.nx env') S ∧ sget env' 1 = .sh (ratD (Ra.canonP (ps.foldl Ra.addP x)))
  | [], x, k, env, _, _, _, _, _, h => ⟨env, rfl, h⟩
  | p :: ps, x, k, env, hp, hx, hk, hl, he, h => by
    have p0 := hp p List.mem_cons_self
    have h3 : sget (env.set 2 (.sh (ratD p))) 1 = .sh (ratD (Ra.canonP x)) := by rw [sget_set_ne (by decide)]; exact h
    have h4 : sget (env.set 2 (.sh (ratD p))) 2 = .sh (ratD p) := sget_set_self (by omega)
    have hl2 : k + (ps.length + 1) * (a + 1) + b ≤ 1000 := hl
    rw [Nat.add_mul, Nat.one_mul] at hl2
    have e := hc (Ra.canonP x) p k S hx.canon p0 hk (by omega)
    rw [canonP_add hx.1 p0.1] at e
    have e2 : setS 1 (callX cf i (aname 1 (aname 2 anil))) (env.set 2 (.sh (ratD p))) S = .ok (.nx ((env.set 2 (.sh (ratD p))).set 1 (.sh (ratD (Ra.canonP (Ra.addP x p)))))) S := e_set (x_call (a_sh h3 (a_sh h4 rfl)) e)
    obtain ⟨env', q1, q2⟩ := total_loop ha hb hab hc ps (Ra.addP x p) (k + a + 1) ((env.set 2 (.sh (ratD p))).set 1 (.sh (ratD (Ra.canonP (Ra.addP x p))))) (fun q hq => hp q (List.mem_cons_of_mem _ hq)) (hx.add p0 hab) (by omega) (by omega) (by simpa using he) (sget_set_self (by simp; omega))
    exact ⟨env', f_cons rfl e2 q1, q2⟩
theorem sm01 : Sm 1 1 (0, 1) := ⟨by decide, show (0 : Int).natAbs < 2 ^ 1 by decide, show (1 : Int).natAbs < 2 ^ 1 by decide⟩
theorem total_ok {i : Nat} {cf : Nat → List Pv.Arg → Sto → Out R} {a b : Nat} (ha : 0 < a) (hb : 0 < b) (hab : b ≤ a) (hc : ∀ (x p : Int × Int) (k : Nat) (S : Sto), Sm k k x → Sm a b p → 0 < k → k + b ≤ 1000 → cf i [.sh (ratD x), .sh (ratD p)] S = .ok ⟨false, ratD (Ra.canonP (Ra.addP x p))⟩ S)
    (ps : List (Int × Int)) (hp : ∀ p ∈ ps, Sm a b p) (hl : 1 + ps.length * (a + 1) + b ≤ 1000) :
    runF (seqS (setS 1 (tupX (lcons (con (.int 0)) (lcons (con (.int 1)) lnil)))) (seqS (forS (tName 2) (iVal (var 0)) (setS 1 (callX cf i (aname 1 (aname 2 anil))))) (retS (var 1)))) 3 [.sh (.lst (ps.map ratD))] S = .ok ⟨false, ratD (Ra.canonP (Ra.sumP ps))⟩ S := by
  obtain ⟨env', q1, q2⟩ := total_loop (S := S) ha hb hab hc ps (0, 1) 1 [.sh (.lst (ps.map ratD)), .sh (ratD (Ra.canonP (0, 1))), .un] hp sm01 (by decide) hl rfl rfl
  exact f_ret (s_nx (S1 := S) rfl (s_nx (e_for (S1 := S) rfl q1) (e_ret (var_of q2))))
theorem lawSum_loop {a b : Nat} (ha : 0 < a) (hb : 0 < b) (hab : b ≤ a) :
    ∀ (ps : List (Int × Int)) (x : Int × Int) (k : Nat) (env : SEnv), (∀ p ∈ ps, Sm a b p) → Sm k k x → 0 < k → k + ps.length * (a + 1) ≤ 1000 → env.length = 4 → sget env 1 = .sh (.int x.1) → sget env 2 = .sh (.int x.2) →
      ∃ env', forL (tName 3) (par2 1 false 2 false (op2 addD (op2 mulD (var 1) (subV 3 (con (.int 1)))) (op2 mulD (subV 3 (con (.int 0))) (var 2))) (op2 mulD (var 2) (subV 3 (con (.int 1))))) (ps.map ratD) env S = .ok (.nx env') S ∧
        sget env' 1 = .sh (.int (ps.foldl Ra.addP x).1) ∧ sget env' 2 = .sh (.int (ps.foldl Ra.addP x).2) ∧ Sm (k + ps.length * (a + 1)) (k + ps.length * (a + 1)) (ps.foldl Ra.addP x)
  | [], x, k, env, _, hx, _, _, _, h, h' => ⟨env, rfl, h, h', by simpa using hx⟩
  | p :: ps, x, k, env, hp, hx, hk, hl, he, h, h' => by
    have p0 := hp p List.mem_cons_self
    have h1 : sget (env.set 3 (.sh (ratD p))) 1 = .sh (.int x.1) := by rw [sget_set_ne (by decide)]; exact h
    have h2 : sget (env.set 3 (.sh (ratD p))) 2 = .sh (.int x.2) := by rw [sget_set_ne (by decide)]; exact h'
    have h3 : sget (env.set 3 (.sh (ratD p))) 3 = .sh (ratD p) := sget_set_self (by omega)
    have hl2 : k + (ps.length + 1) * (a + 1) ≤ 1000 := hl
    rw [Nat.add_mul, Nat.one_mul] at hl2
    have m1 := bd_mul hx.2.1 p0.2.2 hk hb (by omega)
    have m2 := bd_mul p0.2.1 hx.2.2 ha hk (by omega)
    have m3 := bd_mul hx.2.2 p0.2.2 hk hb (by omega)
    have e2 : par2 1 false 2 false (op2 addD (op2 mulD (var 1) (subV 3 (con (.int 1)))) (op2 mulD (subV 3 (con (.int 0))) (var 2))) (op2 mulD (var 2) (subV 3 (con (.int 1)))) (env.set 3 (.sh (ratD p))) S =
        .ok (.nx (((env.set 3 (.sh (ratD p))).set 1 (.sh (.int (Ra.addP x p).1))).set 2 (.sh (.int (Ra.addP x p).2)))) S :=
      e_par2 (e_2 (e_2 (var_of h1) (sub_of h3 rfl rfl) m1) (e_2 (sub_of h3 rfl rfl) (var_of h2) m2) rfl) (e_2 (var_of h2) (sub_of h3 rfl rfl) m3) rfl rfl
    obtain ⟨env', q1, q2, q3, q4⟩ := lawSum_loop ha hb hab ps (Ra.addP x p) (k + a + 1) (((env.set 3 (.sh (ratD p))).set 1 (.sh (.int (Ra.addP x p).1))).set 2 (.sh (.int (Ra.addP x p).2))) (fun q hq => hp q (List.mem_cons_of_mem _ hq)) (hx.add p0 hab) (by omega) (by omega) (by simpa using he)
      (by rw [sget_set_ne (by decide)]; exact sget_set_self (by simp; omega)) (sget_set_self (by simp; omega))
    refine ⟨env', f_cons rfl e2 q1, q2, q3, ?_⟩
    have hk2 : k + a + 1 + ps.length * (a + 1) = k + (p :: ps).length * (a + 1) := by
      show _ = k + (ps.length + 1) * (a + 1)
      rw [Nat.add_mul, Nat.one_mul]; omega
    rw [← hk2]
    exact q4
theorem lawSum_ok {i : Nat} {cf : Nat → List Pv.Arg → Sto → Out R} {a b : Nat} (ha : 0 < a) (hb : 0 < b) (hab : b ≤ a) (hc : RatF (cf i)) (ps : List (Int × Int)) (hp : ∀ p ∈ ps, Sm a b p) (hl : 1 + ps.length * (a + 1) ≤ 1000) :
    runF (seqS (par2 1 false 2 false (con (.int 0)) (con (.int 1))) (seqS (forS (tName 3) (iVal (var 0)) (par2 1 false 2 false (op2 addD (op2 mulD (var 1) (subV 3 (con (.int 1)))) (op2 mulD (subV 3 (con (.int 0))) (var 2))) (op2 mulD (var 2) (subV 3 (con (.int 1)))))) (retS (callX cf i (aname 1 (aname 2 anil)))))) 4 [.sh (.lst (ps.map ratD))] S =
      .ok ⟨false, ratD (Ra.canonP (Ra.sumP ps))⟩ S := by
  obtain ⟨env', q1, q2, q3, q4⟩ := lawSum_loop (S := S) ha hb hab ps (0, 1) 1 [.sh (.lst (ps.map ratD)), .sh (.int 0), .sh (.int 1), .un] hp sm01 (by decide) hl rfl rfl rfl
  exact f_ret (s_nx (S1 := S) rfl (s_nx (e_for (S1 := S) rfl q1) (e_ret (x_call (a_sh q2 (a_sh q3 rfl)) (hc _ _ S q4.1 (q4.2.2.le hl))))))
/-! ### a comprehension of a function -/
theorem comp_fn {α : Type} {tg : Tx} {t e : Ex} {env : SEnv} (g : α → D) (f : α → D) : ∀ l : List α, (∀ x ∈ l, ∃ env1, tg env (g x) = some env1 ∧ t env1 S = .ok tt' S ∧ ∃ fr, e env1 S = .ok ⟨fr, f x⟩ S) → compL tg t e env (l.map g) S = .ok (l.map f) S
  | [], _ => rfl
  | x :: l, h => by
    obtain ⟨env1, h1, h2, fr, h3⟩ := h x List.mem_cons_self
    show compL tg t e env (g x :: l.map g) S = _
    unfold compL
    rw [h1]
    simp only [h2, nox, Out.bind, h3, comp_fn g f l fun y hy => h y (List.mem_cons_of_mem _ hy)]
    rfl
end
end Pv

set_option Elab.async false
set_option linter.all false
set_option maxRecDepth 100000
namespace Pv
open PySem PySem.Spec PyProof.Rows L2

/-! ### rules: rows of small ratios in lowest terms -/
def Pt (p : Int × Int) : Prop := Sm 11 11 p ∧ Int.gcd p.1 p.2 = 1
def lineD (row : List (Int × Int)) : D := .tup (row.map ratD)
def ruleD (rows : List (List (Int × Int))) : D := .tup (rows.map lineD)
structure RuleOk (m n : Nat) (rows : List (List (Int × Int))) : Prop where
  len : rows.length = m
  row : ∀ row ∈ rows, row.length = n ∧ ∀ p ∈ row, Pt p
def szOf : Nat → Nat
  | 2 => 3
  | 3 => 7
  | _ => 15
def termP (row : List (Int × Int)) (xs : List Int) : List (Int × Int) := List.zipWith (fun p x => (p.1 * x, p.2)) row xs
def shareP (row : List (Int × Int)) (xs : List Int) : Int × Int := Ra.canonP (Ra.sumP (termP row xs))
def sharesD (rows : List (List (Int × Int))) (xs : List Int) : D := .tup (rows.map fun row => ratD (shareP row xs))
section
variable {S : Sto}
theorem zipD_maps {α β : Type} (f : α → D) (g : β → D) : ∀ (l : List α) (m : List β), zipD (l.map f) (m.map g) = (l.zip m).map fun q => .tup [f q.1, g q.2]
  | [], m => by cases m <;> rfl
  | a :: l, [] => rfl
  | a :: l, b :: m => by
    show D.tup [f a, g b] :: zipD (l.map f) (m.map g) = _
    rw [zipD_maps f g l m]; rfl
theorem termP_zip : ∀ (row : List (Int × Int)) (xs : List Int), termP row xs = (row.zip xs).map fun q => (q.1.1 * q.2, q.1.2)
  | [], xs => by cases xs <;> rfl
  | p :: row, [] => rfl
  | p :: row, x :: xs => by
    show (p.1 * x, p.2) :: termP row xs = _
    rw [termP_zip row xs]; rfl
theorem term_sm {row : List (Int × Int)} {xs : List Int} (hp : ∀ p ∈ row, Pt p) (hx : ∀ x ∈ xs, Bd 11 x) : ∀ q ∈ termP row xs, Sm 22 11 q := fun q hq => by
  rw [termP_zip] at hq
  obtain ⟨r, hr, rfl⟩ := List.mem_map.mp hq
  have h1 := hp _ (List.of_mem_zip hr).1
  have h2 := hx _ (List.of_mem_zip hr).2
  exact ⟨h1.1.1, h1.1.2.1.times h2, h1.1.2.2⟩
theorem sum_canon {ps : List (Int × Int)} (hp : ∀ p ∈ ps, 0 < p.2) : Ra.canonP (Ra.sumP (ps.map Ra.canonP)) = Ra.canonP (Ra.sumP ps) := by
  refine Ra.canon_eq (Ra.foldl_pos (fun q hq => ?_) (by decide)) (Ra.foldl_pos hp (by decide)) (Ra.foldl_E (by simp) (fun i p q h1 h2 => ?_) (Ra.E.refl _))
  · obtain ⟨r, hr, rfl⟩ := List.mem_map.mp hq
    exact Ra.canon_pos (hp r hr)
  · rw [List.getElem?_map, h2] at h1
    cases h1
    exact Ra.canon_E (hp q (List.mem_of_getElem? h2))
theorem zipl {α β : Type} (l : List α) (m : List β) (h : l.length = m.length) : (l.zip m).length = l.length := by rw [List.length_zip, h, Nat.min_self]
/-- shares_of -/
theorem sharesOf_ok {i j : Nat} {cf : Nat → List Pv.Arg → Sto → Out R} (ht : ∀ (p : Int × Int) (x : Int) (S : Sto), Sm 11 11 p → Bd 11 x → cf j [.sh (ratD p), .sh (.int x)] S = .ok ⟨false, ratD (Ra.canonP (p.1 * x, p.2))⟩ S)
    (hs : ∀ (ps : List (Int × Int)) (S : Sto), (∀ p ∈ ps, Sm 22 11 p) → ps.length ≤ 15 → cf i [.sh (.lst (ps.map ratD))] S = .ok ⟨false, ratD (Ra.canonP (Ra.sumP ps))⟩ S)
    {m n : Nat} {rows : List (List (Int × Int))} {xs : List Int} (hr : RuleOk m n rows) (hn : n ≤ 15) (hm : m ≤ 4) (hl : xs.length = n) (hx : ∀ x ∈ xs, Bd 11 x) :
    runF (retS (op1 tupleD (compX [2] (tName 2) (iVal (var 0)) (con (.bl true)) (callX cf i (aval (compX [3, 4] (tTupl [3, 4]) (iZip (lcons (var 2) (lcons (var 1) lnil))) (con (.bl true)) (callX cf j (aname 3 (aname 4 anil)))) anil))))) 5 [.sh (ruleD rows), .sh (nD xs)] S =
      .ok ⟨false, sharesD rows xs⟩ S := by
  have hlen := hr.len
  refine f_ret (e_ret (e_1 (e_comp (ds := rows.map lineD) (S1 := S) rfl (by rw [List.length_map, hlen]; unfold line; omega) (comp_fn lineD (fun row => ratD (shareP row xs)) rows fun row hrow => ?_)) rfl))
  obtain ⟨h1, h2⟩ := hr.row row hrow
  refine ⟨_, rfl, rfl, false, ?_⟩
  have sm := term_sm h2 hx
  have inner : compX [3, 4] (tTupl [3, 4]) (iZip (lcons (var 2) (lcons (var 1) lnil))) (con (.bl true)) (callX cf j (aname 3 (aname 4 anil))) [.sh (ruleD rows), .sh (nD xs), .sh (lineD row), .un, .un] S =
      .ok ⟨true, .lst (((row.zip xs).map fun q => (q.1.1 * q.2, q.1.2)).map fun p => ratD (Ra.canonP p))⟩ S := by
    rw [List.map_map]
    refine e_comp (ds := (row.zip xs).map fun q => .tup [ratD q.1, .int q.2]) (S1 := S) ?_ (by rw [List.length_map, zipl _ _ (by omega)]; unfold line; omega) (comp_fn (fun q : (Int × Int) × Int => D.tup [ratD q.1, .int q.2]) _ _ fun q hq => ?_)
    · rw [← zipD_maps]; rfl
    · exact ⟨_, rfl, rfl, false, x_call (a_sh rfl (a_sh rfl rfl)) (ht _ _ S (h2 _ (List.of_mem_zip hq).1).1 (hx _ (List.of_mem_zip hq).2))⟩
  rw [← termP_zip] at inner
  have e := hs ((termP row xs).map Ra.canonP) S (fun p hp => by
    obtain ⟨q, hq, rfl⟩ := List.mem_map.mp hp
    exact (sm q hq).canon) (by rw [List.length_map, termP_zip, List.length_map, zipl _ _ (by omega)]; omega)
  rw [sum_canon fun p hp => (sm p hp).1, List.map_map] at e
  exact x_call (a_val inner rfl) e
theorem range_map {α : Type} {l : List α} {n : Nat} (f : Nat → D) (g : α → D) (hl : l.length = n) (h : ∀ (k : Nat) (hk : k < l.length), f k = g l[k]) : (List.range n).map f = l.map g := by
  refine List.ext_getElem (by simp [hl]) fun k h1 h2 => ?_
  simp only [List.getElem_map, List.getElem_range]
  exact h k (by simpa using h2)
theorem atI_map {α : Type} (f : α → D) (l : List α) {k : Nat} (h : k < l.length) : atI (l.map f) (k : Int) = some (f l[k]) := by
  unfold atI ixN
  rw [if_pos (by omega), if_pos (by rw [List.length_map]; omega)]
  show (l.map f)[k]? = _
  rw [List.getElem?_map, List.getElem?_eq_getElem h]
  rfl
/-- the law's own -/
theorem lawShares_ok {i : Nat} {cf : Nat → List Pv.Arg → Sto → Out R} (hs : ∀ (ps : List (Int × Int)) (S : Sto), (∀ p ∈ ps, Sm 22 11 p) → ps.length ≤ 15 → cf i [.sh (.lst (ps.map ratD))] S = .ok ⟨false, ratD (Ra.canonP (Ra.sumP ps))⟩ S)
    {m n : Nat} {rows : List (List (Int × Int))} {xs : List Int} (hr : RuleOk m n rows) (hn : n ≤ 15) (hm : m ≤ 4) (hl : xs.length = n) (hx : ∀ x ∈ xs, Bd 11 x) :
    runF (retS (op1 tupleD (compX [2] (tName 2) (iVal (var 0)) (con (.bl true)) (callX cf i (aval (compX [3] (tName 3) (iRg1 (lcons (b1V lenD 1) lnil)) (con (.bl true)) (tupX (lcons (op2 mulD (op2 atD (subV 2 (var 3)) (con (.int 0))) (subV 1 (var 3))) (lcons (op2 atD (subV 2 (var 3)) (con (.int 1))) lnil)))) anil))))) 4 [.sh (ruleD rows), .sh (nD xs)] S =
      .ok ⟨false, sharesD rows xs⟩ S := by
  have hlen := hr.len
  refine f_ret (e_ret (e_1 (e_comp (ds := rows.map lineD) (S1 := S) rfl (by rw [List.length_map, hlen]; unfold line; omega) (comp_fn lineD (fun row => ratD (shareP row xs)) rows fun row hrow => ?_)) rfl))
  obtain ⟨h1, h2⟩ := hr.row row hrow
  refine ⟨_, rfl, rfl, false, ?_⟩
  have sm := term_sm h2 hx
  have hw : (-line : Int) ≤ (xs.length : Int) ∧ (xs.length : Int) ≤ line := by unfold line; omega
  have e1 : lenD (nD xs) = some ⟨false, .int xs.length⟩ := by rw [nD, len_tup, List.length_map]
  have it : iRg1 (lcons (b1V lenD 1) lnil) [.sh (ruleD rows), .sh (nD xs), .sh (lineD row), .un] S = .ok ((List.range xs.length).map fun (i : Nat) => D.int i) S := by
    simp [iRg1, lcons, lnil, b1V, peek, sget, e1, Out.bind, hw]
  have hz : (termP row xs).length = n := by rw [termP_zip, List.length_map, zipl _ _ (by omega), h1]
  have inner : compX [3] (tName 3) (iRg1 (lcons (b1V lenD 1) lnil)) (con (.bl true)) (tupX (lcons (op2 mulD (op2 atD (subV 2 (var 3)) (con (.int 0))) (subV 1 (var 3))) (lcons (op2 atD (subV 2 (var 3)) (con (.int 1))) lnil))) [.sh (ruleD rows), .sh (nD xs), .sh (lineD row), .un] S =
      .ok ⟨true, .lst ((termP row xs).map ratD)⟩ S := by
    rw [← range_map (l := termP row xs) (n := xs.length) (fun k => if h : k < row.length ∧ k < xs.length then ratD (row[k].1 * xs[k], row[k].2) else .non) ratD (by omega) (fun k hk => by
      have q : k < row.length ∧ k < xs.length := by omega
      simp only [q, and_self, dite_true]
      simp [termP])]
    refine e_comp it (by rw [List.length_map, List.length_range]; unfold line; omega) (comp_fn (fun (k : Nat) => D.int k) _ _ fun k hk => ⟨_, rfl, rfl, false, ?_⟩)
    rw [List.mem_range] at hk
    have q : k < row.length ∧ k < xs.length := by omega
    simp only [q, and_self, dite_true]
    have a1 : subV 2 (var 3) [.sh (ruleD rows), .sh (nD xs), .sh (lineD row), .sh (.int (k : Int))] S = .ok ⟨false, ratD row[k]⟩ S := sub_of (d := lineD row) rfl rfl (by show atD (.tup (row.map ratD)) (.int (k : Int)) = _; rw [at_tup, atI_map ratD row q.1]; rfl)
    have a2 : subV 1 (var 3) [.sh (ruleD rows), .sh (nD xs), .sh (lineD row), .sh (.int (k : Int))] S = .ok ⟨false, .int xs[k]⟩ S := sub_of (d := nD xs) rfl rfl (by show atD (.tup (xs.map D.int)) (.int (k : Int)) = _; rw [at_tup, atI_map D.int xs q.2]; rfl)
    have p0 := (h2 _ (List.getElem_mem q.1)).1
    have b1 : op2 mulD (op2 atD (subV 2 (var 3)) (con (.int 0))) (subV 1 (var 3)) [.sh (ruleD rows), .sh (nD xs), .sh (lineD row), .sh (.int (k : Int))] S = .ok ⟨false, .int (row[k].1 * xs[k])⟩ S := e_2 (e_2 a1 rfl rfl) a2 (bd_mul p0.2.1 (hx _ (List.getElem_mem q.2)) (by decide) (by decide) (by decide))
    have b2 : op2 atD (subV 2 (var 3)) (con (.int 1)) [.sh (ruleD rows), .sh (nD xs), .sh (lineD row), .sh (.int (k : Int))] S = .ok ⟨false, .int row[k].2⟩ S := e_2 a1 rfl rfl
    show tupX _ [.sh (ruleD rows), .sh (nD xs), .sh (lineD row), .sh (.int (k : Int))] S = _
    simp [tupX, lcons, lnil, b1, b2, Out.bind, line, ratD]
  exact x_call (a_val inner rfl) (hs _ S sm (by omega))
/-! ### is_ratio, is_part, need_rule -/
theorem isRatio_ok {i : Nat} {cf : Nat → List Pv.Arg → Sto → Out R} (hc : ∀ (a b : Int) (S : Sto), 0 ≤ b → b < fu → cf i [.sh (.int a), .sh (.int b)] S = .ok ⟨false, .int (Int.gcd a b : Int)⟩ S) {p : Int × Int} (hp : Pt p) :
    runF (seqS (ifS (orX (notX (isIX ["tuple"] (var 0))) (op2 neD (b1V lenD 0) (con (.int 2)))) (retS (con (.bl false))) skip)
      (seqS (ifS (notX (op1 allD (compX [1] (tName 1) (iVal (var 0)) (con (.bl true)) (andX (isIX ["int"] (var 1)) (notX (isIX ["bool"] (var 1))))))) (retS (con (.bl false))) skip)
      (retS (andX (op2 gtD (subV 0 (con (.int 1))) (con (.int 0))) (op2 eqD (callX cf i (aval (subV 0 (con (.int 0))) (aval (subV 0 (con (.int 1))) anil))) (con (.int 1))))))) 2 [.sh (ratD p)] S = .ok tt' S := by
  have e := hc p.1 p.2 S (Int.le_of_lt hp.1.1) (fu_of hp.1.1 (hp.1.2.2.le (by decide)))
  rw [hp.2] at e
  have g : op2 gtD (subV 0 (con (.int 1))) (con (.int 0)) [.sh (ratD p), .un] S = .ok tt' S := e_2 (r := ⟨false, .int p.2⟩) (S1 := S) rfl rfl (by rw [gt_eq, decide_eq_true hp.1.1]; rfl)
  exact f_ret (s_nx (S1 := S) rfl (s_nx (S1 := S) rfl (e_ret (and_t g (e_2 (S1 := S) (S2 := S) (x_call (a_val (r := ⟨false, .int p.1⟩) (S1 := S) rfl (a_val (r := ⟨false, .int p.2⟩) (S1 := S) rfl rfl)) e) rfl rfl)))))
theorem isPart_ok {i : Nat} {cf : Nat → List Pv.Arg → Sto → Out R} {p : Int × Int} (hp : Pt p) (hr : cf i [.sh (ratD p)] S = .ok tt' S) :
    runF (retS (andX (callX cf i (aname 0 anil)) (op2 leD (biX max2D (lcons (op1 absD (subV 0 (con (.int 0)))) (lcons (subV 0 (con (.int 1))) lnil))) (con (.int 1000000000000))))) 1 [.sh (ratD p)] S = .ok tt' S := by
  have e : op2 leD (biX max2D (lcons (op1 absD (subV 0 (con (.int 0)))) (lcons (subV 0 (con (.int 1))) lnil))) (con (.int 1000000000000)) [.sh (ratD p)] S = .ok ⟨false, .bl (decide ((if p.2 > (if p.1 < 0 then -p.1 else p.1) then p.2 else (if p.1 < 0 then -p.1 else p.1)) ≤ 1000000000000))⟩ S := rfl
  have h1 : p.1.natAbs < 2048 := hp.1.2.1
  have h2 : p.2.natAbs < 2048 := hp.1.2.2
  rw [decide_eq_true (by split <;> split <;> omega)] at e
  exact f_ret (e_ret (and_t (x_call (a_sh rfl rfl) hr) e))
theorem needRule_ok {i : Nat} {cf : Nat → List Pv.Arg → Sto → Out R} (hc : ∀ (p : Int × Int) (S : Sto), Pt p → cf i [.sh (ratD p)] S = .ok tt' S) {m : Nat} {rows : List (List (Int × Int))} (hm : m = 2 ∨ m = 3 ∨ m = 4) (hr : RuleOk m (szOf m) rows) :
    runF (seqS (setS 1 (dcX [4, 5] (tTupl [4, 5]) (iPairs (tbI [(3, 2), (7, 3), (15, 4)])) (con (.bl true)) (var 5) (var 4)))
    (seqS (ifS (orX (notX (isIX ["tuple"] (var 0))) (inV nmemD (b1V lenD 0) 1)) nope skip)
    (seqS (forS (tName 2) (iRg1 (lcons (b1V lenD 0) lnil)) (ifS (orX (notX (isIX ["tuple"] (subV 0 (var 2)))) (op2 neD (op1 lenD (subV 0 (var 2))) (subV 1 (b1V lenD 0)))) nope skip))
    (forS (tName 2) (iRg1 (lcons (b1V lenD 0) lnil)) (forS (tName 3) (iRg1 (lcons (op1 lenD (subV 0 (var 2))) lnil)) (ifS (notX (callX cf i (aval (op2 atD (subV 0 (var 2)) (var 3)) anil))) nope skip)))))) 6 [.sh (ruleD rows)] S = .ok ⟨false, .non⟩ S := by
  have szs : D := .dK [(.inl 2, .int 3), (.inl 3, .int 7), (.inl 4, .int 15)]
  have hl : lenD (ruleD rows) = some ⟨false, .int m⟩ := by rw [ruleD, len_tup, List.length_map, hr.len]
  have hw : (-line : Int) ≤ (m : Int) ∧ (m : Int) ≤ line := by unfold line; omega
  have hn : szOf m ≤ 15 := by rcases hm with rfl | rfl | rfl <;> decide
  have hw2 : (-line : Int) ≤ (szOf m : Int) ∧ (szOf m : Int) ≤ line := by unfold line; omega
  let env1 : SEnv := [.sh (ruleD rows), .sh (.dK [(.inl 2, .int 3), (.inl 3, .int 7), (.inl 4, .int 15)]), .un, .un, .un, .un]
  have s1 : setS 1 (dcX [4, 5] (tTupl [4, 5]) (iPairs (tbI [(3, 2), (7, 3), (15, 4)])) (con (.bl true)) (var 5) (var 4)) [.sh (ruleD rows), .un, .un, .un, .un, .un] S = .ok (.nx env1) S := by rfl
  have s2 : inV nmemD (b1V lenD 0) 1 env1 S = .ok ff' S := by
    have : b1V lenD 0 env1 S = .ok ⟨false, .int m⟩ S := by unfold b1V; show (match lenD (ruleD rows) with | some r => Out.ok r S | none => .bad) = _; rw [hl]
    unfold inV
    rw [this]
    rcases hm with rfl | rfl | rfl <;> rfl
  have it : ∀ s2 s3 : Sl, iRg1 (lcons (b1V lenD 0) lnil) [.sh (ruleD rows), .sh (.dK [(.inl 2, .int 3), (.inl 3, .int 7), (.inl 4, .int 15)]), s2, s3, .un, .un] S = .ok ((List.range m).map fun (i : Nat) => D.int i) S := fun s2 s3 => by
    simp [iRg1, lcons, lnil, b1V, peek, sget, hl, Out.bind, hw]
  have row : ∀ (k : Nat) (s3 : Sl), k < m → ∃ r ∈ rows, subV 0 (var 2) [.sh (ruleD rows), .sh (.dK [(.inl 2, .int 3), (.inl 3, .int 7), (.inl 4, .int 15)]), .sh (.int (k : Int)), s3, .un, .un] S = .ok ⟨false, lineD r⟩ S := fun k s3 hk => by
    have hk2 : k < rows.length := by rw [hr.len]; exact hk
    exact ⟨rows[k], List.getElem_mem hk2, sub_of (d := ruleD rows) rfl rfl (by show atD (.tup (rows.map lineD)) (.int (k : Int)) = _; rw [at_tup, atI_map lineD rows hk2]; rfl)⟩
  obtain ⟨e1, ⟨a1, b1, he1⟩, f1⟩ := for_inv (tg := tName 2) (S := S) (b := ifS (orX (notX (isIX ["tuple"] (subV 0 (var 2)))) (op2 neD (op1 lenD (subV 0 (var 2))) (subV 1 (b1V lenD 0)))) nope skip)
    (fun env => ∃ s2 s3, env = [.sh (ruleD rows), .sh (.dK [(.inl 2, .int 3), (.inl 3, .int 7), (.inl 4, .int 15)]), s2, s3, .un, .un]) ((List.range m).map fun (i : Nat) => D.int i) (fun d hd env ⟨s2, s3, he⟩ => by
      obtain ⟨k, hk, rfl⟩ := List.mem_map.mp hd
      rw [List.mem_range] at hk
      subst he
      obtain ⟨r, hr0, er⟩ := row k s3 hk
      obtain ⟨r1, r2⟩ := hr.row r hr0
      have q1 : isIX ["tuple"] (subV 0 (var 2)) [.sh (ruleD rows), .sh (.dK [(.inl 2, .int 3), (.inl 3, .int 7), (.inl 4, .int 15)]), .sh (.int (k : Int)), s3, .un, .un] S = .ok tt' S := e_1 er rfl
      have q2 : op1 lenD (subV 0 (var 2)) [.sh (ruleD rows), .sh (.dK [(.inl 2, .int 3), (.inl 3, .int 7), (.inl 4, .int 15)]), .sh (.int (k : Int)), s3, .un, .un] S = .ok ⟨false, .int (szOf m)⟩ S := e_1 er (by rw [lineD, len_tup, List.length_map, r1])
      have q3 : subV 1 (b1V lenD 0) [.sh (ruleD rows), .sh (.dK [(.inl 2, .int 3), (.inl 3, .int 7), (.inl 4, .int 15)]), .sh (.int (k : Int)), s3, .un, .un] S = .ok ⟨false, .int (szOf m)⟩ S := by
        refine sub_of (r1 := ⟨false, .int m⟩) (d := .dK [(.inl 2, .int 3), (.inl 3, .int 7), (.inl 4, .int 15)]) rfl ?_ (by rcases hm with rfl | rfl | rfl <;> rfl)
        unfold b1V
        show (match lenD (ruleD rows) with | some r => Out.ok r S | none => .bad) = _
        rw [hl]
      exact ⟨_, _, rfl, i_f (or_f (not_t q1) (e_2 q2 q3 (ne_same rfl))) rfl, _, _, rfl⟩) env1 ⟨_, _, rfl⟩
  subst he1
  obtain ⟨e2, _, f2⟩ := for_inv (tg := tName 2) (S := S) (b := forS (tName 3) (iRg1 (lcons (op1 lenD (subV 0 (var 2))) lnil)) (ifS (notX (callX cf i (aval (op2 atD (subV 0 (var 2)) (var 3)) anil))) nope skip))
    (fun env => ∃ s2 s3, env = [.sh (ruleD rows), .sh (.dK [(.inl 2, .int 3), (.inl 3, .int 7), (.inl 4, .int 15)]), s2, s3, .un, .un]) ((List.range m).map fun (i : Nat) => D.int i) (fun d hd env ⟨s2, s3, he⟩ => by
      obtain ⟨k, hk, rfl⟩ := List.mem_map.mp hd
      rw [List.mem_range] at hk
      subst he
      obtain ⟨r, hr0, er⟩ := row k s3 hk
      obtain ⟨r1, r2⟩ := hr.row r hr0
      have l2 : lenD (lineD r) = some ⟨false, .int (szOf m)⟩ := by rw [lineD, len_tup, List.length_map, r1]
      have q2 : op1 lenD (subV 0 (var 2)) [.sh (ruleD rows), .sh (.dK [(.inl 2, .int 3), (.inl 3, .int 7), (.inl 4, .int 15)]), .sh (.int (k : Int)), s3, .un, .un] S = .ok ⟨false, .int (szOf m)⟩ S := e_1 er l2
      have it2 : iRg1 (lcons (op1 lenD (subV 0 (var 2))) lnil) [.sh (ruleD rows), .sh (.dK [(.inl 2, .int 3), (.inl 3, .int 7), (.inl 4, .int 15)]), .sh (.int (k : Int)), s3, .un, .un] S = .ok ((List.range (szOf m)).map fun (i : Nat) => D.int i) S := by
        simp [iRg1, lcons, lnil, q2, Out.bind, hw2]
      obtain ⟨e3, ⟨a3, he3⟩, f3⟩ := for_inv (tg := tName 3) (S := S) (b := ifS (notX (callX cf i (aval (op2 atD (subV 0 (var 2)) (var 3)) anil))) nope skip)
        (fun env => ∃ s3, env = [.sh (ruleD rows), .sh (.dK [(.inl 2, .int 3), (.inl 3, .int 7), (.inl 4, .int 15)]), .sh (.int (k : Int)), s3, .un, .un]) ((List.range (szOf m)).map fun (i : Nat) => D.int i) (fun d hd env ⟨s3, he⟩ => by
          obtain ⟨j, hj, rfl⟩ := List.mem_map.mp hd
          rw [List.mem_range] at hj
          subst he
          obtain ⟨r', hr0', er'⟩ := row k (.sh (.int (j : Int))) hk
          obtain ⟨r1', r2'⟩ := hr.row r' hr0'
          have hj2 : j < r'.length := by omega
          have q4 : op2 atD (subV 0 (var 2)) (var 3) [.sh (ruleD rows), .sh (.dK [(.inl 2, .int 3), (.inl 3, .int 7), (.inl 4, .int 15)]), .sh (.int (k : Int)), .sh (.int (j : Int)), .un, .un] S = .ok ⟨false, ratD r'[j]⟩ S :=
            e_2 er' rfl (by show atD (.tup (r'.map ratD)) (.int (j : Int)) = _; rw [at_tup, atI_map ratD r' hj2]; rfl)
          exact ⟨_, _, rfl, i_f (not_t (x_call (a_val q4 rfl) (hc _ S (r2' _ (List.getElem_mem hj2))))) rfl, _, rfl⟩) _ ⟨_, rfl⟩
      subst he3
      exact ⟨_, _, rfl, e_for it2 f3, _, _, rfl⟩) _ ⟨_, _, rfl⟩
  exact f_nx (s_nx s1 (s_nx (i_f (or_f (S1 := S) rfl s2) rfl) (s_nx (e_for (it _ _) f1) (e_for (it _ _) f2))))
theorem good_share (rows : List (List (Int × Int))) (xs : List Int) : Good 2 (sharesD rows xs) := good_tup fun d hd => by
  obtain ⟨r, hr, rfl⟩ := List.mem_map.mp hd
  exact good_rat _
/-- alike of rows of ratios -/
theorem alike_rats {i : Nat} {cf cf2 cf3 : Nat → List Pv.Arg → Sto → Out R} (hc : cf i = runF (alikeS i cf2) 3) (hc2 : cf2 i = runF (alikeS i cf3) 3) (ps : List (Int × Int)) (hn : ps.length < 1000) : runF (alikeS i cf) 3 [.sh (.tup (ps.map ratD)), .sh (.tup (ps.map ratD))] S = .ok tt' S :=
  alike_tups _ _ (by rw [List.length_map]; exact hn) rfl fun k hk => by
    rw [List.length_map] at hk
    have e : (ps.map ratD)[k]? = some (ratD ps[k]) := by rw [List.getElem?_map, List.getElem?_eq_getElem hk]; rfl
    refine ⟨_, _, e, e, ?_⟩
    rw [hc]
    exact alike_nD hc2 [ps[k].1, ps[k].2] (show 2 < 1000 by decide)
end
end Pv

set_option Elab.async false
set_option linter.all false
set_option maxRecDepth 100000
namespace Pv
open PySem PySem.Spec PyProof.Rows L2
section
variable {S : Sto}
/-- need_game -/
theorem needGame_ok {i : Nat} {cf : Nat → List Pv.Arg → Sto → Out R} (hc : ∀ (x : Int) (S : Sto), cf i [.sh (.int x)] S = .ok tt' S) (xs : List Int) (hl : op1 (kninD (tbI [(3, 2), (7, 3), (15, 4)])) (b1V lenD 0) [.sh (nD xs), .un] S = .ok ff' S) (hn : xs.length < 1000) (h : ∀ x ∈ xs, -1000 ≤ x ∧ x ≤ 1000) :
    runF (seqS (ifS (orX (notX (isIX ["tuple"] (var 0))) (op1 (kninD (tbI [(3, 2), (7, 3), (15, 4)])) (b1V lenD 0))) nope skip)
    (forS (tName 1) (iRg1 (lcons (b1V lenD 0) lnil)) (ifS (orX (notX (callX cf i (aval (subV 0 (var 1)) anil))) (op2 gtD (op1 absD (subV 0 (var 1))) (con (.int 1000)))) nope skip))) 2 [.sh (nD xs)] S = .ok ⟨false, .non⟩ S := by
  have hw : (-line : Int) ≤ (xs.length : Int) ∧ (xs.length : Int) ≤ line := by unfold line; omega
  have e : iRg1 (lcons (b1V lenD 0) lnil) [.sh (nD xs), .un] S = .ok ((List.range xs.length).map fun (i : Nat) => D.int i) S := by
    have e1 : lenD (nD xs) = some ⟨false, .int xs.length⟩ := by rw [nD, len_tup, List.length_map]
    simp [iRg1, lcons, lnil, b1V, peek, sget, e1, Out.bind, hw]
  obtain ⟨env', _, h1⟩ := for_inv (tg := tName 1) (S := S) (b := (ifS (orX (notX (callX cf i (aval (subV 0 (var 1)) anil))) (op2 gtD (op1 absD (subV 0 (var 1))) (con (.int 1000)))) nope skip))
    (fun env => ∃ s, env = [.sh (nD xs), s]) ((List.range xs.length).map fun (i : Nat) => D.int i) (fun d hd env ⟨s, he⟩ => by
      obtain ⟨k, hk, rfl⟩ := List.mem_map.mp hd
      rw [List.mem_range] at hk
      subst he
      refine ⟨_, [.sh (nD xs), .sh (.int k)], rfl, ?_, ⟨_, rfl⟩⟩
      have a1 : subV 0 (var 1) [.sh (nD xs), .sh (.int k)] S = .ok ⟨false, .int xs[k]⟩ S := sub_of (d := nD xs) rfl rfl (by show atD (.tup (xs.map D.int)) (.int (k : Int)) = _; rw [at_tup, atI_map D.int xs hk]; rfl)
      exact i_f (or_f (not_t (S1 := S) (x_call (a_val a1 rfl) (hc _ S))) (e_2 (e_1 a1 rfl) rfl (gt_abs (h _ (List.getElem_mem hk))))) rfl) [.sh (nD xs), .un] ⟨_, rfl⟩
  exact f_nx (env := env') (s_nx (i_f (or_f (S1 := S) rfl hl) rfl) (e_for e h1))
/-- a loop that fills a list of the def's own -/
theorem for_app {α : Type} {i : Nat} {tg : Tx} {x : Ex} (g f : α → D) (I : SEnv → Prop) : ∀ (l : List α) (acc : List D) (env : SEnv), (∀ a ∈ l, ∀ (acc : List D) (env : SEnv), I env → sget env i = .own (.lst acc) → ∃ env1, tg env (g a) = some env1 ∧ sget env1 i = .own (.lst acc) ∧ i < env1.length ∧ (∀ d, I (env1.set i d)) ∧ ∃ fr, x env1 S = .ok ⟨fr, f a⟩ S) →
    I env → sget env i = .own (.lst acc) → acc.length + l.length ≤ line → ∃ env', forL tg (mutS i appD x) (l.map g) env S = .ok (.nx env') S ∧ sget env' i = .own (.lst (acc ++ l.map f)) ∧ I env'
  | [], acc, env, _, hI, hs, _ => ⟨env, rfl, by simpa using hs, hI⟩
  | a :: l, acc, env, h, hI, hs, hl => by
    obtain ⟨env1, h1, h2, h3, h4, fr, h5⟩ := h a List.mem_cons_self acc env hI hs
    have hl2 : acc.length + (l.length + 1) ≤ line := hl
    have e : mutS i appD x env1 S = .ok (.nx (env1.set i (.own (.lst (acc ++ [f a]))))) S := by
      unfold mutS
      have p : peek env1 S i = some (.lst acc) := by unfold peek; rw [h2]
      rw [p]
      simp only [h5, Out.bind, updSlot, h2, appD]
      rw [if_pos (by omega)]
    obtain ⟨env', q1, q2, q3⟩ := for_app g f I l (acc ++ [f a]) (env1.set i (.own (.lst (acc ++ [f a])))) (fun b hb => h b (List.mem_cons_of_mem _ hb)) (h4 _) (sget_set_self h3) (by rw [List.length_append]; simp only [List.length_cons, List.length_nil]; omega)
    refine ⟨env', f_cons h1 e q1, ?_, q3⟩
    rw [q2]
    simp
/-- a told rule's parts are smaller still -/
def Pt0 (p : Int × Int) : Prop := Sm 3 4 p ∧ Int.gcd p.1 p.2 = 1
structure Told (m n : Nat) (rows : List (List (Int × Int))) : Prop where
  len : rows.length = m
  row : ∀ row ∈ rows, row.length = n ∧ ∀ p ∈ row, Pt0 p
theorem Told.ok {m n : Nat} {rows : List (List (Int × Int))} (h : Told m n rows) : RuleOk m n rows := ⟨h.len, fun r hr => ⟨(h.row r hr).1, fun p hp => ⟨((h.row r hr).2 p hp).1.le (by decide) (by decide), ((h.row r hr).2 p hp).2⟩⟩⟩
def pt0B (p : Int × Int) : Bool := decide (0 < p.2) && decide (p.1.natAbs < 8) && decide (p.2.natAbs < 16) && decide (Int.gcd p.1 p.2 = 1)
def toldB (m n : Nat) (rows : List (List (Int × Int))) : Bool := decide (rows.length = m) && rows.all fun r => decide (r.length = n) && r.all pt0B
theorem toldB_ok {m n : Nat} {rows : List (List (Int × Int))} (h : toldB m n rows = true) : Told m n rows := by
  obtain ⟨h1, h2⟩ := Bool.and_eq_true_iff.mp h
  refine ⟨of_decide_eq_true h1, fun r hr => ?_⟩
  obtain ⟨h3, h4⟩ := Bool.and_eq_true_iff.mp (List.all_eq_true.mp h2 r hr)
  refine ⟨of_decide_eq_true h3, fun p hp => ?_⟩
  have h5 := List.all_eq_true.mp h4 p hp
  simp only [pt0B, Bool.and_eq_true, decide_eq_true_eq] at h5
  exact ⟨⟨h5.1.1.1, h5.1.1.2, h5.1.2⟩, h5.2⟩
theorem pt_small {p : Int × Int} (h : Pt0 p) : Pt p := ⟨h.1.le (by decide) (by decide), h.2⟩
/-- half of one and half of another -/
def mixP (l r : Int × Int) : Int × Int := Ra.canonP (Ra.sumP [(l.1, 2 * l.2), (r.1, 2 * r.2)])
theorem mix_sm {l : Int × Int} (h : Pt0 l) : Sm 3 5 (l.1, 2 * l.2) := by
  obtain ⟨⟨h1, h2, h3⟩, _⟩ := h
  refine ⟨?_, h2, ?_⟩
  · show 0 < 2 * l.2; omega
  · show (2 * l.2).natAbs < 2 ^ 5
    have : l.2.natAbs < 2 ^ 4 := h3
    omega
theorem mix_pt {l r : Int × Int} (hl : Pt0 l) (hr : Pt0 r) : Pt (mixP l r) := by
  have e : Ra.sumP [(l.1, 2 * l.2), (r.1, 2 * r.2)] = (l.1 * (2 * r.2) + r.1 * (2 * l.2), 2 * l.2 * (2 * r.2)) := by
    simp [Ra.sumP, Ra.addP]
  have s1 := mix_sm hl
  have s2 := mix_sm hr
  have pos : 0 < 2 * l.2 * (2 * r.2) := Int.mul_pos s1.1 s2.1
  have b1 : Bd 9 (l.1 * (2 * r.2) + r.1 * (2 * l.2)) := (s1.2.1.times s2.2.2).plus (s2.2.1.times s1.2.2)
  have b2 : Bd 10 (2 * l.2 * (2 * r.2)) := s1.2.2.times s2.2.2
  unfold mixP
  rw [e]
  have sm : Sm 11 11 (l.1 * (2 * r.2) + r.1 * (2 * l.2), 2 * l.2 * (2 * r.2)) := ⟨pos, b1.le (by decide), b2.le (by decide)⟩
  exact ⟨sm.canon, Ra.canon_gcd pos⟩
theorem mixR_ok {m n : Nat} {a b : List (List (Int × Int))} (ha : Told m n a) (hb : Told m n b) : RuleOk m n (List.zipWith (List.zipWith mixP) a b) := by
  refine ⟨by rw [List.length_zipWith, ha.len, hb.len, Nat.min_self], fun row hrow => ?_⟩
  obtain ⟨k, hk, rfl⟩ := List.getElem_of_mem hrow
  rw [List.length_zipWith] at hk
  rw [List.getElem_zipWith]
  obtain ⟨h1, h2⟩ := ha.row a[k] (List.getElem_mem (by omega))
  obtain ⟨h3, h4⟩ := hb.row b[k] (List.getElem_mem (by omega))
  refine ⟨by rw [List.length_zipWith, h1, h3, Nat.min_self], fun p hp => ?_⟩
  obtain ⟨j, hj, rfl⟩ := List.getElem_of_mem hp
  rw [List.length_zipWith] at hj
  rw [List.getElem_zipWith]
  exact mix_pt (h2 _ (List.getElem_mem (by omega))) (h4 _ (List.getElem_mem (by omega)))
/-- one part changed -/
def chgR (m n : Nat) (rows : List (List (Int × Int))) (w a : Int) (p : Int × Int) : List (List (Int × Int)) :=
  (List.range m).map fun (i : Nat) => (List.range n).map fun (j : Nat) => if (i : Int) = w ∧ (j : Int) = a then p else ((rows[i]?.getD [])[j]?.getD (0, 1))
theorem chgR_ok {m n : Nat} {rows : List (List (Int × Int))} (h : RuleOk m n rows) {w a : Int} {p : Int × Int} (hp : Pt p) : RuleOk m n (chgR m n rows w a p) := by
  refine ⟨by simp [chgR], fun row hrow => ?_⟩
  obtain ⟨i, hi, rfl⟩ := List.mem_map.mp hrow
  rw [List.mem_range] at hi
  refine ⟨by simp, fun q hq => ?_⟩
  obtain ⟨j, hj, rfl⟩ := List.mem_map.mp hq
  rw [List.mem_range] at hj
  have hi2 : i < rows.length := by rw [h.len]; exact hi
  obtain ⟨h1, h2⟩ := h.row rows[i] (List.getElem_mem hi2)
  split
  · exact hp
  · rw [List.getElem?_eq_getElem hi2]
    show Pt ((rows[i])[j]?.getD (0, 1))
    rw [List.getElem?_eq_getElem (by omega)]
    exact h2 _ (List.getElem_mem (by omega))
/-- the sum's shares -/
theorem share_add {row : List (Int × Int)} {xs ys : List Int} (hp : ∀ p ∈ row, 0 < p.2) (h1 : xs.length = row.length) (h2 : ys.length = row.length) :
    shareP row (List.zipWith (· + ·) xs ys) = Ra.canonP (Ra.sumP [shareP row xs, shareP row ys]) := by
  have key : ∀ (row : List (Int × Int)) (xs ys : List Int) (x y : Int × Int), xs.length = row.length → ys.length = row.length → x.2 = y.2 →
      (termP row (List.zipWith (· + ·) xs ys)).foldl Ra.addP (x.1 + y.1, x.2) = (((termP row xs).foldl Ra.addP x).1 + ((termP row ys).foldl Ra.addP y).1, ((termP row xs).foldl Ra.addP x).2) ∧ ((termP row xs).foldl Ra.addP x).2 = ((termP row ys).foldl Ra.addP y).2 := by
    intro row
    induction row with
    | nil =>
      intro xs ys x y e1 e2 e
      cases xs with
      | cons _ _ => simp at e1
      | nil => cases ys with
        | cons _ _ => simp at e2
        | nil => exact ⟨rfl, e⟩
    | cons p row ih =>
      intro xs ys x y e1 e2 e
      cases xs with
      | nil => simp at e1
      | cons a xs => cases ys with
        | nil => simp at e2
        | cons b ys =>
          have := ih xs ys (Ra.addP x (p.1 * a, p.2)) (Ra.addP y (p.1 * b, p.2)) (by simpa using e1) (by simpa using e2) (by simp [Ra.addP, e])
          refine ⟨?_, this.2⟩
          show (termP row (List.zipWith (· + ·) xs ys)).foldl Ra.addP (Ra.addP (x.1 + y.1, x.2) (p.1 * (a + b), p.2)) = _
          rw [show Ra.addP (x.1 + y.1, x.2) (p.1 * (a + b), p.2) = ((Ra.addP x (p.1 * a, p.2)).1 + (Ra.addP y (p.1 * b, p.2)).1, (Ra.addP x (p.1 * a, p.2)).2) by
            simp only [Ra.addP, e]
            congr 1
            grind]
          exact this.1
  have pos : ∀ zs : List Int, ∀ q ∈ termP row zs, 0 < q.2 := fun zs q hq => by
    rw [termP_zip] at hq
    obtain ⟨r, hr, rfl⟩ := List.mem_map.mp hq
    exact hp r.1 (List.of_mem_zip hr).1
  have px : 0 < (Ra.sumP (termP row xs)).2 := Ra.foldl_pos (pos xs) (by decide)
  have py : 0 < (Ra.sumP (termP row ys)).2 := Ra.foldl_pos (pos ys) (by decide)
  have pz : 0 < (Ra.sumP (termP row (List.zipWith (· + ·) xs ys))).2 := Ra.foldl_pos (pos _) (by decide)
  obtain ⟨k1, k2⟩ := key row xs ys (0, 1) (0, 1) h1 h2 rfl
  have k1 : Ra.sumP (termP row (List.zipWith (· + ·) xs ys)) = ((Ra.sumP (termP row xs)).1 + (Ra.sumP (termP row ys)).1, (Ra.sumP (termP row xs)).2) := k1
  have k2 : (Ra.sumP (termP row xs)).2 = (Ra.sumP (termP row ys)).2 := k2
  have cx := Ra.canon_E (t := (Ra.sumP (termP row xs)).1) px
  have cy := Ra.canon_E (t := (Ra.sumP (termP row ys)).1) py
  have qx := Ra.canon_pos (t := (Ra.sumP (termP row xs)).1) px
  have qy := Ra.canon_pos (t := (Ra.sumP (termP row ys)).1) py
  unfold shareP
  refine Ra.canon_eq pz ?_ ?_
  · show 0 < (Ra.sumP [Ra.canonP _, Ra.canonP _]).2
    exact Ra.foldl_pos (fun q hq => by
      simp only [List.mem_cons, List.not_mem_nil, or_false] at hq
      rcases hq with rfl | rfl
      · exact qx
      · exact qy) (by decide)
  · rw [k1]
    have s2 : ∀ a b : Int × Int, Ra.sumP [a, b] = (a.1 * b.2 + b.1 * a.2, a.2 * b.2) := fun a b => by simp [Ra.sumP, Ra.addP]
    rw [s2]
    unfold Ra.E at cx cy ⊢
    show _ * ((Ra.canon _ _).2 * (Ra.canon _ _).2) = ((Ra.canon _ _).1 * (Ra.canon _ _).2 + (Ra.canon _ _).1 * (Ra.canon _ _).2) * _
    simp only at cx cy ⊢
    rw [← k2] at cy ⊢
    generalize Ra.canon (Ra.sumP (termP row xs)).1 (Ra.sumP (termP row xs)).2 = u at *
    generalize Ra.canon (Ra.sumP (termP row ys)).1 (Ra.sumP (termP row xs)).2 = v at *
    grind
end
end Pv
namespace Pv
section
variable {x y t : Ex} {env : SEnv} {S S1 : Sto} {q : Out R}
theorem it_t (h : t env S = .ok tt' S1) (h2 : x env S1 = q) : iteX t x y env S = q := by unfold iteX; rw [h]; exact h2
theorem it_f (h : t env S = .ok ff' S1) (h2 : y env S1 = q) : iteX t x y env S = q := by unfold iteX; rw [h]; exact h2
end
end Pv
namespace Pv
section
variable {S : Sto}
theorem alike_rule {i : Nat} {cf cf2 cf3 cf4 : Nat → List Pv.Arg → Sto → Out R} (hc : cf i = runF (alikeS i cf2) 3) (hc2 : cf2 i = runF (alikeS i cf3) 3) (hc3 : cf3 i = runF (alikeS i cf4) 3) (rows : List (List (Int × Int))) (hn : rows.length < 1000) (hr : ∀ row ∈ rows, row.length < 1000) :
    runF (alikeS i cf) 3 [.sh (ruleD rows), .sh (ruleD rows)] S = .ok tt' S :=
  alike_tups _ _ (by rw [List.length_map]; exact hn) rfl fun k hk => by
    rw [List.length_map] at hk
    have e : (rows.map lineD)[k]? = some (lineD rows[k]) := by rw [List.getElem?_map, List.getElem?_eq_getElem hk]; rfl
    refine ⟨_, _, e, e, ?_⟩
    rw [hc]
    exact alike_rats hc2 hc3 rows[k] (hr _ (List.getElem_mem hk))
/-- tuple([a + b for a, b in zip(x, y)]) -/
theorem both_ok {i j k l : Nat} (hkl : k ≠ l) {env : SEnv} {xs ys : List Int} (hx : sget env i = .sh (nD xs)) (hy : sget env j = .sh (nD ys)) (hl : xs.length = ys.length) (h15 : xs.length ≤ 15) (hk : k < env.length) (hl2 : l < env.length) :
    op1 tupleD (compX [k, l] (tTupl [k, l]) (Pv.iZip (lcons (var i) (lcons (var j) lnil))) (con (.bl true)) (op2 addD (var k) (var l))) env S = .ok ⟨false, nD (List.zipWith (· + ·) xs ys)⟩ S := by
  have it : Pv.iZip (lcons (var i) (lcons (var j) lnil)) env S = .ok ((xs.zip ys).map fun q => D.tup [.int q.1, .int q.2]) S := by
    rw [← zipD_maps]
    simp [Pv.iZip, lcons, lnil, var_of (S := S) hx, var_of (S := S) hy, Out.bind, nD, seqD]
  have z : (List.zipWith (· + ·) xs ys).map D.int = (xs.zip ys).map fun q => D.int (q.1 + q.2) := by
    rw [List.zip, List.map_zipWith, List.map_zipWith]
  refine e_1 (e_comp (out := (List.zipWith (· + ·) xs ys).map D.int) it (by rw [List.length_map, zipl _ _ hl]; unfold line; omega) ?_) rfl
  rw [z]
  refine comp_fn (fun q : Int × Int => D.tup [.int q.1, .int q.2]) _ _ fun q hq => ⟨_, rfl, rfl, false, ?_⟩
  have cl : (clr env [k, l]).length = env.length := by simp [clr]
  exact e_2 (var_of (by rw [sget_set_ne (Ne.symm hkl)]; exact sget_set_self (by omega))) (var_of (sget_set_self (by rw [List.length_set]; omega))) rfl
end
end Pv
namespace Pv
theorem e_par3 {x y z : Ex} {env env1 env2 env3 : SEnv} {S S1 S2 S3 : Sto} {i j l : Nat} {f g h : Bool} {r r1 r2 : R} (h1 : x env S = .ok r S1) (h2 : y env S1 = .ok r1 S2) (h3 : z env S2 = .ok r2 S3) (e1 : setR i f r env = some env1) (e2 : setR j g r1 env1 = some env2) (e3 : setR l h r2 env2 = some env3) : par3 i f j g l h x y z env S = .ok (.nx env3) S3 := by
  unfold par3; rw [h1]; simp only [Out.bind, h2, h3, e1, e2, e3]
end Pv

set_option Elab.async false
set_option linter.all false
set_option maxRecDepth 100000
set_option maxHeartbeats 0
namespace Lk01
open PySem PySem.Spec PyProof.Rows L2 Pv
abbrev boot_bool2 := @PyProof.Rows.boot_bool
def Gx : Nat → Option (Addr × List Str) := fun _ => none
def Xx : Nat → Value := fun _ => .none
abbrev fuel : Nat := Pv.fu
def steps : Nat := 12000
def deep : Nat := 12
/-! ### tables and tuples of the modules -/
def ti_SIZES : List (Int × Int) := [(3, 2), (7, 3), (15, 4)]
abbrev t_SIZES : List (Key × D) := tbI ti_SIZES
def l_NAMES : D := .rt [.str (Str.ofString "banzhaf"), .str (Str.ofString "even"), .str (Str.ofString "in turn"), .str (Str.ofString "last"), .str (Str.ofString "last even"), .str (Str.ofString "own"), .str (Str.ofString "rest even"), .str (Str.ofString "shapley")]
/-! ### the text: where each def stands -/
def top (i : Nat) : Stmt := PySem.Challenge.pw_worthshares_k01_whole_rules.main.body.getD i (.Pass ⟨0, 0, 0, 0⟩)
abbrev st0 : Stmt := top 11
abbrev N0 : List Str := ["value"]
abbrev A0 : List Str := ["value"]
theorem sc0 : FnScope N0 A0 (defScope st0) := ⟨rfl, rfl, rfl, by decide +kernel, rfl, by decide +kernel, by decide +kernel⟩
abbrev st1 : Stmt := top 12
abbrev N1 : List Str := ["many"]
abbrev A1 : List Str := ["many"]
theorem sc1 : FnScope N1 A1 (defScope st1) := ⟨rfl, rfl, rfl, by decide +kernel, rfl, by decide +kernel, by decide +kernel⟩
abbrev st2 : Stmt := top 13
abbrev N2 : List Str := ["many", "found", "person", "group", "size"]
abbrev A2 : List Str := ["many"]
theorem sc2 : FnScope N2 A2 (defScope st2) := ⟨rfl, rfl, rfl, by decide +kernel, rfl, by decide +kernel, by decide +kernel⟩
abbrev st3 : Stmt := top 14
abbrev N3 : List Str := ["game", "index"]
abbrev A3 : List Str := ["game"]
theorem sc3 : FnScope N3 A3 (defScope st3) := ⟨rfl, rfl, rfl, by decide +kernel, rfl, by decide +kernel, by decide +kernel⟩
abbrev st4 : Stmt := top 15
abbrev N4 : List Str := ["game"]
abbrev A4 : List Str := ["game"]
theorem sc4 : FnScope N4 A4 (defScope st4) := ⟨rfl, rfl, rfl, by decide +kernel, rfl, by decide +kernel, by decide +kernel⟩
abbrev st5 : Stmt := top 16
abbrev N5 : List Str := ["many", "group", "person"]
abbrev A5 : List Str := ["many", "group"]
theorem sc5 : FnScope N5 A5 (defScope st5) := ⟨rfl, rfl, rfl, by decide +kernel, rfl, by decide +kernel, by decide +kernel⟩
abbrev st6 : Stmt := top 18
abbrev N6 : List Str := ["one", "other"]
abbrev A6 : List Str := ["one", "other"]
theorem sc6 : FnScope N6 A6 (defScope st6) := ⟨rfl, rfl, rfl, by decide +kernel, rfl, by decide +kernel, by decide +kernel⟩
abbrev st7 : Stmt := top 19
abbrev N7 : List Str := ["top", "low", "part"]
abbrev A7 : List Str := ["top", "low"]
theorem sc7 : FnScope N7 A7 (defScope st7) := ⟨rfl, rfl, rfl, by decide +kernel, rfl, by decide +kernel, by decide +kernel⟩
abbrev st8 : Stmt := top 20
abbrev N8 : List Str := ["one", "other"]
abbrev A8 : List Str := ["one", "other"]
theorem sc8 : FnScope N8 A8 (defScope st8) := ⟨rfl, rfl, rfl, by decide +kernel, rfl, by decide +kernel, by decide +kernel⟩
abbrev st9 : Stmt := top 21
abbrev N9 : List Str := ["one", "number"]
abbrev A9 : List Str := ["one", "number"]
theorem sc9 : FnScope N9 A9 (defScope st9) := ⟨rfl, rfl, rfl, by decide +kernel, rfl, by decide +kernel, by decide +kernel⟩
abbrev st10 : Stmt := top 22
abbrev N10 : List Str := ["some", "found", "one"]
abbrev A10 : List Str := ["some"]
theorem sc10 : FnScope N10 A10 (defScope st10) := ⟨rfl, rfl, rfl, by decide +kernel, rfl, by decide +kernel, by decide +kernel⟩
abbrev st11 : Stmt := top 23
abbrev N11 : List Str := ["value", "one"]
abbrev A11 : List Str := ["value"]
theorem sc11 : FnScope N11 A11 (defScope st11) := ⟨rfl, rfl, rfl, by decide +kernel, rfl, by decide +kernel, by decide +kernel⟩
abbrev st12 : Stmt := top 27
abbrev N12 : List Str := ["rule", "sizes", "person", "index", "size", "many"]
abbrev A12 : List Str := ["rule"]
theorem sc12 : FnScope N12 A12 (defScope st12) := ⟨rfl, rfl, rfl, by decide +kernel, rfl, by decide +kernel, by decide +kernel⟩
abbrev st13 : Stmt := top 28
abbrev N13 : List Str := ["value"]
abbrev A13 : List Str := ["value"]
theorem sc13 : FnScope N13 A13 (defScope st13) := ⟨rfl, rfl, rfl, by decide +kernel, rfl, by decide +kernel, by decide +kernel⟩
abbrev st14 : Stmt := top 29
abbrev N14 : List Str := ["rule", "game", "row", "part", "own"]
abbrev A14 : List Str := ["rule", "game"]
theorem sc14 : FnScope N14 A14 (defScope st14) := ⟨rfl, rfl, rfl, by decide +kernel, rfl, by decide +kernel, by decide +kernel⟩
abbrev st15 : Stmt := top 30
abbrev N15 : List Str := ["rule", "game"]
abbrev A15 : List Str := ["rule", "game"]
theorem sc15 : FnScope N15 A15 (defScope st15) := ⟨rfl, rfl, rfl, by decide +kernel, rfl, by decide +kernel, by decide +kernel⟩
abbrev st16 : Stmt := top 31
abbrev N16 : List Str := ["rule", "game"]
abbrev A16 : List Str := ["rule", "game"]
theorem sc16 : FnScope N16 A16 (defScope st16) := ⟨rfl, rfl, rfl, by decide +kernel, rfl, by decide +kernel, by decide +kernel⟩
abbrev st17 : Stmt := top 32
abbrev N17 : List Str := ["number", "found", "one"]
abbrev A17 : List Str := ["number"]
theorem sc17 : FnScope N17 A17 (defScope st17) := ⟨rfl, rfl, rfl, by decide +kernel, rfl, by decide +kernel, by decide +kernel⟩
abbrev st18 : Stmt := top 33
abbrev N18 : List Str := ["name", "many", "size", "is_in", "before", "behind"]
abbrev A18 : List Str := ["name", "many", "size", "is_in"]
theorem sc18 : FnScope N18 A18 (defScope st18) := ⟨rfl, rfl, rfl, by decide +kernel, rfl, by decide +kernel, by decide +kernel⟩
abbrev st19 : Stmt := top 34
abbrev N19 : List Str := ["group", "person"]
abbrev A19 : List Str := ["group", "person"]
theorem sc19 : FnScope N19 A19 (defScope st19) := ⟨rfl, rfl, rfl, by decide +kernel, rfl, by decide +kernel, by decide +kernel⟩
abbrev st20 : Stmt := top 35
abbrev N20 : List Str := ["name", "many", "person", "group", "everybody", "rest", "is_all"]
abbrev A20 : List Str := ["name", "many", "person", "group"]
theorem sc20 : FnScope N20 A20 (defScope st20) := ⟨rfl, rfl, rfl, by decide +kernel, rfl, by decide +kernel, by decide +kernel⟩
abbrev st21 : Stmt := top 36
abbrev N21 : List Str := []
abbrev A21 : List Str := []
theorem sc21 : FnScope N21 A21 (defScope st21) := ⟨rfl, rfl, rfl, by decide +kernel, rfl, by decide +kernel, by decide +kernel⟩
abbrev st22 : Stmt := top 37
abbrev N22 : List Str := ["name", "many", "person", "group"]
abbrev A22 : List Str := ["name", "many"]
theorem sc22 : FnScope N22 A22 (defScope st22) := ⟨rfl, rfl, rfl, by decide +kernel, rfl, by decide +kernel, by decide +kernel⟩
abbrev st23 : Stmt := top 39
abbrev N23 : List Str := ["_law_row", "_law_many", "_law_found", "_law_cell"]
abbrev A23 : List Str := ["_law_row", "_law_many"]
theorem sc23 : FnScope N23 A23 (defScope st23) := ⟨rfl, rfl, rfl, by decide +kernel, rfl, by decide +kernel, by decide +kernel⟩
abbrev st24 : Stmt := top 40
abbrev N24 : List Str := ["_law_row", "_law_kinds"]
abbrev A24 : List Str := ["_law_row", "_law_kinds"]
theorem sc24 : FnScope N24 A24 (defScope st24) := ⟨rfl, rfl, rfl, by decide +kernel, rfl, by decide +kernel, by decide +kernel⟩
abbrev st25 : Stmt := top 41
abbrev N25 : List Str := ["_law_found", "_law_due", "_law_k"]
abbrev A25 : List Str := ["_law_found", "_law_due"]
theorem sc25 : FnScope N25 A25 (defScope st25) := ⟨rfl, rfl, rfl, by decide +kernel, rfl, by decide +kernel, by decide +kernel⟩
abbrev st26 : Stmt := top 42
abbrev N26 : List Str := ["_law_many", "_law_found", "_law_size", "_law_layer", "_law_turn", "_law_longer", "_law_one", "_law_person"]
abbrev A26 : List Str := ["_law_many"]
theorem sc26 : FnScope N26 A26 (defScope st26) := ⟨rfl, rfl, rfl, by decide +kernel, rfl, by decide +kernel, by decide +kernel⟩
abbrev st27 : Stmt := top 43
abbrev N27 : List Str := ["_law_game_here", "_law_many", "_law_found"]
abbrev A27 : List Str := ["_law_game_here", "_law_many"]
theorem sc27 : FnScope N27 A27 (defScope st27) := ⟨rfl, rfl, rfl, by decide +kernel, rfl, by decide +kernel, by decide +kernel⟩
abbrev st28 : Stmt := top 44
abbrev N28 : List Str := ["_law_group", "_law_person", "_law_one"]
abbrev A28 : List Str := ["_law_group", "_law_person"]
theorem sc28 : FnScope N28 A28 (defScope st28) := ⟨rfl, rfl, rfl, by decide +kernel, rfl, by decide +kernel, by decide +kernel⟩
abbrev st29 : Stmt := top 45
abbrev N29 : List Str := ["_law_group", "_law_person", "_law_one"]
abbrev A29 : List Str := ["_law_group", "_law_person"]
theorem sc29 : FnScope N29 A29 (defScope st29) := ⟨rfl, rfl, rfl, by decide +kernel, rfl, by decide +kernel, by decide +kernel⟩
abbrev st30 : Stmt := top 46
abbrev N30 : List Str := ["_law_top", "_law_low", "_law_one", "_law_other"]
abbrev A30 : List Str := ["_law_top", "_law_low"]
theorem sc30 : FnScope N30 A30 (defScope st30) := ⟨rfl, rfl, rfl, by decide +kernel, rfl, by decide +kernel, by decide +kernel⟩
abbrev st31 : Stmt := top 47
abbrev N31 : List Str := ["_law_some", "_law_top", "_law_low", "_law_one"]
abbrev A31 : List Str := ["_law_some"]
theorem sc31 : FnScope N31 A31 (defScope st31) := ⟨rfl, rfl, rfl, by decide +kernel, rfl, by decide +kernel, by decide +kernel⟩
abbrev st32 : Stmt := top 48
abbrev N32 : List Str := ["_law_rule_here", "_law_game_here", "_law_row", "_law_at"]
abbrev A32 : List Str := ["_law_rule_here", "_law_game_here"]
theorem sc32 : FnScope N32 A32 (defScope st32) := ⟨rfl, rfl, rfl, by decide +kernel, rfl, by decide +kernel, by decide +kernel⟩
abbrev st33 : Stmt := top 49
abbrev N33 : List Str := ["_law_some", "_law_found", "_law_at", "_law_rest"]
abbrev A33 : List Str := ["_law_some"]
theorem sc33 : FnScope N33 A33 (defScope st33) := ⟨rfl, rfl, rfl, by decide +kernel, rfl, by decide +kernel, by decide +kernel⟩
abbrev st34 : Stmt := top 50
abbrev N34 : List Str := ["_law_row", "_law_many", "_law_some", "_law_kind", "_law_group", "_law_found", "_law_worths_here", "_law_who", "_law_own", "_law_other", "_law_person"]
abbrev A34 : List Str := ["_law_row", "_law_many"]
theorem sc34 : FnScope N34 A34 (defScope st34) := ⟨rfl, rfl, rfl, by decide +kernel, rfl, by decide +kernel, by decide +kernel⟩
abbrev st35 : Stmt := top 51
abbrev N35 : List Str := ["_law_name", "_law_many", "_law_who", "_law_group", "_law_everybody", "_law_top", "_law_low", "_law_order", "_law_ahead", "_law_some", "_law_gone", "_law_one"]
abbrev A35 : List Str := ["_law_name", "_law_many", "_law_who", "_law_group"]
theorem sc35 : FnScope N35 A35 (defScope st35) := ⟨rfl, rfl, rfl, by decide +kernel, rfl, by decide +kernel, by decide +kernel⟩
abbrev st36 : Stmt := top 52
abbrev N36 : List Str := []
abbrev A36 : List Str := []
theorem sc36 : FnScope N36 A36 (defScope st36) := ⟨rfl, rfl, rfl, by decide +kernel, rfl, by decide +kernel, by decide +kernel⟩
abbrev st37 : Stmt := top 53
abbrev N37 : List Str := ["_law_name", "_law_many", "_law_who", "_law_group"]
abbrev A37 : List Str := ["_law_name", "_law_many"]
theorem sc37 : FnScope N37 A37 (defScope st37) := ⟨rfl, rfl, rfl, by decide +kernel, rfl, by decide +kernel, by decide +kernel⟩
abbrev st38 : Stmt := top 54
abbrev N38 : List Str := ["_law_row", "_law_many", "_law_one", "_law_other", "_law_kind", "_law_who", "_law_at", "_law_part_here", "_law_here", "_law_mixed_here", "_law_there", "_law_left", "_law_right"]
abbrev A38 : List Str := ["_law_row", "_law_many"]
theorem sc38 : FnScope N38 A38 (defScope st38) := ⟨rfl, rfl, rfl, by decide +kernel, rfl, by decide +kernel, by decide +kernel⟩
abbrev st39 : Stmt := top 55
abbrev N39 : List Str := ["_law_script", "_law_row", "_law_many", "_law_name", "_law_rule_here", "_law_game_here", "_law_other", "_law_both", "_law_left", "_law_right", "_law_one", "_law_more"]
abbrev A39 : List Str := ["_law_script"]
theorem sc39 : FnScope N39 A39 (defScope st39) := ⟨rfl, rfl, rfl, by decide +kernel, rfl, by decide +kernel, by decide +kernel⟩
/-! ### what each def computes -/
/-- is_integer -/
def b0 (cf : Nat → List Pv.Arg → Sto → Out R) : Sx :=
    (retS (andX (isIX ["int"] (var 0)) (notX (isIX ["bool"] (var 0)))))
/-- need_many -/
def b1 (cf : Nat → List Pv.Arg → Sto → Out R) : Sx :=
    (ifS (orX (notX (callX cf 0 (aname 0 anil))) (notX (chain leD leD (con (.int 2)) (var 0) (con (.int 4))))) nope skip)
/-- groups_of -/
def b2 (cf : Nat → List Pv.Arg → Sto → Out R) : Sx :=
    (seqS (setS 1 (lstX (lcons (tupX lnil) lnil)))
    (seqS (forS (tName 2) (iRg1 (lcons (var 0) lnil)) (setS 1 (op2 addD (var 1) (compX [3] (tName 3) (iVal (var 1)) (con (.bl true)) (tupX (lstar (var 3) (lcons (var 2) lnil)))))))
    (retS (compX [4, 3] (tTupl [4, 3]) (iVal (op1 sortedD (compX [3] (tName 3) (iVal (var 1)) (con (.bl true)) (tupX (lcons (b1V lenD 3) (lcons (var 3) lnil)))))) (op2 gtD (var 4) (con (.int 0))) (var 3)))))
/-- need_game -/
def b3 (cf : Nat → List Pv.Arg → Sto → Out R) : Sx :=
    (seqS (ifS (orX (notX (isIX ["tuple"] (var 0))) (op1 (kninD t_SIZES) (b1V lenD 0))) nope skip)
    (forS (tName 1) (iRg1 (lcons (b1V lenD 0) lnil)) (ifS (orX (notX (callX cf 0 (aval (subV 0 (var 1)) anil))) (op2 gtD (op1 absD (subV 0 (var 1))) (con (.int 1000)))) nope skip)))
/-- people_in -/
def b4 (cf : Nat → List Pv.Arg → Sto → Out R) : Sx :=
    (retS (op1 (kgetD t_SIZES) (b1V lenD 0)))
/-- others -/
def b5 (cf : Nat → List Pv.Arg → Sto → Out R) : Sx :=
    (retS (op1 tupleD (compX [2] (tName 2) (iRg1 (lcons (var 0) lnil)) (inV nmemD (var 2) 1) (var 2))))
/-- common -/
def b6 (cf : Nat → List Pv.Arg → Sto → Out R) : Sx :=
    (seqS (whileS fuel (op2 neD (var 1) (con (.int 0))) (par2 0 false 1 false (var 1) (op2 modD (var 0) (var 1))))
    (retS (b1V absD 0)))
/-- ratio -/
def b7 (cf : Nat → List Pv.Arg → Sto → Out R) : Sx :=
    (seqS (ifS (op2 ltD (var 1) (con (.int 0))) (par2 0 false 1 false (op1 negD (var 0)) (op1 negD (var 1))) skip)
    (seqS (setS 2 (callX cf 6 (aname 0 (aname 1 anil))))
    (retS (tupX (lcons (op2 fdivD (var 0) (var 2)) (lcons (op2 fdivD (var 1) (var 2)) lnil))))))
/-- plus -/
def b8 (cf : Nat → List Pv.Arg → Sto → Out R) : Sx :=
    (retS (callX cf 7 (aval (op2 addD (op2 mulD (subV 0 (con (.int 0))) (subV 1 (con (.int 1)))) (op2 mulD (subV 1 (con (.int 0))) (subV 0 (con (.int 1))))) (aval (op2 mulD (subV 0 (con (.int 1))) (subV 1 (con (.int 1)))) anil))))
/-- times -/
def b9 (cf : Nat → List Pv.Arg → Sto → Out R) : Sx :=
    (retS (callX cf 7 (aval (op2 mulD (subV 0 (con (.int 0))) (var 1)) (aval (subV 0 (con (.int 1))) anil))))
/-- total -/
def b10 (cf : Nat → List Pv.Arg → Sto → Out R) : Sx :=
    (seqS (setS 1 (tupX (lcons (con (.int 0)) (lcons (con (.int 1)) lnil))))
    (seqS (forS (tName 2) (iVal (var 0)) (setS 1 (callX cf 8 (aname 1 (aname 2 anil)))))
    (retS (var 1))))
/-- is_ratio -/
def b11 (cf : Nat → List Pv.Arg → Sto → Out R) : Sx :=
    (seqS (ifS (orX (notX (isIX ["tuple"] (var 0))) (op2 neD (b1V lenD 0) (con (.int 2)))) (retS (con (.bl false))) skip)
    (seqS (ifS (notX (op1 allD (compX [1] (tName 1) (iVal (var 0)) (con (.bl true)) (andX (isIX ["int"] (var 1)) (notX (isIX ["bool"] (var 1))))))) (retS (con (.bl false))) skip)
    (retS (andX (op2 gtD (subV 0 (con (.int 1))) (con (.int 0))) (op2 eqD (callX cf 6 (aval (subV 0 (con (.int 0))) (aval (subV 0 (con (.int 1))) anil))) (con (.int 1)))))))
/-- need_rule -/
def b12 (cf : Nat → List Pv.Arg → Sto → Out R) : Sx :=
    (seqS (setS 1 (dcX [4, 5] (tTupl [4, 5]) (iPairs t_SIZES) (con (.bl true)) (var 5) (var 4)))
    (seqS (ifS (orX (notX (isIX ["tuple"] (var 0))) (inV nmemD (b1V lenD 0) 1)) nope skip)
    (seqS (forS (tName 2) (iRg1 (lcons (b1V lenD 0) lnil)) (ifS (orX (notX (isIX ["tuple"] (subV 0 (var 2)))) (op2 neD (op1 lenD (subV 0 (var 2))) (subV 1 (b1V lenD 0)))) nope skip))
    (forS (tName 2) (iRg1 (lcons (b1V lenD 0) lnil)) (forS (tName 3) (iRg1 (lcons (op1 lenD (subV 0 (var 2))) lnil)) (ifS (notX (callX cf 13 (aval (op2 atD (subV 0 (var 2)) (var 3)) anil))) nope skip))))))
/-- is_part -/
def b13 (cf : Nat → List Pv.Arg → Sto → Out R) : Sx :=
    (retS (andX (callX cf 11 (aname 0 anil)) (op2 leD (biX max2D (lcons (op1 absD (subV 0 (con (.int 0)))) (lcons (subV 0 (con (.int 1))) lnil))) (con (.int 1000000000000)))))
/-- shares_of -/
def b14 (cf : Nat → List Pv.Arg → Sto → Out R) : Sx :=
    (retS (op1 tupleD (compX [2] (tName 2) (iVal (var 0)) (con (.bl true)) (callX cf 10 (aval (compX [3, 4] (tTupl [3, 4]) (iZip (lcons (var 2) (lcons (var 1) lnil))) (con (.bl true)) (callX cf 9 (aname 3 (aname 4 anil)))) anil)))))
/-- need_fit -/
def b15 (cf : Nat → List Pv.Arg → Sto → Out R) : Sx :=
    (seqS (exS (callX cf 12 (aname 0 anil)))
    (seqS (exS (callX cf 3 (aname 1 anil)))
    (ifS (op2 neD (b1V lenD 0) (callX cf 4 (aname 1 anil))) nope skip)))
/-- shares -/
def b16 (cf : Nat → List Pv.Arg → Sto → Out R) : Sx :=
    (seqS (exS (callX cf 15 (aname 0 (aname 1 anil))))
    (retS (callX cf 14 (aname 0 (aname 1 anil)))))
/-- factorial -/
def b17 (cf : Nat → List Pv.Arg → Sto → Out R) : Sx :=
    (seqS (setS 1 (con (.int 1)))
    (seqS (forS (tName 2) (iRg2 (lcons (con (.int 2)) (lcons (op2 addD (var 0) (con (.int 1))) lnil))) (setS 1 (op2 mulD (var 1) (var 2))))
    (retS (var 1))))
/-- weight -/
def b18 (cf : Nat → List Pv.Arg → Sto → Out R) : Sx :=
    (seqS (ifS (op2 eqD (var 0) (con (.str (Str.ofString "banzhaf")))) (retS (callX cf 7 (aval (iteX (var 3) (con (.int 1)) (op1 negD (con (.int 1)))) (aval (op2 shlD (con (.int 1)) (op2 subD (var 1) (con (.int 1)))) anil)))) skip)
    (seqS (unpS [4, 5] (iteX (var 3) (tupX (lcons (op2 subD (var 2) (con (.int 1))) (lcons (op2 subD (var 1) (var 2)) lnil))) (tupX (lcons (var 2) (lcons (op2 subD (op2 subD (var 1) (var 2)) (con (.int 1))) lnil)))))
    (retS (callX cf 7 (aval (op2 mulD (op2 mulD (iteX (var 3) (con (.int 1)) (op1 negD (con (.int 1)))) (callX cf 17 (aname 4 anil))) (callX cf 17 (aname 5 anil))) (aval (callX cf 17 (aname 1 anil)) anil))))))
/-- turn_part -/
def b19 (cf : Nat → List Pv.Arg → Sto → Out R) : Sx :=
    (seqS (ifS (op2 eqD (var 0) (tupRg (rg1 (op2 addD (var 1) (con (.int 1)))))) (retS (tupX (lcons (con (.int 1)) (lcons (con (.int 1)) lnil)))) skip)
    (retS (iteX (op2 eqD (var 0) (tupRg (rg1 (var 1)))) (tupX (lcons (op1 negD (con (.int 1))) (lcons (con (.int 1)) lnil))) (tupX (lcons (con (.int 0)) (lcons (con (.int 1)) lnil))))))
/-- part_of -/
def b20 (cf : Nat → List Pv.Arg → Sto → Out R) : Sx :=
    (seqS (par2 4 false 5 false (tupRg (rg1 (var 1))) (callX cf 5 (aname 1 (aval (tupX (lcons (var 2) lnil)) anil))))
    (seqS (ifS (op2 memD (var 0) (tupX (lcons (con (.str (Str.ofString "banzhaf"))) (lcons (con (.str (Str.ofString "shapley"))) lnil)))) (retS (callX cf 18 (aname 0 (aname 1 (aval (b1V lenD 3) (aval (inV memD (var 2) 3) anil)))))) skip)
    (seqS (ifS (op2 eqD (var 0) (con (.str (Str.ofString "in turn")))) (retS (callX cf 19 (aname 3 (aname 2 anil)))) skip)
    (seqS (setS 6 (op2 eqD (var 3) (var 4)))
    (seqS (ifS (op2 eqD (var 0) (con (.str (Str.ofString "even")))) (retS (callX cf 7 (aval (b1V intD 6) (aname 1 anil)))) skip)
    (seqS (ifS (op2 eqD (var 0) (con (.str (Str.ofString "own")))) (retS (tupX (lcons (op1 intD (op2 eqD (var 3) (tupX (lcons (var 2) lnil)))) (lcons (con (.int 1)) lnil)))) skip)
    (seqS (ifS (op2 eqD (var 0) (con (.str (Str.ofString "last")))) (retS (tupX (lcons (op2 subD (b1V intD 6) (op1 intD (op2 eqD (var 3) (var 5)))) (lcons (con (.int 1)) lnil)))) skip)
    (seqS (ifS (op2 eqD (var 0) (con (.str (Str.ofString "rest even")))) (retS (callX cf 7 (aval (op2 subD (op2 addD (op2 mulD (var 1) (op1 intD (op2 eqD (var 3) (tupX (lcons (var 2) lnil))))) (b1V intD 6)) (op1 intD (op2 eqD (b1V lenD 3) (con (.int 1))))) (aname 1 anil)))) skip)
    (retS (callX cf 7 (aval (op2 subD (op2 addD (b1V intD 6) (op1 intD (op2 eqD (b1V lenD 3) (op2 subD (var 1) (con (.int 1)))))) (op2 mulD (var 1) (op1 intD (op2 eqD (var 3) (var 5))))) (aname 1 anil))))))))))))
/-- names -/
def b21 (cf : Nat → List Pv.Arg → Sto → Out R) : Sx :=
    (retS (con l_NAMES))
/-- told_rule -/
def b22 (cf : Nat → List Pv.Arg → Sto → Out R) : Sx :=
    (seqS (ifS (orX (notX (isIX ["str"] (var 0))) (op2 nmemD (var 0) (con l_NAMES))) nope skip)
    (seqS (exS (callX cf 1 (aname 1 anil)))
    (retS (op1 tupleD (compX [2] (tName 2) (iRg1 (lcons (var 1) lnil)) (con (.bl true)) (op1 tupleD (compX [3] (tName 3) (iVal (callX cf 2 (aname 1 anil))) (con (.bl true)) (callX cf 20 (aname 0 (aname 1 (aname 2 (aname 3 anil))))))))))))
/-- law: taken -/
def b23 (cf : Nat → List Pv.Arg → Sto → Out R) : Sx :=
    (seqS (ifS (op2 gtD (subV 0 (con (.int 3))) (con (.int 0))) (seqS (setS 2 (op2 modD (op1 intD (subV 0 (con (.int 3)))) (var 1)))
    (seqS (storeS 0 (con (.int 3)) (op2 fdivD (subV 0 (con (.int 3))) (var 1)))
    (retS (var 2)))) skip)
    (seqS (storeS 0 (con (.int 1)) (op2 addD (subV 0 (con (.int 1))) (con (.int 1))))
    (seqS (ifS (op2 gtD (subV 0 (con (.int 1))) (op1 lenD (subV 0 (con (.int 0))))) (seqS (storeS 0 (con (.int 2)) (op2 modD (op1 intD (op2 addD (op2 mulD (subV 0 (con (.int 2))) (con (.int 48271))) (con (.int 11)))) (con (.int 2147483647))))
    (retS (op2 modD (op1 intD (op2 fdivD (subV 0 (con (.int 2))) (con (.int 7)))) (var 1)))) skip)
    (seqS (setS 3 (op2 atD (subV 0 (con (.int 0))) (op2 subD (subV 0 (con (.int 1))) (con (.int 1)))))
    (seqS (storeS 0 (con (.int 2)) (op2 modD (op1 intD (op2 addD (op2 addD (op2 mulD (subV 0 (con (.int 2))) (con (.int 48271))) (var 3)) (con (.int 11)))) (con (.int 2147483647))))
    (seqS (ifS (op2 geD (var 3) (op2 powD (con (.int 10)) (con (.int 18)))) (storeS 0 (con (.int 3)) (op2 fdivD (var 3) (var 1))) skip)
    (retS (op2 modD (b1V intD 3) (var 1)))))))))
/-- law: pick -/
def b24 (cf : Nat → List Pv.Arg → Sto → Out R) : Sx :=
    (retS (subV 1 (callX cf 23 (aname 0 (aval (b1V lenD 1) anil)))))
/-- law: alike -/
def b25 (cf : Nat → List Pv.Arg → Sto → Out R) : Sx :=
    (seqS (ifS (isIX ["tuple", "list"] (var 1)) (seqS (ifS (orX (notX (isIX ["tuple", "list"] (var 0))) (op2 neD (isIX ["list"] (var 0)) (isIX ["list"] (var 1)))) (retS (con (.bl false))) skip)
    (seqS (ifS (op2 neD (b1V lenD 0) (b1V lenD 1)) (retS (con (.bl false))) skip)
    (retS (op2 eqD (compX [2] (tName 2) (iRg1 (lcons (b1V lenD 1) lnil)) (notX (callX cf 25 (aval (subV 0 (var 2)) (aval (subV 1 (var 2)) anil)))) (var 2)) (lstX lnil))))) skip)
    (seqS (ifS (orX (op2 isND (var 1) (con .non)) (isIX ["str"] (var 1))) (retS (andX (op2 eqD (var 0) (var 1)) (op2 eqD (isIX ["str"] (var 0)) (isIX ["str"] (var 1))))) skip)
    (retS (andX (isIX ["int"] (var 0)) (andX (op2 eqD (isIX ["bool"] (var 0)) (isIX ["bool"] (var 1))) (op2 eqD (var 0) (var 1)))))))
/-- law: groups -/
def b26 (cf : Nat → List Pv.Arg → Sto → Out R) : Sx :=
    (seqS (setS 1 (lstX lnil))
    (seqS (forS (tName 2) (iRg2 (lcons (con (.int 1)) (lcons (op2 addD (var 0) (con (.int 1))) lnil))) (seqS (setS 3 (lstX (lcons (tupX lnil) lnil)))
    (seqS (forS (tName 4) (iRg1 (lcons (var 2) lnil)) (seqS (setS 5 (lstX lnil))
    (seqS (forS (tName 6) (iVal (var 3)) (setS 5 (op2 addD (var 5) (compX [7] (tName 7) (iRg2 (lcons (iteX (op2 neD (var 6) (tupX lnil)) (op2 addD (subV 6 (op1 negD (con (.int 1)))) (con (.int 1))) (con (.int 0))) (lcons (var 0) lnil))) (con (.bl true)) (op2 addD (var 6) (tupX (lcons (var 7) lnil)))))))
    (setS 3 (var 5)))))
    (setS 1 (op2 addD (var 1) (var 3))))))
    (retS (var 1))))
/-- law: worths -/
def b27 (cf : Nat → List Pv.Arg → Sto → Out R) : Sx :=
    (seqS (setO 2 (op1 dictL (biX lzip (lcons (callX cf 26 (aname 1 anil)) (lcons (var 0) lnil)))))
    (seqS (storeS 2 (tupX lnil) (con (.int 0)))
    (retO 2)))
/-- law: with -/
def b28 (cf : Nat → List Pv.Arg → Sto → Out R) : Sx :=
    (retS (op1 tupleD (op1 sortedD (op2 addD (compX [2] (tName 2) (iVal (var 0)) (op2 neD (var 2) (var 1)) (var 2)) (lstX (lcons (var 1) lnil))))))
/-- law: less -/
def b29 (cf : Nat → List Pv.Arg → Sto → Out R) : Sx :=
    (retS (op1 tupleD (compX [2] (tName 2) (iVal (var 0)) (op2 neD (var 2) (var 1)) (var 2))))
/-- law: ratio -/
def b30 (cf : Nat → List Pv.Arg → Sto → Out R) : Sx :=
    (seqS (par2 2 false 3 false (b1V absD 0) (var 1))
    (seqS (whileS fuel (op2 neD (var 3) (con (.int 0))) (par2 2 false 3 false (var 3) (op2 modD (var 2) (var 3))))
    (retS (tupX (lcons (op2 fdivD (var 0) (var 2)) (lcons (op2 fdivD (var 1) (var 2)) lnil))))))
/-- law: sum -/
def b31 (cf : Nat → List Pv.Arg → Sto → Out R) : Sx :=
    (seqS (par2 1 false 2 false (con (.int 0)) (con (.int 1)))
    (seqS (forS (tName 3) (iVal (var 0)) (par2 1 false 2 false (op2 addD (op2 mulD (var 1) (subV 3 (con (.int 1)))) (op2 mulD (subV 3 (con (.int 0))) (var 2))) (op2 mulD (var 2) (subV 3 (con (.int 1))))))
    (retS (callX cf 30 (aname 1 (aname 2 anil))))))
/-- law: shares -/
def b32 (cf : Nat → List Pv.Arg → Sto → Out R) : Sx :=
    (retS (op1 tupleD (compX [2] (tName 2) (iVal (var 0)) (con (.bl true)) (callX cf 31 (aval (compX [3] (tName 3) (iRg1 (lcons (b1V lenD 1) lnil)) (con (.bl true)) (tupX (lcons (op2 mulD (op2 atD (subV 2 (var 3)) (con (.int 0))) (subV 1 (var 3))) (lcons (op2 atD (subV 2 (var 3)) (con (.int 1))) lnil)))) anil)))))
/-- law: orders -/
def b33 (cf : Nat → List Pv.Arg → Sto → Out R) : Sx :=
    (seqS (ifS (op2 ltD (b1V lenD 0) (con (.int 2))) (retS (lstX (lcons (b1V listD 0) lnil))) skip)
    (seqS (setS 1 (lstX lnil))
    (seqS (forS (tName 2) (iRg1 (lcons (b1V lenD 0) lnil)) (setS 1 (op2 addD (var 1) (compX [3] (tName 3) (iVal (callX cf 33 (aval (op2 addD (op1 listD (sliceV 0 onone (osome (var 2)))) (op1 listD (sliceV 0 (osome (op2 addD (var 2) (con (.int 1)))) onone))) anil))) (con (.bl true)) (op2 addD (lstX (lcons (subV 0 (var 2)) lnil)) (var 3))))))
    (retS (var 1)))))
/-- law: game -/
def b34 (cf : Nat → List Pv.Arg → Sto → Out R) : Sx :=
    (seqS (par2 2 false 3 false (callX cf 26 (aname 1 anil)) (callX cf 23 (aname 0 (aval (con (.int 6)) anil))))
    (seqS (setS 5 (compX [4] (tName 4) (iVal (var 2)) (con (.bl true)) (callX cf 24 (aname 0 (aval (lstX (lcons (con (.int 0)) (lcons (con (.int 0)) (lcons (con (.int 1)) (lcons (op1 negD (con (.int 1))) (lcons (con (.int 2)) (lcons (con (.int 5)) (lcons (op2 subD (callX cf 23 (aname 0 (aval (con (.int 41)) anil))) (con (.int 20))) lnil)))))))) anil)))))
    (seqS (par2 6 true 7 false (callX cf 27 (aname 5 (aname 1 anil))) (callX cf 23 (aname 0 (aname 1 anil))))
    (seqS (setS 8 (callX cf 24 (aname 0 (aval (lstX (lcons (con (.int 0)) (lcons (con (.int 0)) (lcons (con (.int 3)) lnil)))) anil))))
    (seqS (ifS (op2 eqD (var 3) (con (.int 1))) (setS 5 (compX [4] (tName 4) (iVal (var 2)) (con (.bl true)) (op1 sumD (compX [10] (tName 10) (iVal (var 4)) (con (.bl true)) (subV 5 (var 10)))))) skip)
    (seqS (ifS (op2 eqD (var 3) (con (.int 2))) (setS 5 (compX [4] (tName 4) (iVal (var 2)) (con (.bl true)) (op2 addD (subV 6 (callX cf 29 (aname 4 (aname 7 anil)))) (iteX (inV memD (var 7) 4) (var 8) (con (.int 0)))))) skip)
    (seqS (ifS (op2 eqD (var 3) (con (.int 3))) (seqS (setS 9 (op2 modD (op2 addD (var 7) (con (.int 1))) (var 1)))
    (seqS (forS (tName 4) (iVal (var 2)) (ifS (andX (inV memD (var 7) 4) (inV nmemD (var 9) 4)) (storeS 6 (callX cf 28 (aval (callX cf 29 (aname 4 (aname 7 anil))) (aname 9 anil))) (subV 6 (var 4))) skip))
    (setS 5 (compX [4] (tName 4) (iVal (var 2)) (con (.bl true)) (subV 6 (var 4)))))) skip)
    (seqS (ifS (op2 eqD (var 3) (con (.int 4))) (setS 5 (compX [4] (tName 4) (iVal (var 2)) (con (.bl true)) (iteX (inV memD (var 7) 4) (con (.int 0)) (subV 6 (var 4))))) skip)
    (retS (b1V tupleD 5))))))))))
/-- law: part -/
def b35 (cf : Nat → List Pv.Arg → Sto → Out R) : Sx :=
    (seqS (setS 4 (tupRg (rg1 (var 1))))
    (seqS (par2 5 false 6 false (con (.int 0)) (var 1))
    (seqS (ifS (op2 eqD (var 0) (con (.str (Str.ofString "shapley")))) (seqS (setS 6 (con (.int 0)))
    (forS (tName 7) (iVal (callX cf 33 (aval (b1V listD 4) anil))) (seqS (setS 8 (op1 tupleD (op1 sortedD (sliceV 7 onone (osome (opM isL indexD (var 7) (var 2)))))))
    (par2 5 false 6 false (op2 subD (op2 addD (var 5) (op1 intD (op2 eqD (callX cf 28 (aname 8 (aname 2 anil))) (var 3)))) (op1 intD (op2 eqD (var 8) (var 3)))) (op2 addD (var 6) (con (.int 1))))))) skip)
    (seqS (ifS (op2 eqD (var 0) (con (.str (Str.ofString "banzhaf")))) (seqS (setS 9 (compX [11] (tName 11) (iVal (op2 addD (lstX (lcons (tupX lnil) lnil)) (callX cf 26 (aname 1 anil)))) (inV nmemD (var 2) 11) (var 11)))
    (seqS (setS 6 (b1V lenD 9))
    (setS 5 (op1 sumD (compX [11] (tName 11) (iVal (var 9)) (con (.bl true)) (op2 subD (op1 intD (op2 eqD (callX cf 28 (aname 11 (aname 2 anil))) (var 3))) (op1 intD (op2 eqD (var 11) (var 3))))))))) skip)
    (seqS (ifS (op2 eqD (var 0) (con (.str (Str.ofString "in turn")))) (par2 5 false 6 false (op2 subD (op1 intD (op2 eqD (var 3) (sliceV 4 onone (osome (op2 addD (var 2) (con (.int 1))))))) (op1 intD (op2 eqD (var 3) (sliceV 4 onone (osome (var 2)))))) (con (.int 1))) skip)
    (seqS (ifS (op2 eqD (var 0) (con (.str (Str.ofString "even")))) (setS 5 (op1 intD (op2 eqD (var 3) (var 4)))) skip)
    (seqS (ifS (op2 eqD (var 0) (con (.str (Str.ofString "own")))) (par2 5 false 6 false (op1 intD (op2 eqD (var 3) (tupX (lcons (var 2) lnil)))) (con (.int 1))) skip)
    (seqS (ifS (op2 eqD (var 0) (con (.str (Str.ofString "last")))) (par2 5 false 6 false (op2 subD (op1 intD (op2 eqD (var 3) (var 4))) (op1 intD (op2 eqD (var 3) (callX cf 29 (aname 4 (aname 2 anil)))))) (con (.int 1))) skip)
    (seqS (ifS (op2 eqD (var 0) (con (.str (Str.ofString "rest even")))) (setS 5 (op2 subD (op2 addD (op2 mulD (var 1) (op1 intD (op2 eqD (var 3) (tupX (lcons (var 2) lnil))))) (op1 intD (op2 eqD (var 3) (var 4)))) (op1 sumD (compX [11] (tName 11) (iVal (var 4)) (con (.bl true)) (op1 intD (op2 eqD (var 3) (tupX (lcons (var 11) lnil)))))))) skip)
    (seqS (ifS (op2 eqD (var 0) (con (.str (Str.ofString "last even")))) (seqS (setS 10 (compX [11] (tName 11) (iVal (var 4)) (con (.bl true)) (callX cf 29 (aname 4 (aname 11 anil)))))
    (seqS (setS 5 (op2 addD (op2 mulD (var 1) (op2 subD (op1 intD (op2 eqD (var 3) (var 4))) (op1 intD (op2 eqD (var 3) (subV 10 (var 2)))))) (op1 intD (op2 eqD (var 3) (var 4)))))
    (setS 5 (op2 subD (var 5) (op1 sumD (compX [11] (tName 11) (iVal (var 10)) (con (.bl true)) (op2 subD (op1 intD (op2 eqD (var 3) (var 4))) (op1 intD (op2 eqD (var 3) (var 11)))))))))) skip)
    (retS (callX cf 30 (aname 5 (aname 6 anil))))))))))))))
/-- law: names -/
def b36 (cf : Nat → List Pv.Arg → Sto → Out R) : Sx :=
    (retS (lstX (lcons (con (.str (Str.ofString "banzhaf"))) (lcons (con (.str (Str.ofString "even"))) (lcons (con (.str (Str.ofString "in turn"))) (lcons (con (.str (Str.ofString "last"))) (lcons (con (.str (Str.ofString "last even"))) (lcons (con (.str (Str.ofString "own"))) (lcons (con (.str (Str.ofString "rest even"))) (lcons (con (.str (Str.ofString "shapley"))) lnil))))))))))
/-- law: rule -/
def b37 (cf : Nat → List Pv.Arg → Sto → Out R) : Sx :=
    (retS (op1 tupleD (compX [2] (tName 2) (iRg1 (lcons (var 1) lnil)) (con (.bl true)) (op1 tupleD (compX [3] (tName 3) (iVal (callX cf 26 (aname 1 anil))) (con (.bl true)) (callX cf 35 (aname 0 (aname 1 (aname 2 (aname 3 anil))))))))))
/-- law: mixed -/
def b38 (cf : Nat → List Pv.Arg → Sto → Out R) : Sx :=
    (seqS (par2 2 false 3 false (callX cf 37 (aval (callX cf 24 (aname 0 (aval (callX cf 36 anil) anil))) (aname 1 anil))) (callX cf 37 (aval (callX cf 24 (aname 0 (aval (callX cf 36 anil) anil))) (aname 1 anil))))
    (seqS (setS 4 (callX cf 23 (aname 0 (aval (con (.int 3)) anil))))
    (seqS (ifS (op2 eqD (var 4) (con (.int 0))) (retS (var 2)) skip)
    (seqS (ifS (op2 eqD (var 4) (con (.int 1))) (seqS (par2 5 false 6 false (callX cf 23 (aname 0 (aname 1 anil))) (callX cf 23 (aname 0 (aval (op1 lenD (subV 2 (con (.int 0)))) anil))))
    (seqS (setS 7 (callX cf 24 (aname 0 (aval (lstX (lcons (tupX (lcons (con (.int 0)) (lcons (con (.int 1)) lnil))) (lcons (tupX (lcons (con (.int 1)) (lcons (con (.int 1)) lnil))) (lcons (tupX (lcons (op1 negD (con (.int 1))) (lcons (con (.int 1)) lnil))) (lcons (tupX (lcons (con (.int 1)) (lcons (con (.int 2)) lnil))) (lcons (tupX (lcons (con (.int 2)) (lcons (con (.int 3)) lnil))) lnil)))))) anil))))
    (retS (op1 tupleD (compX [8] (tName 8) (iRg1 (lcons (var 1) lnil)) (con (.bl true)) (op1 tupleD (compX [10] (tName 10) (iRg1 (lcons (op1 lenD (subV 2 (con (.int 0)))) lnil)) (con (.bl true)) (iteX (op2 eqD (tupX (lcons (var 8) (lcons (var 10) lnil))) (tupX (lcons (var 5) (lcons (var 6) lnil)))) (var 7) (op2 atD (subV 2 (var 8)) (var 10)))))))))) skip)
    (seqS (setO 9 (lstX lnil))
    (seqS (forS (tName 8) (iRg1 (lcons (var 1) lnil)) (mutS 9 appD (op1 tupleD (compX [11, 12] (tTupl [11, 12]) (iZip (lcons (subV 2 (var 8)) (lcons (subV 3 (var 8)) lnil))) (con (.bl true)) (callX cf 31 (aval (lstX (lcons (tupX (lcons (subV 11 (con (.int 0))) (lcons (op2 mulD (con (.int 2)) (subV 11 (con (.int 1)))) lnil))) (lcons (tupX (lcons (subV 12 (con (.int 0))) (lcons (op2 mulD (con (.int 2)) (subV 12 (con (.int 1)))) lnil))) lnil))) anil))))))
    (retS (b1V tupleD 9))))))))
/-- law -/
def b39 (cf : Nat → List Pv.Arg → Sto → Out R) : Sx :=
    (cellS 1 (lstX (lcons (var 0) (lcons (con (.int 0)) (lcons (con (.int 15661)) (lcons (con (.int 0)) lnil)))))
    (seqS (par2 2 false 3 false (op2 addD (con (.int 2)) (callX cf 23 (aname 1 (aval (con (.int 3)) anil)))) (callX cf 24 (aname 1 (aval (callX cf 36 anil) anil))))
    (seqS (ifS (orX (op2 neD (callX cf 21 anil) (op1 tupleD (callX cf 36 anil))) (notX (callX cf 25 (aval (callX cf 22 (aname 3 (aname 2 anil))) (aval (callX cf 37 (aname 3 (aname 2 anil))) anil))))) (retS (con (.bl false))) skip)
    (seqS (par3 4 false 5 false 6 false (callX cf 38 (aname 1 (aname 2 anil))) (callX cf 34 (aname 1 (aname 2 anil))) (callX cf 34 (aname 1 (aname 2 anil))))
    (seqS (ifS (notX (callX cf 25 (aval (callX cf 16 (aname 4 (aname 5 anil))) (aval (callX cf 32 (aname 4 (aname 5 anil))) anil)))) (retS (con (.bl false))) skip)
    (seqS (setS 7 (op1 tupleD (compX [10, 11] (tTupl [10, 11]) (iZip (lcons (var 5) (lcons (var 6) lnil))) (con (.bl true)) (op2 addD (var 10) (var 11)))))
    (seqS (par2 8 false 9 false (callX cf 16 (aname 4 (aname 5 anil))) (callX cf 16 (aname 4 (aname 6 anil))))
    (retS (op2 eqD (callX cf 16 (aname 4 (aname 7 anil))) (op1 tupleD (compX [10, 11] (tTupl [10, 11]) (iZip (lcons (var 8) (lcons (var 9) lnil))) (con (.bl true)) (callX cf 31 (aval (lstX (lcons (var 10) (lcons (var 11) lnil))) anil)))))))))))))
structure GF (K : PySem.W.Frag) (w : World) (mg : Str → Option Value) : Prop where
  isinstance : mg "isinstance" = none
  int : mg "int" = none
  bool : mg "bool" = none
  MOST_PEOPLE : ∃ t, mg "MOST_PEOPLE" = some (.int 4 t)
  range : mg "range" = none
  sorted : mg "sorted" = none
  len : mg "len" = none
  tuple : mg "tuple" = none
  SIZES : ∃ a, mg "SIZES" = some (.ref a) ∧ KTab K Gx w a t_SIZES
  abs : mg "abs" = none
  MOST_WORTH : ∃ t, mg "MOST_WORTH" = some (.int 1000 t)
  all : mg "all" = none
  max : mg "max" = none
  MOST_RATIO : ∃ t, mg "MOST_RATIO" = some (.int 1000000000000 t)
  zip : mg "zip" = none
  NAMES : ∃ a, mg "NAMES" = some (.ref a) ∧ KLit K Gx a l_NAMES
  str : mg "str" = none
  list : mg "list" = none
  dict : mg "dict" = none
  sum : mg "sum" = none
structure CF (P : Program) (w : World) (K : PySem.W.Frag) (mg : Str → Option Value) (base : Heap) (k : Nat) (cf : Nat → List Pv.Arg → Sto → Out R) : Prop where
  c0 : Callee P w K mg base Gx Xx k "is_integer" 1 (cf 0)
  c1 : Callee P w K mg base Gx Xx k "need_many" 1 (cf 1)
  c2 : Callee P w K mg base Gx Xx k "groups_of" 1 (cf 2)
  c3 : Callee P w K mg base Gx Xx k "need_game" 1 (cf 3)
  c4 : Callee P w K mg base Gx Xx k "people_in" 1 (cf 4)
  c5 : Callee P w K mg base Gx Xx k "others" 2 (cf 5)
  c6 : Callee P w K mg base Gx Xx k "common" 2 (cf 6)
  c7 : Callee P w K mg base Gx Xx k "ratio" 2 (cf 7)
  c8 : Callee P w K mg base Gx Xx k "plus" 2 (cf 8)
  c9 : Callee P w K mg base Gx Xx k "times" 2 (cf 9)
  c10 : Callee P w K mg base Gx Xx k "total" 1 (cf 10)
  c11 : Callee P w K mg base Gx Xx k "is_ratio" 1 (cf 11)
  c12 : Callee P w K mg base Gx Xx k "need_rule" 1 (cf 12)
  c13 : Callee P w K mg base Gx Xx k "is_part" 1 (cf 13)
  c14 : Callee P w K mg base Gx Xx k "shares_of" 2 (cf 14)
  c15 : Callee P w K mg base Gx Xx k "need_fit" 2 (cf 15)
  c16 : Callee P w K mg base Gx Xx k "shares" 2 (cf 16)
  c17 : Callee P w K mg base Gx Xx k "factorial" 1 (cf 17)
  c18 : Callee P w K mg base Gx Xx k "weight" 4 (cf 18)
  c19 : Callee P w K mg base Gx Xx k "turn_part" 2 (cf 19)
  c20 : Callee P w K mg base Gx Xx k "part_of" 4 (cf 20)
  c21 : Callee P w K mg base Gx Xx k "names" 0 (cf 21)
  c22 : Callee P w K mg base Gx Xx k "told_rule" 2 (cf 22)
  c23 : Callee P w K mg base Gx Xx k "_law_taken" 2 (cf 23)
  c24 : Callee P w K mg base Gx Xx k "_law_pick" 2 (cf 24)
  c25 : Callee P w K mg base Gx Xx k "_law_alike" 2 (cf 25)
  c26 : Callee P w K mg base Gx Xx k "_law_groups" 1 (cf 26)
  c27 : Callee P w K mg base Gx Xx k "_law_worths" 2 (cf 27)
  c28 : Callee P w K mg base Gx Xx k "_law_with" 2 (cf 28)
  c29 : Callee P w K mg base Gx Xx k "_law_less" 2 (cf 29)
  c30 : Callee P w K mg base Gx Xx k "_law_ratio" 2 (cf 30)
  c31 : Callee P w K mg base Gx Xx k "_law_sum" 1 (cf 31)
  c32 : Callee P w K mg base Gx Xx k "_law_shares" 2 (cf 32)
  c33 : Callee P w K mg base Gx Xx k "_law_orders" 1 (cf 33)
  c34 : Callee P w K mg base Gx Xx k "_law_game" 2 (cf 34)
  c35 : Callee P w K mg base Gx Xx k "_law_part" 4 (cf 35)
  c36 : Callee P w K mg base Gx Xx k "_law_names" 0 (cf 36)
  c37 : Callee P w K mg base Gx Xx k "_law_rule" 2 (cf 37)
  c38 : Callee P w K mg base Gx Xx k "_law_mixed" 2 (cf 38)
  c39 : Callee P w K mg base Gx Xx k "law" 1 (cf 39)
section
variable {P : Program} {w : World} {K : PySem.W.Frag} {mg : Str → Option Value} {base : Heap} {f : Addr} {cdv : Value} {A : Around} {outer : List Env} {s : Shared} {H : Hp} {E : XK} {ρ : List Addr} {P0 : Hp} {k : Nat} {cf : Nat → List Pv.Arg → Sto → Out R}
theorem w0 (g : GF K w mg) (C : CF P w K mg base k cf) (hr : Room k (A.deeper (envOfC "is_integer" (defScope st0) s.heap.objs.size f cdv))) : PSs (XC P w K mg base N0 "is_integer" (defScope st0) f cdv A outer s H E) (defBody st0) (TSx ⟨K, Gx, Xx, ρ, P0, H, E⟩ (b0 cf)) := by
  have hK : K = K := rfl
  have hu : (A.deeper (envOfC "is_integer" (defScope st0) s.heap.objs.size f cdv)).units + 65 < cLine := xc_units hr
  have nd := sc0.nd
  exact (sx_one (sx_ret (pd_and (pd_isi1 hK (by rfl) g.isinstance (pd_var 0 rfl (.inl rfl) (by decide +kernel) (by decide +kernel)) rfl (pe_bltn (by rfl) g.int PyProof.Rows.boot_int (show RelV (.ty "int") (.type "int") from rfl) (by decide) (by decide +kernel))) (pd_one (pd_not (pd_isi1 hK (by rfl) g.isinstance (pd_var 0 rfl (.inl rfl) (by decide +kernel) (by decide +kernel)) rfl (pe_bltn (by rfl) g.bool boot_bool2 (show RelV (.ty "bool") (.type "bool") from rfl) (by decide) (by decide +kernel))))))))
theorem w1 (g : GF K w mg) (C : CF P w K mg base k cf) (hr : Room k (A.deeper (envOfC "need_many" (defScope st1) s.heap.objs.size f cdv))) : PSs (XC P w K mg base N1 "need_many" (defScope st1) f cdv A outer s H E) (defBody st1) (TSx ⟨K, Gx, Xx, ρ, P0, H, E⟩ (b1 cf)) := by
  have hK : K = K := rfl
  have hu : (A.deeper (envOfC "need_many" (defScope st1) s.heap.objs.size f cdv)).units + 65 < cLine := xc_units hr
  have nd := sc1.nd
  exact (sx_one (sx_if (PW.pt (pww_or (pq_not (pq_val (pd_call 0 hK C.c0 hr xc_takes (by rfl) (by decide +kernel) (px_name 0 rfl (.inl rfl) (by decide +kernel) (by decide +kernel) px_nil) (len_name 0 len_nil) rfl rfl) fun _ => rfl)) (pw1_or (pq_not (pq_chain2 od_le od_le (pd_con pe_int fun _ => .int _) (pd_var 0 rfl (.inl rfl) (by decide +kernel) (by decide +kernel)) (pd_con (pe_glob (by rfl) g.MOST_PEOPLE.choose_spec (show RelV (.int 4) _ from ⟨_, rfl⟩) (by decide +kernel)) fun _ => .int _) rfl (bool_cmpI _)))))) (sx_one sx_nope) sx_nil))
theorem w2 (g : GF K w mg) (C : CF P w K mg base k cf) (hr : Room k (A.deeper (envOfC "groups_of" (defScope st2) s.heap.objs.size f cdv))) : PSs (XC P w K mg base N2 "groups_of" (defScope st2) f cdv A outer s H E) (defBody st2) (TSx ⟨K, Gx, Xx, ρ, P0, H, E⟩ (b2 cf)) := by
  have hK : K = K := rfl
  have hu : (A.deeper (envOfC "groups_of" (defScope st2) s.heap.objs.size f cdv)).units + 65 < cLine := xc_units hr
  have nd := sc2.nd
  exact (sx_cons (sx_set nd rfl (.inl rfl) (pd_lst (pl_cons (pd_tup pl_nil) pl_nil rfl)) rfl (.inr rfl))
    (sx_cons (sx_for xc_own rfl (ti_rg1 (by rfl) g.range (pl_cons (pd_var 0 rfl (.inl rfl) (by decide +kernel) (by decide +kernel)) pl_nil rfl) rfl) (tg_name (pg_name nd rfl (.inr rfl) (.inl rfl))) (sx_one (sx_set nd rfl (.inl rfl) (pd_bin (od_add hK) (pd_var 1 rfl (.inl rfl) (by decide +kernel) (by decide +kernel)) (pd_lcV rfl nd (ti_e (ti_val hK (pd_var 1 rfl (.inl rfl) (by decide +kernel) (by decide +kernel)))) (blk_of (N := N2) (own := [("group", 3)]) (by kernel_rfl)) rfl (by decide) (fun _ _ _ _ _ => (tg_name (pg_name nd rfl (.inl rfl) (.inr rfl)))) (fun _ _ _ _ _ => pts_none) (fun _ _ _ _ _ => (pd_tup (pl_star hK (pd_var 3 rfl (.inl rfl) (by decide +kernel) (by decide +kernel)) (pl_cons (pd_var 2 rfl (.inr (.inl rfl)) (by decide +kernel) (by decide +kernel)) pl_nil rfl)))) (fun _ => rfl))) rfl (.inr rfl))) fun _ => rfl)
    (sx_one (sx_ret (pd_lcV rfl nd (ti_e (ti_val hK (pd_b1 (cd_sorted hK hu) (by rfl) g.sorted PyProof.Rows.boot_sorted (pd_lcV rfl nd (ti_e (ti_val hK (pd_var 1 rfl (.inl rfl) (by decide +kernel) (by decide +kernel)))) (blk_of (N := N2) (own := [("group", 3)]) (by kernel_rfl)) rfl (by decide) (fun _ _ _ _ _ => (tg_name (pg_name nd rfl (.inl rfl) (.inr rfl)))) (fun _ _ _ _ _ => pts_none) (fun _ _ _ _ _ => (pd_tup (pl_cons (pd_b1V 3 (cd_len hK) (by rfl) g.len boot_len (by decide) (by decide +kernel) rfl (.inl rfl) (by decide +kernel) (by decide +kernel)) (pl_cons (pd_var 3 rfl (.inl rfl) (by decide +kernel) (by decide +kernel)) pl_nil rfl) rfl))) (fun _ => rfl)) (by decide) (by decide +kernel) rfl))) (blk_of (N := N2) (own := [("size", 4), ("group", 3)]) (by kernel_rfl)) rfl (by decide) (fun _ _ _ _ _ => (tg_tup (is := [4, 3]) hK rfl (pgs_cons (pg_name (i := 4) nd rfl (.inl rfl) (.inr rfl)) (pgs_cons (pg_name (i := 3) nd rfl (.inl rfl) (.inr rfl)) pgs_nil rfl) rfl) rfl rfl)) (fun _ _ _ _ _ => (pts_one (pq_cmp2 od_gt (pd_var 4 rfl (.inl rfl) (by decide +kernel) (by decide +kernel)) (pd_con pe_int fun _ => .int _) rfl))) (fun _ _ _ _ _ => (pd_var 3 rfl (.inl rfl) (by decide +kernel) (by decide +kernel))) (fun _ => rfl))))))
theorem w3 (g : GF K w mg) (C : CF P w K mg base k cf) (hr : Room k (A.deeper (envOfC "need_game" (defScope st3) s.heap.objs.size f cdv))) : PSs (XC P w K mg base N3 "need_game" (defScope st3) f cdv A outer s H E) (defBody st3) (TSx ⟨K, Gx, Xx, ρ, P0, H, E⟩ (b3 cf)) := by
  have hK : K = K := rfl
  have hu : (A.deeper (envOfC "need_game" (defScope st3) s.heap.objs.size f cdv)).units + 65 < cLine := xc_units hr
  have nd := sc3.nd
  exact (sx_cons (sx_if (PW.pt (pww_or (pq_not (pq_val (pd_isi1 hK (by rfl) g.isinstance (pd_var 0 rfl (.inl rfl) (by decide +kernel) (by decide +kernel)) rfl (pe_bltn (by rfl) g.tuple PyProof.Rows.boot_tuple (show RelV (.ty "tuple") (.type "tuple") from rfl) (by decide) (by decide +kernel))) fun _ => rfl)) (pw1_or (pq_knin g.SIZES.choose_spec.2 hK (by rfl) g.SIZES.choose_spec.1 (by decide +kernel) (pd_b1V 0 (cd_len hK) (by rfl) g.len boot_len (by decide) (by decide +kernel) rfl (.inl rfl) (by decide +kernel) (by decide +kernel)))))) (sx_one sx_nope) sx_nil)
    (sx_one (sx_for xc_own rfl (ti_rg1 (by rfl) g.range (pl_cons (pd_b1V 0 (cd_len hK) (by rfl) g.len boot_len (by decide) (by decide +kernel) rfl (.inl rfl) (by decide +kernel) (by decide +kernel)) pl_nil rfl) rfl) (tg_name (pg_name nd rfl (.inl rfl) (.inr rfl))) (sx_one (sx_if (PW.pt (pww_or (pq_not (pq_val (pd_call 0 hK C.c0 hr xc_takes (by rfl) (by decide +kernel) (px_val (pd_subV 0 hK hu rfl (.inl rfl) (by decide +kernel) (by decide +kernel) (pd_var 1 rfl (.inl rfl) (by decide +kernel) (by decide +kernel)) fun _ _ => rfl) px_nil rfl) (len_val len_nil) rfl rfl) fun _ => rfl)) (pw1_or (pq_cmp2 od_gt (pd_b1 cd_abs (by rfl) g.abs boot_abs (pd_subV 0 hK hu rfl (.inl rfl) (by decide +kernel) (by decide +kernel) (pd_var 1 rfl (.inl rfl) (by decide +kernel) (by decide +kernel)) fun _ _ => rfl) (by decide) (by decide +kernel) rfl) (pd_con (pe_glob (by rfl) g.MOST_WORTH.choose_spec (show RelV (.int 1000) _ from ⟨_, rfl⟩) (by decide +kernel)) fun _ => .int _) rfl)))) (sx_one sx_nope) sx_nil)) fun _ => rfl)))
theorem w4 (g : GF K w mg) (C : CF P w K mg base k cf) (hr : Room k (A.deeper (envOfC "people_in" (defScope st4) s.heap.objs.size f cdv))) : PSs (XC P w K mg base N4 "people_in" (defScope st4) f cdv A outer s H E) (defBody st4) (TSx ⟨K, Gx, Xx, ρ, P0, H, E⟩ (b4 cf)) := by
  have hK : K = K := rfl
  have hu : (A.deeper (envOfC "people_in" (defScope st4) s.heap.objs.size f cdv)).units + 65 < cLine := xc_units hr
  have nd := sc4.nd
  exact (sx_one (sx_ret (pd_kget g.SIZES.choose_spec.2 hK (by rfl) g.SIZES.choose_spec.1 (by decide +kernel) (pd_b1V 0 (cd_len hK) (by rfl) g.len boot_len (by decide) (by decide +kernel) rfl (.inl rfl) (by decide +kernel) (by decide +kernel)) fun _ _ => rfl)))
theorem w5 (g : GF K w mg) (C : CF P w K mg base k cf) (hr : Room k (A.deeper (envOfC "others" (defScope st5) s.heap.objs.size f cdv))) : PSs (XC P w K mg base N5 "others" (defScope st5) f cdv A outer s H E) (defBody st5) (TSx ⟨K, Gx, Xx, ρ, P0, H, E⟩ (b5 cf)) := by
  have hK : K = K := rfl
  have hu : (A.deeper (envOfC "others" (defScope st5) s.heap.objs.size f cdv)).units + 65 < cLine := xc_units hr
  have nd := sc5.nd
  exact (sx_one (sx_ret (pd_t1 (cd_tuple hK) (by rfl) g.tuple PyProof.Rows.boot_tuple (pd_lcV rfl nd (ti_e (ti_rg1 (by rfl) g.range (pl_cons (pd_var 0 rfl (.inl rfl) (by decide +kernel) (by decide +kernel)) pl_nil rfl) rfl)) (blk_of (N := N5) (own := [("person", 2)]) (by kernel_rfl)) rfl (by decide) (fun _ _ _ _ _ => (tg_name (pg_name nd rfl (.inl rfl) (.inr rfl)))) (fun _ _ _ _ _ => (pts_one (pq_inV 1 (od_nin hK hu) (pd_var 2 rfl (.inl rfl) (by decide +kernel) (by decide +kernel)) rfl (.inr (.inl rfl)) (by decide +kernel) (by decide +kernel)))) (fun _ _ _ _ _ => (pd_var 2 rfl (.inl rfl) (by decide +kernel) (by decide +kernel))) (fun _ => rfl)) (by decide) (by decide +kernel) rfl)))
theorem w6 (g : GF K w mg) (C : CF P w K mg base k cf) (hr : Room k (A.deeper (envOfC "common" (defScope st6) s.heap.objs.size f cdv))) : PSs (XC P w K mg base N6 "common" (defScope st6) f cdv A outer s H E) (defBody st6) (TSx ⟨K, Gx, Xx, ρ, P0, H, E⟩ (b6 cf)) := by
  have hK : K = K := rfl
  have hu : (A.deeper (envOfC "common" (defScope st6) s.heap.objs.size f cdv)).units + 65 < cLine := xc_units hr
  have nd := sc6.nd
  exact (sx_cons (sx_while fuel xc_own (pq_cmp2 (od_ne hK hu) (pd_var 1 rfl (.inl rfl) (by decide +kernel) (by decide +kernel)) (pd_con pe_int fun _ => .int _) rfl) (sx_one (sx_par2 (i := 0) (j := 1) (f := false) (g := false) rfl nd rfl rfl (by decide) rfl rfl (pd_var 1 rfl (.inl rfl) (by decide +kernel) (by decide +kernel)) (pd_bin od_mod (pd_var 0 rfl (.inl rfl) (by decide +kernel) (by decide +kernel)) (pd_var 1 rfl (.inl rfl) (by decide +kernel) (by decide +kernel))) rfl rfl rfl rfl)))
    (sx_one (sx_ret (pd_b1V 0 cd_abs (by rfl) g.abs boot_abs (by decide) (by decide +kernel) rfl (.inl rfl) (by decide +kernel) (by decide +kernel)))))
theorem w7 (g : GF K w mg) (C : CF P w K mg base k cf) (hr : Room k (A.deeper (envOfC "ratio" (defScope st7) s.heap.objs.size f cdv))) : PSs (XC P w K mg base N7 "ratio" (defScope st7) f cdv A outer s H E) (defBody st7) (TSx ⟨K, Gx, Xx, ρ, P0, H, E⟩ (b7 cf)) := by
  have hK : K = K := rfl
  have hu : (A.deeper (envOfC "ratio" (defScope st7) s.heap.objs.size f cdv)).units + 65 < cLine := xc_units hr
  have nd := sc7.nd
  exact (sx_cons (sx_if (pq_cmp2 od_lt (pd_var 1 rfl (.inl rfl) (by decide +kernel) (by decide +kernel)) (pd_con pe_int fun _ => .int _) rfl) (sx_one (sx_par2 (i := 0) (j := 1) (f := false) (g := false) rfl nd rfl rfl (by decide) rfl rfl (pd_un ud_neg (pd_var 0 rfl (.inl rfl) (by decide +kernel) (by decide +kernel))) (pd_un ud_neg (pd_var 1 rfl (.inl rfl) (by decide +kernel) (by decide +kernel))) rfl rfl rfl rfl)) sx_nil)
    (sx_cons (sx_set nd rfl (.inl rfl) (pd_call 6 hK C.c6 hr xc_takes (by rfl) (by decide +kernel) (px_name 0 rfl (.inl rfl) (by decide +kernel) (by decide +kernel) (px_name 1 rfl (.inl rfl) (by decide +kernel) (by decide +kernel) px_nil)) (len_name 0 (len_name 1 len_nil)) rfl rfl) rfl (.inr rfl))
    (sx_one (sx_ret (pd_tup (pl_cons (pd_bin od_fdiv (pd_var 0 rfl (.inl rfl) (by decide +kernel) (by decide +kernel)) (pd_var 2 rfl (.inl rfl) (by decide +kernel) (by decide +kernel))) (pl_cons (pd_bin od_fdiv (pd_var 1 rfl (.inl rfl) (by decide +kernel) (by decide +kernel)) (pd_var 2 rfl (.inl rfl) (by decide +kernel) (by decide +kernel))) pl_nil rfl) rfl))))))
theorem w8 (g : GF K w mg) (C : CF P w K mg base k cf) (hr : Room k (A.deeper (envOfC "plus" (defScope st8) s.heap.objs.size f cdv))) : PSs (XC P w K mg base N8 "plus" (defScope st8) f cdv A outer s H E) (defBody st8) (TSx ⟨K, Gx, Xx, ρ, P0, H, E⟩ (b8 cf)) := by
  have hK : K = K := rfl
  have hu : (A.deeper (envOfC "plus" (defScope st8) s.heap.objs.size f cdv)).units + 65 < cLine := xc_units hr
  have nd := sc8.nd
  exact (sx_one (sx_ret (pd_call 7 hK C.c7 hr xc_takes (by rfl) (by decide +kernel) (px_val (pd_bin (od_add hK) (pd_bin od_mul (pd_subV 0 hK hu rfl (.inl rfl) (by decide +kernel) (by decide +kernel) (pd_con pe_int fun _ => .int _) fun _ _ => rfl) (pd_subV 1 hK hu rfl (.inl rfl) (by decide +kernel) (by decide +kernel) (pd_con pe_int fun _ => .int _) fun _ _ => rfl)) (pd_bin od_mul (pd_subV 1 hK hu rfl (.inl rfl) (by decide +kernel) (by decide +kernel) (pd_con pe_int fun _ => .int _) fun _ _ => rfl) (pd_subV 0 hK hu rfl (.inl rfl) (by decide +kernel) (by decide +kernel) (pd_con pe_int fun _ => .int _) fun _ _ => rfl))) (px_val (pd_bin od_mul (pd_subV 0 hK hu rfl (.inl rfl) (by decide +kernel) (by decide +kernel) (pd_con pe_int fun _ => .int _) fun _ _ => rfl) (pd_subV 1 hK hu rfl (.inl rfl) (by decide +kernel) (by decide +kernel) (pd_con pe_int fun _ => .int _) fun _ _ => rfl)) px_nil rfl) rfl) (len_val (len_val len_nil)) rfl rfl)))
theorem w9 (g : GF K w mg) (C : CF P w K mg base k cf) (hr : Room k (A.deeper (envOfC "times" (defScope st9) s.heap.objs.size f cdv))) : PSs (XC P w K mg base N9 "times" (defScope st9) f cdv A outer s H E) (defBody st9) (TSx ⟨K, Gx, Xx, ρ, P0, H, E⟩ (b9 cf)) := by
  have hK : K = K := rfl
  have hu : (A.deeper (envOfC "times" (defScope st9) s.heap.objs.size f cdv)).units + 65 < cLine := xc_units hr
  have nd := sc9.nd
  exact (sx_one (sx_ret (pd_call 7 hK C.c7 hr xc_takes (by rfl) (by decide +kernel) (px_val (pd_bin od_mul (pd_subV 0 hK hu rfl (.inl rfl) (by decide +kernel) (by decide +kernel) (pd_con pe_int fun _ => .int _) fun _ _ => rfl) (pd_var 1 rfl (.inl rfl) (by decide +kernel) (by decide +kernel))) (px_val (pd_subV 0 hK hu rfl (.inl rfl) (by decide +kernel) (by decide +kernel) (pd_con pe_int fun _ => .int _) fun _ _ => rfl) px_nil rfl) rfl) (len_val (len_val len_nil)) rfl rfl)))
theorem w10 (g : GF K w mg) (C : CF P w K mg base k cf) (hr : Room k (A.deeper (envOfC "total" (defScope st10) s.heap.objs.size f cdv))) : PSs (XC P w K mg base N10 "total" (defScope st10) f cdv A outer s H E) (defBody st10) (TSx ⟨K, Gx, Xx, ρ, P0, H, E⟩ (b10 cf)) := by
  have hK : K = K := rfl
  have hu : (A.deeper (envOfC "total" (defScope st10) s.heap.objs.size f cdv)).units + 65 < cLine := xc_units hr
  have nd := sc10.nd
  exact (sx_cons (sx_set nd rfl (.inl rfl) (pd_tup (pl_cons (pd_con pe_int fun _ => .int _) (pl_cons (pd_con pe_int fun _ => .int _) pl_nil rfl) rfl)) rfl (.inr rfl))
    (sx_cons (sx_for xc_own rfl (ti_val hK (pd_var 0 rfl (.inl rfl) (by decide +kernel) (by decide +kernel))) (tg_name (pg_name nd rfl (.inl rfl) (.inr rfl))) (sx_one (sx_set nd rfl (.inl rfl) (pd_call 8 hK C.c8 hr xc_takes (by rfl) (by decide +kernel) (px_name 1 rfl (.inl rfl) (by decide +kernel) (by decide +kernel) (px_name 2 rfl (.inl rfl) (by decide +kernel) (by decide +kernel) px_nil)) (len_name 1 (len_name 2 len_nil)) rfl rfl) rfl (.inr rfl))) fun _ => rfl)
    (sx_one (sx_ret (pd_var 1 rfl (.inl rfl) (by decide +kernel) (by decide +kernel))))))
theorem w11 (g : GF K w mg) (C : CF P w K mg base k cf) (hr : Room k (A.deeper (envOfC "is_ratio" (defScope st11) s.heap.objs.size f cdv))) : PSs (XC P w K mg base N11 "is_ratio" (defScope st11) f cdv A outer s H E) (defBody st11) (TSx ⟨K, Gx, Xx, ρ, P0, H, E⟩ (b11 cf)) := by
  have hK : K = K := rfl
  have hu : (A.deeper (envOfC "is_ratio" (defScope st11) s.heap.objs.size f cdv)).units + 65 < cLine := xc_units hr
  have nd := sc11.nd
  exact (sx_cons (sx_if (PW.pt (pww_or (pq_not (pq_val (pd_isi1 hK (by rfl) g.isinstance (pd_var 0 rfl (.inl rfl) (by decide +kernel) (by decide +kernel)) rfl (pe_bltn (by rfl) g.tuple PyProof.Rows.boot_tuple (show RelV (.ty "tuple") (.type "tuple") from rfl) (by decide) (by decide +kernel))) fun _ => rfl)) (pw1_or (pq_cmp2 (od_ne hK hu) (pd_b1V 0 (cd_len hK) (by rfl) g.len boot_len (by decide) (by decide +kernel) rfl (.inl rfl) (by decide +kernel) (by decide +kernel)) (pd_con pe_int fun _ => .int _) rfl)))) (sx_one (sx_ret (pd_con pe_bl fun _ => .bl _))) sx_nil)
    (sx_cons (sx_if (pq_not (pq_val (pd_b1 (cd_all hK rfl) (by rfl) g.all boot_all (pd_lcV rfl nd (ti_e (ti_val hK (pd_var 0 rfl (.inl rfl) (by decide +kernel) (by decide +kernel)))) (blk_of (N := N11) (own := [("one", 1)]) (by kernel_rfl)) rfl (by decide) (fun _ _ _ _ _ => (tg_name (pg_name nd rfl (.inl rfl) (.inr rfl)))) (fun _ _ _ _ _ => pts_none) (fun _ _ _ _ _ => (pd_and (pd_isi1 hK (by rfl) g.isinstance (pd_var 1 rfl (.inl rfl) (by decide +kernel) (by decide +kernel)) rfl (pe_bltn (by rfl) g.int PyProof.Rows.boot_int (show RelV (.ty "int") (.type "int") from rfl) (by decide) (by decide +kernel))) (pd_one (pd_not (pd_isi1 hK (by rfl) g.isinstance (pd_var 1 rfl (.inl rfl) (by decide +kernel) (by decide +kernel)) rfl (pe_bltn (by rfl) g.bool boot_bool2 (show RelV (.ty "bool") (.type "bool") from rfl) (by decide) (by decide +kernel))))))) (fun _ => rfl)) (by decide) (by decide +kernel) rfl) fun _ => rfl)) (sx_one (sx_ret (pd_con pe_bl fun _ => .bl _))) sx_nil)
    (sx_one (sx_ret (pd_and (pd_cmp od_gt (pd_subV 0 hK hu rfl (.inl rfl) (by decide +kernel) (by decide +kernel) (pd_con pe_int fun _ => .int _) fun _ _ => rfl) (pd_con pe_int fun _ => .int _) rfl) (pd_one (pd_cmp (od_eq hK hu) (pd_call 6 hK C.c6 hr xc_takes (by rfl) (by decide +kernel) (px_val (pd_subV 0 hK hu rfl (.inl rfl) (by decide +kernel) (by decide +kernel) (pd_con pe_int fun _ => .int _) fun _ _ => rfl) (px_val (pd_subV 0 hK hu rfl (.inl rfl) (by decide +kernel) (by decide +kernel) (pd_con pe_int fun _ => .int _) fun _ _ => rfl) px_nil rfl) rfl) (len_val (len_val len_nil)) rfl rfl) (pd_con pe_int fun _ => .int _) rfl)))))))
theorem w12 (g : GF K w mg) (C : CF P w K mg base k cf) (hr : Room k (A.deeper (envOfC "need_rule" (defScope st12) s.heap.objs.size f cdv))) : PSs (XC P w K mg base N12 "need_rule" (defScope st12) f cdv A outer s H E) (defBody st12) (TSx ⟨K, Gx, Xx, ρ, P0, H, E⟩ (b12 cf)) := by
  have hK : K = K := rfl
  have hu : (A.deeper (envOfC "need_rule" (defScope st12) s.heap.objs.size f cdv)).units + 65 < cLine := xc_units hr
  have nd := sc12.nd
  exact (sx_cons (sx_setDc rfl nd rfl rfl rfl (ti_e (ti_itemsK g.SIZES.choose_spec.2 hK (by rfl) g.SIZES.choose_spec.1 (by decide +kernel) rfl rfl)) (blk_of (N := N12) (own := [("size", 4), ("many", 5)]) (by kernel_rfl)) rfl (by decide) (fun _ _ _ _ _ => (tg_tup (is := [4, 5]) hK rfl (pgs_cons (pg_name (i := 4) nd rfl (.inl rfl) (.inr rfl)) (pgs_cons (pg_name (i := 5) nd rfl (.inl rfl) (.inr rfl)) pgs_nil rfl) rfl) rfl rfl)) (fun _ _ _ _ _ => pts_none) (fun _ _ _ _ _ => (pd_var 5 rfl (.inl rfl) (by decide +kernel) (by decide +kernel))) (fun _ _ _ _ _ => (pd_var 4 rfl (.inl rfl) (by decide +kernel) (by decide +kernel))) (fun _ => rfl))
    (sx_cons (sx_if (PW.pt (pww_or (pq_not (pq_val (pd_isi1 hK (by rfl) g.isinstance (pd_var 0 rfl (.inl rfl) (by decide +kernel) (by decide +kernel)) rfl (pe_bltn (by rfl) g.tuple PyProof.Rows.boot_tuple (show RelV (.ty "tuple") (.type "tuple") from rfl) (by decide) (by decide +kernel))) fun _ => rfl)) (pw1_or (pq_inV 1 (od_nin hK hu) (pd_b1V 0 (cd_len hK) (by rfl) g.len boot_len (by decide) (by decide +kernel) rfl (.inl rfl) (by decide +kernel) (by decide +kernel)) rfl (.inl rfl) (by decide +kernel) (by decide +kernel))))) (sx_one sx_nope) sx_nil)
    (sx_cons (sx_for xc_own rfl (ti_rg1 (by rfl) g.range (pl_cons (pd_b1V 0 (cd_len hK) (by rfl) g.len boot_len (by decide) (by decide +kernel) rfl (.inl rfl) (by decide +kernel) (by decide +kernel)) pl_nil rfl) rfl) (tg_name (pg_name nd rfl (.inl rfl) (.inr rfl))) (sx_one (sx_if (PW.pt (pww_or (pq_not (pq_val (pd_isi1 hK (by rfl) g.isinstance (pd_subV 0 hK hu rfl (.inl rfl) (by decide +kernel) (by decide +kernel) (pd_var 2 rfl (.inl rfl) (by decide +kernel) (by decide +kernel)) fun _ _ => rfl) rfl (pe_bltn (by rfl) g.tuple PyProof.Rows.boot_tuple (show RelV (.ty "tuple") (.type "tuple") from rfl) (by decide) (by decide +kernel))) fun _ => rfl)) (pw1_or (pq_cmp2 (od_ne hK hu) (pd_b1 (cd_len hK) (by rfl) g.len boot_len (pd_subV 0 hK hu rfl (.inl rfl) (by decide +kernel) (by decide +kernel) (pd_var 2 rfl (.inl rfl) (by decide +kernel) (by decide +kernel)) fun _ _ => rfl) (by decide) (by decide +kernel) rfl) (pd_subV 1 hK hu rfl (.inl rfl) (by decide +kernel) (by decide +kernel) (pd_b1V 0 (cd_len hK) (by rfl) g.len boot_len (by decide) (by decide +kernel) rfl (.inl rfl) (by decide +kernel) (by decide +kernel)) fun _ _ => rfl) rfl)))) (sx_one sx_nope) sx_nil)) fun _ => rfl)
    (sx_one (sx_for xc_own rfl (ti_rg1 (by rfl) g.range (pl_cons (pd_b1V 0 (cd_len hK) (by rfl) g.len boot_len (by decide) (by decide +kernel) rfl (.inl rfl) (by decide +kernel) (by decide +kernel)) pl_nil rfl) rfl) (tg_name (pg_name nd rfl (.inl rfl) (.inr rfl))) (sx_one (sx_for xc_own rfl (ti_rg1 (by rfl) g.range (pl_cons (pd_b1 (cd_len hK) (by rfl) g.len boot_len (pd_subV 0 hK hu rfl (.inl rfl) (by decide +kernel) (by decide +kernel) (pd_var 2 rfl (.inl rfl) (by decide +kernel) (by decide +kernel)) fun _ _ => rfl) (by decide) (by decide +kernel) rfl) pl_nil rfl) rfl) (tg_name (pg_name nd rfl (.inl rfl) (.inr rfl))) (sx_one (sx_if (pq_not (pq_val (pd_call 13 hK C.c13 hr xc_takes (by rfl) (by decide +kernel) (px_val (pd_sub hK hu (pd_subV 0 hK hu rfl (.inl rfl) (by decide +kernel) (by decide +kernel) (pd_var 2 rfl (.inl rfl) (by decide +kernel) (by decide +kernel)) fun _ _ => rfl) (pd_var 3 rfl (.inl rfl) (by decide +kernel) (by decide +kernel)) fun _ _ => rfl) px_nil rfl) (len_val len_nil) rfl rfl) fun _ => rfl)) (sx_one sx_nope) sx_nil)) fun _ => rfl)) fun _ => rfl)))))
theorem w13 (g : GF K w mg) (C : CF P w K mg base k cf) (hr : Room k (A.deeper (envOfC "is_part" (defScope st13) s.heap.objs.size f cdv))) : PSs (XC P w K mg base N13 "is_part" (defScope st13) f cdv A outer s H E) (defBody st13) (TSx ⟨K, Gx, Xx, ρ, P0, H, E⟩ (b13 cf)) := by
  have hK : K = K := rfl
  have hu : (A.deeper (envOfC "is_part" (defScope st13) s.heap.objs.size f cdv)).units + 65 < cLine := xc_units hr
  have nd := sc13.nd
  exact (sx_one (sx_ret (pd_and (pd_call 11 hK C.c11 hr xc_takes (by rfl) (by decide +kernel) (px_name 0 rfl (.inl rfl) (by decide +kernel) (by decide +kernel) px_nil) (len_name 0 len_nil) rfl rfl) (pd_one (pd_cmp od_le (pd_max2 rfl (by rfl) g.max (pl_cons (pd_b1 cd_abs (by rfl) g.abs boot_abs (pd_subV 0 hK hu rfl (.inl rfl) (by decide +kernel) (by decide +kernel) (pd_con pe_int fun _ => .int _) fun _ _ => rfl) (by decide) (by decide +kernel) rfl) (pl_cons (pd_subV 0 hK hu rfl (.inl rfl) (by decide +kernel) (by decide +kernel) (pd_con pe_int fun _ => .int _) fun _ _ => rfl) pl_nil rfl) rfl) rfl rfl) (pd_con (pe_glob (by rfl) g.MOST_RATIO.choose_spec (show RelV (.int 1000000000000) _ from ⟨_, rfl⟩) (by decide +kernel)) fun _ => .int _) rfl)))))
theorem w14 (g : GF K w mg) (C : CF P w K mg base k cf) (hr : Room k (A.deeper (envOfC "shares_of" (defScope st14) s.heap.objs.size f cdv))) : PSs (XC P w K mg base N14 "shares_of" (defScope st14) f cdv A outer s H E) (defBody st14) (TSx ⟨K, Gx, Xx, ρ, P0, H, E⟩ (b14 cf)) := by
  have hK : K = K := rfl
  have hu : (A.deeper (envOfC "shares_of" (defScope st14) s.heap.objs.size f cdv)).units + 65 < cLine := xc_units hr
  have nd := sc14.nd
  exact (sx_one (sx_ret (pd_t1 (cd_tuple hK) (by rfl) g.tuple PyProof.Rows.boot_tuple (pd_lcV rfl nd (ti_e (ti_val hK (pd_var 0 rfl (.inl rfl) (by decide +kernel) (by decide +kernel)))) (blk_of (N := N14) (own := [("row", 2)]) (by kernel_rfl)) rfl (by decide) (fun _ _ _ _ _ => (tg_name (pg_name nd rfl (.inl rfl) (.inr rfl)))) (fun _ _ _ _ _ => pts_none) (fun _ _ _ _ _ => (pd_call 10 hK C.c10 hr passL (by rfl) (by decide +kernel) (px_val (pd_lcV rfl nd (ti_e (ti_zip hK (by rfl) g.zip (pl_cons (pd_var 2 rfl (.inl rfl) (by decide +kernel) (by decide +kernel)) (pl_cons (pd_var 1 rfl (.inr (.inl rfl)) (by decide +kernel) (by decide +kernel)) pl_nil rfl) rfl) rfl rfl)) (blk_of (N := N14) (own := [("part", 3), ("own", 4)]) (by kernel_rfl)) rfl (by decide) (fun _ _ _ _ _ => (tg_tup (is := [3, 4]) hK rfl (pgs_cons (pg_name (i := 3) nd rfl (.inl rfl) (.inr rfl)) (pgs_cons (pg_name (i := 4) nd rfl (.inl rfl) (.inr rfl)) pgs_nil rfl) rfl) rfl rfl)) (fun _ _ _ _ _ => pts_none) (fun _ _ _ _ _ => (pd_call 9 hK C.c9 hr passL (by rfl) (by decide +kernel) (px_name 3 rfl (.inl rfl) (by decide +kernel) (by decide +kernel) (px_name 4 rfl (.inl rfl) (by decide +kernel) (by decide +kernel) px_nil)) (len_name 3 (len_name 4 len_nil)) rfl rfl)) (fun _ => rfl)) px_nil rfl) (len_val len_nil) rfl rfl)) (fun _ => rfl)) (by decide) (by decide +kernel) rfl)))
theorem w15 (g : GF K w mg) (C : CF P w K mg base k cf) (hr : Room k (A.deeper (envOfC "need_fit" (defScope st15) s.heap.objs.size f cdv))) : PSs (XC P w K mg base N15 "need_fit" (defScope st15) f cdv A outer s H E) (defBody st15) (TSx ⟨K, Gx, Xx, ρ, P0, H, E⟩ (b15 cf)) := by
  have hK : K = K := rfl
  have hu : (A.deeper (envOfC "need_fit" (defScope st15) s.heap.objs.size f cdv)).units + 65 < cLine := xc_units hr
  have nd := sc15.nd
  exact (sx_cons (sx_ex (pd_call 12 hK C.c12 hr xc_takes (by rfl) (by decide +kernel) (px_name 0 rfl (.inl rfl) (by decide +kernel) (by decide +kernel) px_nil) (len_name 0 len_nil) rfl rfl) rfl)
    (sx_cons (sx_ex (pd_call 3 hK C.c3 hr xc_takes (by rfl) (by decide +kernel) (px_name 1 rfl (.inl rfl) (by decide +kernel) (by decide +kernel) px_nil) (len_name 1 len_nil) rfl rfl) rfl)
    (sx_one (sx_if (pq_cmp2 (od_ne hK hu) (pd_b1V 0 (cd_len hK) (by rfl) g.len boot_len (by decide) (by decide +kernel) rfl (.inl rfl) (by decide +kernel) (by decide +kernel)) (pd_call 4 hK C.c4 hr xc_takes (by rfl) (by decide +kernel) (px_name 1 rfl (.inl rfl) (by decide +kernel) (by decide +kernel) px_nil) (len_name 1 len_nil) rfl rfl) rfl) (sx_one sx_nope) sx_nil))))
theorem w16 (g : GF K w mg) (C : CF P w K mg base k cf) (hr : Room k (A.deeper (envOfC "shares" (defScope st16) s.heap.objs.size f cdv))) : PSs (XC P w K mg base N16 "shares" (defScope st16) f cdv A outer s H E) (defBody st16) (TSx ⟨K, Gx, Xx, ρ, P0, H, E⟩ (b16 cf)) := by
  have hK : K = K := rfl
  have hu : (A.deeper (envOfC "shares" (defScope st16) s.heap.objs.size f cdv)).units + 65 < cLine := xc_units hr
  have nd := sc16.nd
  exact (sx_cons (sx_ex (pd_call 15 hK C.c15 hr xc_takes (by rfl) (by decide +kernel) (px_name 0 rfl (.inl rfl) (by decide +kernel) (by decide +kernel) (px_name 1 rfl (.inl rfl) (by decide +kernel) (by decide +kernel) px_nil)) (len_name 0 (len_name 1 len_nil)) rfl rfl) rfl)
    (sx_one (sx_ret (pd_call 14 hK C.c14 hr xc_takes (by rfl) (by decide +kernel) (px_name 0 rfl (.inl rfl) (by decide +kernel) (by decide +kernel) (px_name 1 rfl (.inl rfl) (by decide +kernel) (by decide +kernel) px_nil)) (len_name 0 (len_name 1 len_nil)) rfl rfl))))
theorem w17 (g : GF K w mg) (C : CF P w K mg base k cf) (hr : Room k (A.deeper (envOfC "factorial" (defScope st17) s.heap.objs.size f cdv))) : PSs (XC P w K mg base N17 "factorial" (defScope st17) f cdv A outer s H E) (defBody st17) (TSx ⟨K, Gx, Xx, ρ, P0, H, E⟩ (b17 cf)) := by
  have hK : K = K := rfl
  have hu : (A.deeper (envOfC "factorial" (defScope st17) s.heap.objs.size f cdv)).units + 65 < cLine := xc_units hr
  have nd := sc17.nd
  exact (sx_cons (sx_set nd rfl (.inl rfl) (pd_con pe_int fun _ => .int _) rfl (.inr rfl))
    (sx_cons (sx_for xc_own rfl (ti_rg2 (by rfl) g.range (pl_cons (pd_con pe_int fun _ => .int _) (pl_cons (pd_bin (od_add hK) (pd_var 0 rfl (.inl rfl) (by decide +kernel) (by decide +kernel)) (pd_con pe_int fun _ => .int _)) pl_nil rfl) rfl) rfl rfl) (tg_name (pg_name nd rfl (.inl rfl) (.inr rfl))) (sx_one (sx_set nd rfl (.inl rfl) (pd_bin od_mul (pd_var 1 rfl (.inl rfl) (by decide +kernel) (by decide +kernel)) (pd_var 2 rfl (.inl rfl) (by decide +kernel) (by decide +kernel))) rfl (.inr rfl))) fun _ => rfl)
    (sx_one (sx_ret (pd_var 1 rfl (.inl rfl) (by decide +kernel) (by decide +kernel))))))
theorem w18 (g : GF K w mg) (C : CF P w K mg base k cf) (hr : Room k (A.deeper (envOfC "weight" (defScope st18) s.heap.objs.size f cdv))) : PSs (XC P w K mg base N18 "weight" (defScope st18) f cdv A outer s H E) (defBody st18) (TSx ⟨K, Gx, Xx, ρ, P0, H, E⟩ (b18 cf)) := by
  have hK : K = K := rfl
  have hu : (A.deeper (envOfC "weight" (defScope st18) s.heap.objs.size f cdv)).units + 65 < cLine := xc_units hr
  have nd := sc18.nd
  exact (sx_cons (sx_if (pq_cmp2 (od_eq hK hu) (pd_var 0 rfl (.inl rfl) (by decide +kernel) (by decide +kernel)) (pd_con pe_str fun _ => .str _) rfl) (sx_one (sx_ret (pd_call 7 hK C.c7 hr xc_takes (by rfl) (by decide +kernel) (px_val (pd_ite (pq_val (pd_var 3 rfl (.inl rfl) (by decide +kernel) (by decide +kernel)) fun _ => rfl) (pd_con pe_int fun _ => .int _) (pd_un ud_neg (pd_con pe_int fun _ => .int _))) (px_val (pd_bin od_shl (pd_con pe_int fun _ => .int _) (pd_bin od_sub (pd_var 1 rfl (.inl rfl) (by decide +kernel) (by decide +kernel)) (pd_con pe_int fun _ => .int _))) px_nil rfl) rfl) (len_val (len_val len_nil)) rfl rfl))) sx_nil)
    (sx_cons (sx_unp (is := [4, 5]) hK rfl (pd_ite (pq_val (pd_var 3 rfl (.inl rfl) (by decide +kernel) (by decide +kernel)) fun _ => rfl) (pd_tup (pl_cons (pd_bin od_sub (pd_var 2 rfl (.inl rfl) (by decide +kernel) (by decide +kernel)) (pd_con pe_int fun _ => .int _)) (pl_cons (pd_bin od_sub (pd_var 1 rfl (.inl rfl) (by decide +kernel) (by decide +kernel)) (pd_var 2 rfl (.inl rfl) (by decide +kernel) (by decide +kernel))) pl_nil rfl) rfl)) (pd_tup (pl_cons (pd_var 2 rfl (.inl rfl) (by decide +kernel) (by decide +kernel)) (pl_cons (pd_bin od_sub (pd_bin od_sub (pd_var 1 rfl (.inl rfl) (by decide +kernel) (by decide +kernel)) (pd_var 2 rfl (.inl rfl) (by decide +kernel) (by decide +kernel))) (pd_con pe_int fun _ => .int _)) pl_nil rfl) rfl))) (pgs_cons (pg_name (i := 4) nd rfl (.inl rfl) (.inr rfl)) (pgs_cons (pg_name (i := 5) nd rfl (.inl rfl) (.inr rfl)) pgs_nil rfl) rfl) rfl rfl rfl rfl rfl)
    (sx_one (sx_ret (pd_call 7 hK C.c7 hr xc_takes (by rfl) (by decide +kernel) (px_val (pd_bin od_mul (pd_bin od_mul (pd_ite (pq_val (pd_var 3 rfl (.inl rfl) (by decide +kernel) (by decide +kernel)) fun _ => rfl) (pd_con pe_int fun _ => .int _) (pd_un ud_neg (pd_con pe_int fun _ => .int _))) (pd_call 17 hK C.c17 hr xc_takes (by rfl) (by decide +kernel) (px_name 4 rfl (.inl rfl) (by decide +kernel) (by decide +kernel) px_nil) (len_name 4 len_nil) rfl rfl)) (pd_call 17 hK C.c17 hr xc_takes (by rfl) (by decide +kernel) (px_name 5 rfl (.inl rfl) (by decide +kernel) (by decide +kernel) px_nil) (len_name 5 len_nil) rfl rfl)) (px_val (pd_call 17 hK C.c17 hr xc_takes (by rfl) (by decide +kernel) (px_name 1 rfl (.inl rfl) (by decide +kernel) (by decide +kernel) px_nil) (len_name 1 len_nil) rfl rfl) px_nil rfl) rfl) (len_val (len_val len_nil)) rfl rfl)))))
theorem w19 (g : GF K w mg) (C : CF P w K mg base k cf) (hr : Room k (A.deeper (envOfC "turn_part" (defScope st19) s.heap.objs.size f cdv))) : PSs (XC P w K mg base N19 "turn_part" (defScope st19) f cdv A outer s H E) (defBody st19) (TSx ⟨K, Gx, Xx, ρ, P0, H, E⟩ (b19 cf)) := by
  have hK : K = K := rfl
  have hu : (A.deeper (envOfC "turn_part" (defScope st19) s.heap.objs.size f cdv)).units + 65 < cLine := xc_units hr
  have nd := sc19.nd
  exact (sx_cons (sx_if (pq_cmp2 (od_eq hK hu) (pd_var 0 rfl (.inl rfl) (by decide +kernel) (by decide +kernel)) (pd_tupRg rfl (by rfl) g.tuple (pr_1 (by rfl) g.range (pd_bin (od_add hK) (pd_var 1 rfl (.inl rfl) (by decide +kernel) (by decide +kernel)) (pd_con pe_int fun _ => .int _)) rfl) rfl) rfl) (sx_one (sx_ret (pd_tup (pl_cons (pd_con pe_int fun _ => .int _) (pl_cons (pd_con pe_int fun _ => .int _) pl_nil rfl) rfl)))) sx_nil)
    (sx_one (sx_ret (pd_ite (pq_cmp2 (od_eq hK hu) (pd_var 0 rfl (.inl rfl) (by decide +kernel) (by decide +kernel)) (pd_tupRg rfl (by rfl) g.tuple (pr_1 (by rfl) g.range (pd_var 1 rfl (.inl rfl) (by decide +kernel) (by decide +kernel)) rfl) rfl) rfl) (pd_tup (pl_cons (pd_un ud_neg (pd_con pe_int fun _ => .int _)) (pl_cons (pd_con pe_int fun _ => .int _) pl_nil rfl) rfl)) (pd_tup (pl_cons (pd_con pe_int fun _ => .int _) (pl_cons (pd_con pe_int fun _ => .int _) pl_nil rfl) rfl))))))
theorem w20 (g : GF K w mg) (C : CF P w K mg base k cf) (hr : Room k (A.deeper (envOfC "part_of" (defScope st20) s.heap.objs.size f cdv))) : PSs (XC P w K mg base N20 "part_of" (defScope st20) f cdv A outer s H E) (defBody st20) (TSx ⟨K, Gx, Xx, ρ, P0, H, E⟩ (b20 cf)) := by
  have hK : K = K := rfl
  have hu : (A.deeper (envOfC "part_of" (defScope st20) s.heap.objs.size f cdv)).units + 65 < cLine := xc_units hr
  have nd := sc20.nd
  exact (sx_cons (sx_par2 (i := 4) (j := 5) (f := false) (g := false) rfl nd rfl rfl (by decide) rfl rfl (pd_tupRg rfl (by rfl) g.tuple (pr_1 (by rfl) g.range (pd_var 1 rfl (.inl rfl) (by decide +kernel) (by decide +kernel)) rfl) rfl) (pd_call 5 hK C.c5 hr xc_takes (by rfl) (by decide +kernel) (px_name 1 rfl (.inl rfl) (by decide +kernel) (by decide +kernel) (px_val (pd_tup (pl_cons (pd_var 2 rfl (.inl rfl) (by decide +kernel) (by decide +kernel)) pl_nil rfl)) px_nil rfl)) (len_name 1 (len_val len_nil)) rfl rfl) rfl rfl rfl rfl)
    (sx_cons (sx_if (pq_in (od_in hK hu) (pd_var 0 rfl (.inl rfl) (by decide +kernel) (by decide +kernel)) (pd_tup (pl_cons (pd_con pe_str fun _ => .str _) (pl_cons (pd_con pe_str fun _ => .str _) pl_nil rfl) rfl)) rfl) (sx_one (sx_ret (pd_call 18 hK C.c18 hr xc_takes (by rfl) (by decide +kernel) (px_name 0 rfl (.inl rfl) (by decide +kernel) (by decide +kernel) (px_name 1 rfl (.inl rfl) (by decide +kernel) (by decide +kernel) (px_val (pd_b1V 3 (cd_len hK) (by rfl) g.len boot_len (by decide) (by decide +kernel) rfl (.inl rfl) (by decide +kernel) (by decide +kernel)) (px_val (pd_inV 3 (od_in hK hu) (pd_var 2 rfl (.inl rfl) (by decide +kernel) (by decide +kernel)) rfl (.inl rfl) (by decide +kernel) (by decide +kernel)) px_nil rfl) rfl))) (len_name 0 (len_name 1 (len_val (len_val len_nil)))) rfl rfl))) sx_nil)
    (sx_cons (sx_if (pq_cmp2 (od_eq hK hu) (pd_var 0 rfl (.inl rfl) (by decide +kernel) (by decide +kernel)) (pd_con pe_str fun _ => .str _) rfl) (sx_one (sx_ret (pd_call 19 hK C.c19 hr xc_takes (by rfl) (by decide +kernel) (px_name 3 rfl (.inl rfl) (by decide +kernel) (by decide +kernel) (px_name 2 rfl (.inl rfl) (by decide +kernel) (by decide +kernel) px_nil)) (len_name 3 (len_name 2 len_nil)) rfl rfl))) sx_nil)
    (sx_cons (sx_set nd rfl (.inl rfl) (pd_cmp (od_eq hK hu) (pd_var 3 rfl (.inl rfl) (by decide +kernel) (by decide +kernel)) (pd_var 4 rfl (.inl rfl) (by decide +kernel) (by decide +kernel)) rfl) rfl (.inr rfl))
    (sx_cons (sx_if (pq_cmp2 (od_eq hK hu) (pd_var 0 rfl (.inl rfl) (by decide +kernel) (by decide +kernel)) (pd_con pe_str fun _ => .str _) rfl) (sx_one (sx_ret (pd_call 7 hK C.c7 hr xc_takes (by rfl) (by decide +kernel) (px_val (pd_t1V 6 cd_int (by rfl) g.int PyProof.Rows.boot_int (by decide) (by decide +kernel) rfl (.inl rfl) (by decide +kernel) (by decide +kernel)) (px_name 1 rfl (.inl rfl) (by decide +kernel) (by decide +kernel) px_nil) rfl) (len_val (len_name 1 len_nil)) rfl rfl))) sx_nil)
    (sx_cons (sx_if (pq_cmp2 (od_eq hK hu) (pd_var 0 rfl (.inl rfl) (by decide +kernel) (by decide +kernel)) (pd_con pe_str fun _ => .str _) rfl) (sx_one (sx_ret (pd_tup (pl_cons (pd_t1 cd_int (by rfl) g.int PyProof.Rows.boot_int (pd_cmp (od_eq hK hu) (pd_var 3 rfl (.inl rfl) (by decide +kernel) (by decide +kernel)) (pd_tup (pl_cons (pd_var 2 rfl (.inl rfl) (by decide +kernel) (by decide +kernel)) pl_nil rfl)) rfl) (by decide) (by decide +kernel) rfl) (pl_cons (pd_con pe_int fun _ => .int _) pl_nil rfl) rfl)))) sx_nil)
    (sx_cons (sx_if (pq_cmp2 (od_eq hK hu) (pd_var 0 rfl (.inl rfl) (by decide +kernel) (by decide +kernel)) (pd_con pe_str fun _ => .str _) rfl) (sx_one (sx_ret (pd_tup (pl_cons (pd_bin od_sub (pd_t1V 6 cd_int (by rfl) g.int PyProof.Rows.boot_int (by decide) (by decide +kernel) rfl (.inl rfl) (by decide +kernel) (by decide +kernel)) (pd_t1 cd_int (by rfl) g.int PyProof.Rows.boot_int (pd_cmp (od_eq hK hu) (pd_var 3 rfl (.inl rfl) (by decide +kernel) (by decide +kernel)) (pd_var 5 rfl (.inl rfl) (by decide +kernel) (by decide +kernel)) rfl) (by decide) (by decide +kernel) rfl)) (pl_cons (pd_con pe_int fun _ => .int _) pl_nil rfl) rfl)))) sx_nil)
    (sx_cons (sx_if (pq_cmp2 (od_eq hK hu) (pd_var 0 rfl (.inl rfl) (by decide +kernel) (by decide +kernel)) (pd_con pe_str fun _ => .str _) rfl) (sx_one (sx_ret (pd_call 7 hK C.c7 hr xc_takes (by rfl) (by decide +kernel) (px_val (pd_bin od_sub (pd_bin (od_add hK) (pd_bin od_mul (pd_var 1 rfl (.inl rfl) (by decide +kernel) (by decide +kernel)) (pd_t1 cd_int (by rfl) g.int PyProof.Rows.boot_int (pd_cmp (od_eq hK hu) (pd_var 3 rfl (.inl rfl) (by decide +kernel) (by decide +kernel)) (pd_tup (pl_cons (pd_var 2 rfl (.inl rfl) (by decide +kernel) (by decide +kernel)) pl_nil rfl)) rfl) (by decide) (by decide +kernel) rfl)) (pd_t1V 6 cd_int (by rfl) g.int PyProof.Rows.boot_int (by decide) (by decide +kernel) rfl (.inl rfl) (by decide +kernel) (by decide +kernel))) (pd_t1 cd_int (by rfl) g.int PyProof.Rows.boot_int (pd_cmp (od_eq hK hu) (pd_b1V 3 (cd_len hK) (by rfl) g.len boot_len (by decide) (by decide +kernel) rfl (.inl rfl) (by decide +kernel) (by decide +kernel)) (pd_con pe_int fun _ => .int _) rfl) (by decide) (by decide +kernel) rfl)) (px_name 1 rfl (.inl rfl) (by decide +kernel) (by decide +kernel) px_nil) rfl) (len_val (len_name 1 len_nil)) rfl rfl))) sx_nil)
    (sx_one (sx_ret (pd_call 7 hK C.c7 hr xc_takes (by rfl) (by decide +kernel) (px_val (pd_bin od_sub (pd_bin (od_add hK) (pd_t1V 6 cd_int (by rfl) g.int PyProof.Rows.boot_int (by decide) (by decide +kernel) rfl (.inl rfl) (by decide +kernel) (by decide +kernel)) (pd_t1 cd_int (by rfl) g.int PyProof.Rows.boot_int (pd_cmp (od_eq hK hu) (pd_b1V 3 (cd_len hK) (by rfl) g.len boot_len (by decide) (by decide +kernel) rfl (.inl rfl) (by decide +kernel) (by decide +kernel)) (pd_bin od_sub (pd_var 1 rfl (.inl rfl) (by decide +kernel) (by decide +kernel)) (pd_con pe_int fun _ => .int _)) rfl) (by decide) (by decide +kernel) rfl)) (pd_bin od_mul (pd_var 1 rfl (.inl rfl) (by decide +kernel) (by decide +kernel)) (pd_t1 cd_int (by rfl) g.int PyProof.Rows.boot_int (pd_cmp (od_eq hK hu) (pd_var 3 rfl (.inl rfl) (by decide +kernel) (by decide +kernel)) (pd_var 5 rfl (.inl rfl) (by decide +kernel) (by decide +kernel)) rfl) (by decide) (by decide +kernel) rfl))) (px_name 1 rfl (.inl rfl) (by decide +kernel) (by decide +kernel) px_nil) rfl) (len_val (len_name 1 len_nil)) rfl rfl)))))))))))
theorem w21 (g : GF K w mg) (C : CF P w K mg base k cf) (hr : Room k (A.deeper (envOfC "names" (defScope st21) s.heap.objs.size f cdv))) : PSs (XC P w K mg base N21 "names" (defScope st21) f cdv A outer s H E) (defBody st21) (TSx ⟨K, Gx, Xx, ρ, P0, H, E⟩ (b21 cf)) := by
  have hK : K = K := rfl
  have hu : (A.deeper (envOfC "names" (defScope st21) s.heap.objs.size f cdv)).units + 65 < cLine := xc_units hr
  have nd := sc21.nd
  exact (sx_one (sx_ret (pd_klit g.NAMES.choose_spec.2 hK (by rfl) g.NAMES.choose_spec.1 (by decide +kernel))))
theorem w22 (g : GF K w mg) (C : CF P w K mg base k cf) (hr : Room k (A.deeper (envOfC "told_rule" (defScope st22) s.heap.objs.size f cdv))) : PSs (XC P w K mg base N22 "told_rule" (defScope st22) f cdv A outer s H E) (defBody st22) (TSx ⟨K, Gx, Xx, ρ, P0, H, E⟩ (b22 cf)) := by
  have hK : K = K := rfl
  have hu : (A.deeper (envOfC "told_rule" (defScope st22) s.heap.objs.size f cdv)).units + 65 < cLine := xc_units hr
  have nd := sc22.nd
  exact (sx_cons (sx_if (PW.pt (pww_or (pq_not (pq_val (pd_isi1 hK (by rfl) g.isinstance (pd_var 0 rfl (.inr (.inl rfl)) (by decide +kernel) (by decide +kernel)) rfl (pe_bltn (by rfl) g.str PyProof.Rows.boot_str (show RelV (.ty "str") (.type "str") from rfl) (by decide) (by decide +kernel))) fun _ => rfl)) (pw1_or (pq_in (od_nin hK hu) (pd_var 0 rfl (.inr (.inl rfl)) (by decide +kernel) (by decide +kernel)) (pd_klit g.NAMES.choose_spec.2 hK (by rfl) g.NAMES.choose_spec.1 (by decide +kernel)) rfl)))) (sx_one sx_nope) sx_nil)
    (sx_cons (sx_ex (pd_call 1 hK C.c1 hr xc_takes (by rfl) (by decide +kernel) (px_name 1 rfl (.inr (.inl rfl)) (by decide +kernel) (by decide +kernel) px_nil) (len_name 1 len_nil) rfl rfl) rfl)
    (sx_one (sx_ret (pd_t1 (cd_tuple hK) (by rfl) g.tuple PyProof.Rows.boot_tuple (pd_lcV rfl nd (ti_e (ti_rg1 (by rfl) g.range (pl_cons (pd_var 1 rfl (.inr (.inl rfl)) (by decide +kernel) (by decide +kernel)) pl_nil rfl) rfl)) (blk_of (N := N22) (own := [("person", 2)]) (by kernel_rfl)) rfl (by decide) (fun _ _ _ _ _ => (tg_name (pg_name nd rfl (.inr rfl) (.inl rfl)))) (fun _ _ _ _ _ => pts_none) (fun _ _ _ _ _ => (pd_t1 (cd_tuple hK) (by rfl) g.tuple PyProof.Rows.boot_tuple (pd_lcV rfl nd (ti_e (ti_val hK (pd_call 2 hK C.c2 hr passL (by rfl) (by decide +kernel) (px_name 1 rfl (.inr (.inl rfl)) (by decide +kernel) (by decide +kernel) px_nil) (len_name 1 len_nil) rfl rfl))) (blk_of (N := N22) (own := [("group", 3)]) (by kernel_rfl)) rfl (by decide) (fun _ _ _ _ _ => (tg_name (pg_name nd rfl (.inl rfl) (.inr rfl)))) (fun _ _ _ _ _ => pts_none) (fun _ _ _ _ _ => (pd_call 20 hK C.c20 hr passL (by rfl) (by decide +kernel) (px_name 0 rfl (.inr (.inl rfl)) (by decide +kernel) (by decide +kernel) (px_name 1 rfl (.inr (.inl rfl)) (by decide +kernel) (by decide +kernel) (px_name 2 rfl (.inr (.inl rfl)) (by decide +kernel) (by decide +kernel) (px_name 3 rfl (.inl rfl) (by decide +kernel) (by decide +kernel) px_nil)))) (len_name 0 (len_name 1 (len_name 2 (len_name 3 len_nil)))) rfl rfl)) (fun _ => rfl)) (by decide) (by decide +kernel) rfl)) (fun _ => rfl)) (by decide) (by decide +kernel) rfl)))))
theorem w23 (g : GF K w mg) (C : CF P w K mg base k cf) (hr : Room k (A.deeper (envOfC "_law_taken" (defScope st23) s.heap.objs.size f cdv))) : PSs (XC P w K mg base N23 "_law_taken" (defScope st23) f cdv A outer s H E) (defBody st23) (TSx ⟨K, Gx, Xx, ρ, P0, H, E⟩ (b23 cf)) := by
  have hK : K = K := rfl
  have hu : (A.deeper (envOfC "_law_taken" (defScope st23) s.heap.objs.size f cdv)).units + 65 < cLine := xc_units hr
  have nd := sc23.nd
  exact (sx_cons (sx_if (pq_cmp2 od_gt (pd_subV 0 hK hu rfl (.inl rfl) (by decide +kernel) (by decide +kernel) (pd_con pe_int fun _ => .int _) fun _ _ => rfl) (pd_con pe_int fun _ => .int _) rfl) (sx_cons (sx_set nd rfl (.inl rfl) (pd_bin od_mod (pd_t1 cd_int (by rfl) g.int PyProof.Rows.boot_int (pd_subV 0 hK hu rfl (.inl rfl) (by decide +kernel) (by decide +kernel) (pd_con pe_int fun _ => .int _) fun _ _ => rfl) (by decide) (by decide +kernel) rfl) (pd_var 1 rfl (.inl rfl) (by decide +kernel) (by decide +kernel))) rfl (.inr rfl))
    (sx_cons (sx_store 0 hu rfl (.inl rfl) (by decide +kernel) (by decide +kernel) (pd_con pe_int fun _ => .int _) (pd_bin od_fdiv (pd_subV 0 hK hu rfl (.inl rfl) (by decide +kernel) (by decide +kernel) (pd_con pe_int fun _ => .int _) fun _ _ => rfl) (pd_var 1 rfl (.inl rfl) (by decide +kernel) (by decide +kernel))) rfl rfl fun _ => rfl)
    (sx_one (sx_ret (pd_var 2 rfl (.inl rfl) (by decide +kernel) (by decide +kernel)))))) sx_nil)
    (sx_cons (sx_store 0 hu rfl (.inl rfl) (by decide +kernel) (by decide +kernel) (pd_con pe_int fun _ => .int _) (pd_bin (od_add hK) (pd_subV 0 hK hu rfl (.inl rfl) (by decide +kernel) (by decide +kernel) (pd_con pe_int fun _ => .int _) fun _ _ => rfl) (pd_con pe_int fun _ => .int _)) rfl rfl fun _ => rfl)
    (sx_cons (sx_if (pq_cmp2 od_gt (pd_subV 0 hK hu rfl (.inl rfl) (by decide +kernel) (by decide +kernel) (pd_con pe_int fun _ => .int _) fun _ _ => rfl) (pd_b1 (cd_len hK) (by rfl) g.len boot_len (pd_subV 0 hK hu rfl (.inl rfl) (by decide +kernel) (by decide +kernel) (pd_con pe_int fun _ => .int _) fun _ _ => rfl) (by decide) (by decide +kernel) rfl) rfl) (sx_cons (sx_store 0 hu rfl (.inl rfl) (by decide +kernel) (by decide +kernel) (pd_con pe_int fun _ => .int _) (pd_bin od_mod (pd_t1 cd_int (by rfl) g.int PyProof.Rows.boot_int (pd_bin (od_add hK) (pd_bin od_mul (pd_subV 0 hK hu rfl (.inl rfl) (by decide +kernel) (by decide +kernel) (pd_con pe_int fun _ => .int _) fun _ _ => rfl) (pd_con pe_int fun _ => .int _)) (pd_con pe_int fun _ => .int _)) (by decide) (by decide +kernel) rfl) (pd_con pe_int fun _ => .int _)) rfl rfl fun _ => rfl)
    (sx_one (sx_ret (pd_bin od_mod (pd_t1 cd_int (by rfl) g.int PyProof.Rows.boot_int (pd_bin od_fdiv (pd_subV 0 hK hu rfl (.inl rfl) (by decide +kernel) (by decide +kernel) (pd_con pe_int fun _ => .int _) fun _ _ => rfl) (pd_con pe_int fun _ => .int _)) (by decide) (by decide +kernel) rfl) (pd_var 1 rfl (.inl rfl) (by decide +kernel) (by decide +kernel)))))) sx_nil)
    (sx_cons (sx_set nd rfl (.inl rfl) (pd_sub hK hu (pd_subV 0 hK hu rfl (.inl rfl) (by decide +kernel) (by decide +kernel) (pd_con pe_int fun _ => .int _) fun _ _ => rfl) (pd_bin od_sub (pd_subV 0 hK hu rfl (.inl rfl) (by decide +kernel) (by decide +kernel) (pd_con pe_int fun _ => .int _) fun _ _ => rfl) (pd_con pe_int fun _ => .int _)) fun _ _ => rfl) rfl (.inr rfl))
    (sx_cons (sx_store 0 hu rfl (.inl rfl) (by decide +kernel) (by decide +kernel) (pd_con pe_int fun _ => .int _) (pd_bin od_mod (pd_t1 cd_int (by rfl) g.int PyProof.Rows.boot_int (pd_bin (od_add hK) (pd_bin (od_add hK) (pd_bin od_mul (pd_subV 0 hK hu rfl (.inl rfl) (by decide +kernel) (by decide +kernel) (pd_con pe_int fun _ => .int _) fun _ _ => rfl) (pd_con pe_int fun _ => .int _)) (pd_var 3 rfl (.inl rfl) (by decide +kernel) (by decide +kernel))) (pd_con pe_int fun _ => .int _)) (by decide) (by decide +kernel) rfl) (pd_con pe_int fun _ => .int _)) rfl rfl fun _ => rfl)
    (sx_cons (sx_if (pq_cmp2 od_ge (pd_var 3 rfl (.inl rfl) (by decide +kernel) (by decide +kernel)) (pd_bin od_pow (pd_con pe_int fun _ => .int _) (pd_con pe_int fun _ => .int _)) rfl) (sx_one (sx_store 0 hu rfl (.inl rfl) (by decide +kernel) (by decide +kernel) (pd_con pe_int fun _ => .int _) (pd_bin od_fdiv (pd_var 3 rfl (.inl rfl) (by decide +kernel) (by decide +kernel)) (pd_var 1 rfl (.inl rfl) (by decide +kernel) (by decide +kernel))) rfl rfl fun _ => rfl)) sx_nil)
    (sx_one (sx_ret (pd_bin od_mod (pd_t1V 3 cd_int (by rfl) g.int PyProof.Rows.boot_int (by decide) (by decide +kernel) rfl (.inl rfl) (by decide +kernel) (by decide +kernel)) (pd_var 1 rfl (.inl rfl) (by decide +kernel) (by decide +kernel)))))))))))
theorem w24 (g : GF K w mg) (C : CF P w K mg base k cf) (hr : Room k (A.deeper (envOfC "_law_pick" (defScope st24) s.heap.objs.size f cdv))) : PSs (XC P w K mg base N24 "_law_pick" (defScope st24) f cdv A outer s H E) (defBody st24) (TSx ⟨K, Gx, Xx, ρ, P0, H, E⟩ (b24 cf)) := by
  have hK : K = K := rfl
  have hu : (A.deeper (envOfC "_law_pick" (defScope st24) s.heap.objs.size f cdv)).units + 65 < cLine := xc_units hr
  have nd := sc24.nd
  exact (sx_one (sx_ret (pd_subV 1 hK hu rfl (.inl rfl) (by decide +kernel) (by decide +kernel) (pd_call 23 hK C.c23 hr xc_takes (by rfl) (by decide +kernel) (px_name 0 rfl (.inl rfl) (by decide +kernel) (by decide +kernel) (px_val (pd_b1V 1 (cd_len hK) (by rfl) g.len boot_len (by decide) (by decide +kernel) rfl (.inl rfl) (by decide +kernel) (by decide +kernel)) px_nil rfl)) (len_name 0 (len_val len_nil)) rfl rfl) fun _ _ => rfl)))
theorem w25 (g : GF K w mg) (C : CF P w K mg base k cf) (hr : Room k (A.deeper (envOfC "_law_alike" (defScope st25) s.heap.objs.size f cdv))) : PSs (XC P w K mg base N25 "_law_alike" (defScope st25) f cdv A outer s H E) (defBody st25) (TSx ⟨K, Gx, Xx, ρ, P0, H, E⟩ (b25 cf)) := by
  have hK : K = K := rfl
  have hu : (A.deeper (envOfC "_law_alike" (defScope st25) s.heap.objs.size f cdv)).units + 65 < cLine := xc_units hr
  have nd := sc25.nd
  exact (sx_cons (sx_if (pq_val (pd_isiT hK (by rfl) g.isinstance (pd_var 1 rfl (.inr (.inl rfl)) (by decide +kernel) (by decide +kernel)) rfl (pty_cons (pe_bltn (by rfl) g.tuple PyProof.Rows.boot_tuple (show RelV (.ty "tuple") (.type "tuple") from rfl) (by decide) (by decide +kernel)) (pty_cons (pe_bltn (by rfl) g.list PyProof.Rows.boot_list (show RelV (.ty "list") (.type "list") from rfl) (by decide) (by decide +kernel)) pty_nil rfl) rfl) (by decide)) fun _ => rfl) (sx_cons (sx_if (PW.pt (pww_or (pq_not (pq_val (pd_isiT hK (by rfl) g.isinstance (pd_var 0 rfl (.inr (.inl rfl)) (by decide +kernel) (by decide +kernel)) rfl (pty_cons (pe_bltn (by rfl) g.tuple PyProof.Rows.boot_tuple (show RelV (.ty "tuple") (.type "tuple") from rfl) (by decide) (by decide +kernel)) (pty_cons (pe_bltn (by rfl) g.list PyProof.Rows.boot_list (show RelV (.ty "list") (.type "list") from rfl) (by decide) (by decide +kernel)) pty_nil rfl) rfl) (by decide)) fun _ => rfl)) (pw1_or (pq_cmp2 (od_ne hK hu) (pd_isi1 hK (by rfl) g.isinstance (pd_var 0 rfl (.inr (.inl rfl)) (by decide +kernel) (by decide +kernel)) rfl (pe_bltn (by rfl) g.list PyProof.Rows.boot_list (show RelV (.ty "list") (.type "list") from rfl) (by decide) (by decide +kernel))) (pd_isi1 hK (by rfl) g.isinstance (pd_var 1 rfl (.inr (.inl rfl)) (by decide +kernel) (by decide +kernel)) rfl (pe_bltn (by rfl) g.list PyProof.Rows.boot_list (show RelV (.ty "list") (.type "list") from rfl) (by decide) (by decide +kernel))) rfl)))) (sx_one (sx_ret (pd_con pe_bl fun _ => .bl _))) sx_nil)
    (sx_cons (sx_if (pq_cmp2 (od_ne hK hu) (pd_b1V 0 (cd_len hK) (by rfl) g.len boot_len (by decide) (by decide +kernel) rfl (.inr (.inl rfl)) (by decide +kernel) (by decide +kernel)) (pd_b1V 1 (cd_len hK) (by rfl) g.len boot_len (by decide) (by decide +kernel) rfl (.inr (.inl rfl)) (by decide +kernel) (by decide +kernel)) rfl) (sx_one (sx_ret (pd_con pe_bl fun _ => .bl _))) sx_nil)
    (sx_one (sx_ret (pd_cmp (od_eq hK hu) (pd_lcV rfl nd (ti_e (ti_rg1 (by rfl) g.range (pl_cons (pd_b1V 1 (cd_len hK) (by rfl) g.len boot_len (by decide) (by decide +kernel) rfl (.inr (.inl rfl)) (by decide +kernel) (by decide +kernel)) pl_nil rfl) rfl)) (blk_of (N := N25) (own := [("_law_k", 2)]) (by kernel_rfl)) rfl (by decide) (fun _ _ _ _ _ => (tg_name (pg_name nd rfl (.inl rfl) (.inr rfl)))) (fun _ _ _ _ _ => (pts_one (pq_not (pq_val (pd_call 25 hK C.c25 hr passL (by rfl) (by decide +kernel) (px_val (pd_subV 0 hK hu rfl (.inr (.inl rfl)) (by decide +kernel) (by decide +kernel) (pd_var 2 rfl (.inl rfl) (by decide +kernel) (by decide +kernel)) fun _ _ => rfl) (px_val (pd_subV 1 hK hu rfl (.inr (.inl rfl)) (by decide +kernel) (by decide +kernel) (pd_var 2 rfl (.inl rfl) (by decide +kernel) (by decide +kernel)) fun _ _ => rfl) px_nil rfl) rfl) (len_val (len_val len_nil)) rfl rfl) fun _ => rfl)))) (fun _ _ _ _ _ => (pd_var 2 rfl (.inl rfl) (by decide +kernel) (by decide +kernel))) (fun _ => rfl)) (pd_lst pl_nil) rfl))))) sx_nil)
    (sx_cons (sx_if (PW.pt (pww_or (pq_cmp2 od_isN (pd_var 1 rfl (.inr (.inl rfl)) (by decide +kernel) (by decide +kernel)) (pd_con pe_non fun _ => .non) rfl) (pw1_or (pq_val (pd_isi1 hK (by rfl) g.isinstance (pd_var 1 rfl (.inr (.inl rfl)) (by decide +kernel) (by decide +kernel)) rfl (pe_bltn (by rfl) g.str PyProof.Rows.boot_str (show RelV (.ty "str") (.type "str") from rfl) (by decide) (by decide +kernel))) fun _ => rfl)))) (sx_one (sx_ret (pd_and (pd_cmp (od_eq hK hu) (pd_var 0 rfl (.inr (.inl rfl)) (by decide +kernel) (by decide +kernel)) (pd_var 1 rfl (.inr (.inl rfl)) (by decide +kernel) (by decide +kernel)) rfl) (pd_one (pd_cmp (od_eq hK hu) (pd_isi1 hK (by rfl) g.isinstance (pd_var 0 rfl (.inr (.inl rfl)) (by decide +kernel) (by decide +kernel)) rfl (pe_bltn (by rfl) g.str PyProof.Rows.boot_str (show RelV (.ty "str") (.type "str") from rfl) (by decide) (by decide +kernel))) (pd_isi1 hK (by rfl) g.isinstance (pd_var 1 rfl (.inr (.inl rfl)) (by decide +kernel) (by decide +kernel)) rfl (pe_bltn (by rfl) g.str PyProof.Rows.boot_str (show RelV (.ty "str") (.type "str") from rfl) (by decide) (by decide +kernel))) rfl))))) sx_nil)
    (sx_one (sx_ret (pd_and (pd_isi1 hK (by rfl) g.isinstance (pd_var 0 rfl (.inr (.inl rfl)) (by decide +kernel) (by decide +kernel)) rfl (pe_bltn (by rfl) g.int PyProof.Rows.boot_int (show RelV (.ty "int") (.type "int") from rfl) (by decide) (by decide +kernel))) (pd_and (pd_cmp (od_eq hK hu) (pd_isi1 hK (by rfl) g.isinstance (pd_var 0 rfl (.inr (.inl rfl)) (by decide +kernel) (by decide +kernel)) rfl (pe_bltn (by rfl) g.bool boot_bool2 (show RelV (.ty "bool") (.type "bool") from rfl) (by decide) (by decide +kernel))) (pd_isi1 hK (by rfl) g.isinstance (pd_var 1 rfl (.inr (.inl rfl)) (by decide +kernel) (by decide +kernel)) rfl (pe_bltn (by rfl) g.bool boot_bool2 (show RelV (.ty "bool") (.type "bool") from rfl) (by decide) (by decide +kernel))) rfl) (pd_one (pd_cmp (od_eq hK hu) (pd_var 0 rfl (.inr (.inl rfl)) (by decide +kernel) (by decide +kernel)) (pd_var 1 rfl (.inr (.inl rfl)) (by decide +kernel) (by decide +kernel)) rfl))))))))
theorem w26 (g : GF K w mg) (C : CF P w K mg base k cf) (hr : Room k (A.deeper (envOfC "_law_groups" (defScope st26) s.heap.objs.size f cdv))) : PSs (XC P w K mg base N26 "_law_groups" (defScope st26) f cdv A outer s H E) (defBody st26) (TSx ⟨K, Gx, Xx, ρ, P0, H, E⟩ (b26 cf)) := by
  have hK : K = K := rfl
  have hu : (A.deeper (envOfC "_law_groups" (defScope st26) s.heap.objs.size f cdv)).units + 65 < cLine := xc_units hr
  have nd := sc26.nd
  exact (sx_cons (sx_set nd rfl (.inl rfl) (pd_lst pl_nil) rfl (.inr rfl))
    (sx_cons (sx_for xc_own rfl (ti_rg2 (by rfl) g.range (pl_cons (pd_con pe_int fun _ => .int _) (pl_cons (pd_bin (od_add hK) (pd_var 0 rfl (.inl rfl) (by decide +kernel) (by decide +kernel)) (pd_con pe_int fun _ => .int _)) pl_nil rfl) rfl) rfl rfl) (tg_name (pg_name nd rfl (.inl rfl) (.inr rfl))) (sx_cons (sx_set nd rfl (.inl rfl) (pd_lst (pl_cons (pd_tup pl_nil) pl_nil rfl)) rfl (.inr rfl))
    (sx_cons (sx_for xc_own rfl (ti_rg1 (by rfl) g.range (pl_cons (pd_var 2 rfl (.inl rfl) (by decide +kernel) (by decide +kernel)) pl_nil rfl) rfl) (tg_name (pg_name nd rfl (.inl rfl) (.inr rfl))) (sx_cons (sx_set nd rfl (.inl rfl) (pd_lst pl_nil) rfl (.inr rfl))
    (sx_cons (sx_for xc_own rfl (ti_val hK (pd_var 3 rfl (.inl rfl) (by decide +kernel) (by decide +kernel))) (tg_name (pg_name nd rfl (.inr rfl) (.inl rfl))) (sx_one (sx_set nd rfl (.inl rfl) (pd_bin (od_add hK) (pd_var 5 rfl (.inl rfl) (by decide +kernel) (by decide +kernel)) (pd_lcV rfl nd (ti_e (ti_rg2 (by rfl) g.range (pl_cons (pd_ite (pq_cmp2 (od_ne hK hu) (pd_var 6 rfl (.inr (.inl rfl)) (by decide +kernel) (by decide +kernel)) (pd_tup pl_nil) rfl) (pd_bin (od_add hK) (pd_subV 6 hK hu rfl (.inr (.inl rfl)) (by decide +kernel) (by decide +kernel) (pd_un ud_neg (pd_con pe_int fun _ => .int _)) fun _ _ => rfl) (pd_con pe_int fun _ => .int _)) (pd_con pe_int fun _ => .int _)) (pl_cons (pd_var 0 rfl (.inl rfl) (by decide +kernel) (by decide +kernel)) pl_nil rfl) rfl) rfl rfl)) (blk_of (N := N26) (own := [("_law_person", 7)]) (by kernel_rfl)) rfl (by decide) (fun _ _ _ _ _ => (tg_name (pg_name nd rfl (.inl rfl) (.inr rfl)))) (fun _ _ _ _ _ => pts_none) (fun _ _ _ _ _ => (pd_bin (od_add hK) (pd_var 6 rfl (.inr (.inl rfl)) (by decide +kernel) (by decide +kernel)) (pd_tup (pl_cons (pd_var 7 rfl (.inl rfl) (by decide +kernel) (by decide +kernel)) pl_nil rfl)))) (fun _ => rfl))) rfl (.inr rfl))) fun _ => rfl)
    (sx_one (sx_set nd rfl (.inl rfl) (pd_var 5 rfl (.inl rfl) (by decide +kernel) (by decide +kernel)) rfl (.inr rfl))))) fun _ => rfl)
    (sx_one (sx_set nd rfl (.inl rfl) (pd_bin (od_add hK) (pd_var 1 rfl (.inl rfl) (by decide +kernel) (by decide +kernel)) (pd_var 3 rfl (.inl rfl) (by decide +kernel) (by decide +kernel))) rfl (.inr rfl))))) fun _ => rfl)
    (sx_one (sx_ret (pd_var 1 rfl (.inl rfl) (by decide +kernel) (by decide +kernel))))))
theorem w27 (g : GF K w mg) (C : CF P w K mg base k cf) (hr : Room k (A.deeper (envOfC "_law_worths" (defScope st27) s.heap.objs.size f cdv))) : PSs (XC P w K mg base N27 "_law_worths" (defScope st27) f cdv A outer s H E) (defBody st27) (TSx ⟨K, Gx, Xx, ρ, P0, H, E⟩ (b27 cf)) := by
  have hK : K = K := rfl
  have hu : (A.deeper (envOfC "_law_worths" (defScope st27) s.heap.objs.size f cdv)).units + 65 < cLine := xc_units hr
  have nd := sc27.nd
  exact (sx_cons (sx_setO nd rfl (.inl rfl) (pd_t1 (cd_dictL hK rfl hu) (by rfl) g.dict PyProof.Rows.boot_dict (pd_lzip hK rfl (by rfl) g.list (by rfl) g.zip (pl_cons (pd_call 26 hK C.c26 hr xc_takes (by rfl) (by decide +kernel) (px_name 1 rfl (.inl rfl) (by decide +kernel) (by decide +kernel) px_nil) (len_name 1 len_nil) rfl rfl) (pl_cons (pd_var 0 rfl (.inl rfl) (by decide +kernel) (by decide +kernel)) pl_nil rfl) rfl) rfl rfl) (by decide) (by decide +kernel) rfl) rfl (.inr rfl))
    (sx_cons (sx_store 2 hu rfl (.inl rfl) (by decide +kernel) (by decide +kernel) (pd_tup pl_nil) (pd_con pe_int fun _ => .int _) rfl rfl fun _ => rfl)
    (sx_one (sx_retO 2 rfl (.inl rfl) (by decide +kernel) (by decide +kernel)))))
theorem w28 (g : GF K w mg) (C : CF P w K mg base k cf) (hr : Room k (A.deeper (envOfC "_law_with" (defScope st28) s.heap.objs.size f cdv))) : PSs (XC P w K mg base N28 "_law_with" (defScope st28) f cdv A outer s H E) (defBody st28) (TSx ⟨K, Gx, Xx, ρ, P0, H, E⟩ (b28 cf)) := by
  have hK : K = K := rfl
  have hu : (A.deeper (envOfC "_law_with" (defScope st28) s.heap.objs.size f cdv)).units + 65 < cLine := xc_units hr
  have nd := sc28.nd
  exact (sx_one (sx_ret (pd_t1 (cd_tuple hK) (by rfl) g.tuple PyProof.Rows.boot_tuple (pd_b1 (cd_sorted hK hu) (by rfl) g.sorted PyProof.Rows.boot_sorted (pd_bin (od_add hK) (pd_lcV rfl nd (ti_e (ti_val hK (pd_var 0 rfl (.inl rfl) (by decide +kernel) (by decide +kernel)))) (blk_of (N := N28) (own := [("_law_one", 2)]) (by kernel_rfl)) rfl (by decide) (fun _ _ _ _ _ => (tg_name (pg_name nd rfl (.inl rfl) (.inr rfl)))) (fun _ _ _ _ _ => (pts_one (pq_cmp2 (od_ne hK hu) (pd_var 2 rfl (.inl rfl) (by decide +kernel) (by decide +kernel)) (pd_var 1 rfl (.inr (.inl rfl)) (by decide +kernel) (by decide +kernel)) rfl))) (fun _ _ _ _ _ => (pd_var 2 rfl (.inl rfl) (by decide +kernel) (by decide +kernel))) (fun _ => rfl)) (pd_lst (pl_cons (pd_var 1 rfl (.inr (.inl rfl)) (by decide +kernel) (by decide +kernel)) pl_nil rfl))) (by decide) (by decide +kernel) rfl) (by decide) (by decide +kernel) rfl)))
theorem w29 (g : GF K w mg) (C : CF P w K mg base k cf) (hr : Room k (A.deeper (envOfC "_law_less" (defScope st29) s.heap.objs.size f cdv))) : PSs (XC P w K mg base N29 "_law_less" (defScope st29) f cdv A outer s H E) (defBody st29) (TSx ⟨K, Gx, Xx, ρ, P0, H, E⟩ (b29 cf)) := by
  have hK : K = K := rfl
  have hu : (A.deeper (envOfC "_law_less" (defScope st29) s.heap.objs.size f cdv)).units + 65 < cLine := xc_units hr
  have nd := sc29.nd
  exact (sx_one (sx_ret (pd_t1 (cd_tuple hK) (by rfl) g.tuple PyProof.Rows.boot_tuple (pd_lcV rfl nd (ti_e (ti_val hK (pd_var 0 rfl (.inl rfl) (by decide +kernel) (by decide +kernel)))) (blk_of (N := N29) (own := [("_law_one", 2)]) (by kernel_rfl)) rfl (by decide) (fun _ _ _ _ _ => (tg_name (pg_name nd rfl (.inl rfl) (.inr rfl)))) (fun _ _ _ _ _ => (pts_one (pq_cmp2 (od_ne hK hu) (pd_var 2 rfl (.inl rfl) (by decide +kernel) (by decide +kernel)) (pd_var 1 rfl (.inr (.inl rfl)) (by decide +kernel) (by decide +kernel)) rfl))) (fun _ _ _ _ _ => (pd_var 2 rfl (.inl rfl) (by decide +kernel) (by decide +kernel))) (fun _ => rfl)) (by decide) (by decide +kernel) rfl)))
theorem w30 (g : GF K w mg) (C : CF P w K mg base k cf) (hr : Room k (A.deeper (envOfC "_law_ratio" (defScope st30) s.heap.objs.size f cdv))) : PSs (XC P w K mg base N30 "_law_ratio" (defScope st30) f cdv A outer s H E) (defBody st30) (TSx ⟨K, Gx, Xx, ρ, P0, H, E⟩ (b30 cf)) := by
  have hK : K = K := rfl
  have hu : (A.deeper (envOfC "_law_ratio" (defScope st30) s.heap.objs.size f cdv)).units + 65 < cLine := xc_units hr
  have nd := sc30.nd
  exact (sx_cons (sx_par2 (i := 2) (j := 3) (f := false) (g := false) rfl nd rfl rfl (by decide) rfl rfl (pd_b1V 0 cd_abs (by rfl) g.abs boot_abs (by decide) (by decide +kernel) rfl (.inl rfl) (by decide +kernel) (by decide +kernel)) (pd_var 1 rfl (.inl rfl) (by decide +kernel) (by decide +kernel)) rfl rfl rfl rfl)
    (sx_cons (sx_while fuel xc_own (pq_cmp2 (od_ne hK hu) (pd_var 3 rfl (.inl rfl) (by decide +kernel) (by decide +kernel)) (pd_con pe_int fun _ => .int _) rfl) (sx_one (sx_par2 (i := 2) (j := 3) (f := false) (g := false) rfl nd rfl rfl (by decide) rfl rfl (pd_var 3 rfl (.inl rfl) (by decide +kernel) (by decide +kernel)) (pd_bin od_mod (pd_var 2 rfl (.inl rfl) (by decide +kernel) (by decide +kernel)) (pd_var 3 rfl (.inl rfl) (by decide +kernel) (by decide +kernel))) rfl rfl rfl rfl)))
    (sx_one (sx_ret (pd_tup (pl_cons (pd_bin od_fdiv (pd_var 0 rfl (.inl rfl) (by decide +kernel) (by decide +kernel)) (pd_var 2 rfl (.inl rfl) (by decide +kernel) (by decide +kernel))) (pl_cons (pd_bin od_fdiv (pd_var 1 rfl (.inl rfl) (by decide +kernel) (by decide +kernel)) (pd_var 2 rfl (.inl rfl) (by decide +kernel) (by decide +kernel))) pl_nil rfl) rfl))))))
theorem w31 (g : GF K w mg) (C : CF P w K mg base k cf) (hr : Room k (A.deeper (envOfC "_law_sum" (defScope st31) s.heap.objs.size f cdv))) : PSs (XC P w K mg base N31 "_law_sum" (defScope st31) f cdv A outer s H E) (defBody st31) (TSx ⟨K, Gx, Xx, ρ, P0, H, E⟩ (b31 cf)) := by
  have hK : K = K := rfl
  have hu : (A.deeper (envOfC "_law_sum" (defScope st31) s.heap.objs.size f cdv)).units + 65 < cLine := xc_units hr
  have nd := sc31.nd
  exact (sx_cons (sx_par2T (i := 1) (j := 2) (f := false) (g := false) rfl (pd_con pe_int fun _ => .int _) (pd_con pe_int fun _ => .int _) (pgs_cons (pg_name (i := 1) nd rfl (.inl rfl) (.inr rfl)) (pgs_cons (pg_name (i := 2) nd rfl (.inl rfl) (.inr rfl)) pgs_nil rfl) rfl) rfl rfl rfl rfl rfl rfl rfl)
    (sx_cons (sx_for xc_own rfl (ti_val hK (pd_var 0 rfl (.inl rfl) (by decide +kernel) (by decide +kernel))) (tg_name (pg_name nd rfl (.inl rfl) (.inr rfl))) (sx_one (sx_par2 (i := 1) (j := 2) (f := false) (g := false) rfl nd rfl rfl (by decide) rfl rfl (pd_bin (od_add hK) (pd_bin od_mul (pd_var 1 rfl (.inl rfl) (by decide +kernel) (by decide +kernel)) (pd_subV 3 hK hu rfl (.inl rfl) (by decide +kernel) (by decide +kernel) (pd_con pe_int fun _ => .int _) fun _ _ => rfl)) (pd_bin od_mul (pd_subV 3 hK hu rfl (.inl rfl) (by decide +kernel) (by decide +kernel) (pd_con pe_int fun _ => .int _) fun _ _ => rfl) (pd_var 2 rfl (.inl rfl) (by decide +kernel) (by decide +kernel)))) (pd_bin od_mul (pd_var 2 rfl (.inl rfl) (by decide +kernel) (by decide +kernel)) (pd_subV 3 hK hu rfl (.inl rfl) (by decide +kernel) (by decide +kernel) (pd_con pe_int fun _ => .int _) fun _ _ => rfl)) rfl rfl rfl rfl)) fun _ => rfl)
    (sx_one (sx_ret (pd_call 30 hK C.c30 hr xc_takes (by rfl) (by decide +kernel) (px_name 1 rfl (.inl rfl) (by decide +kernel) (by decide +kernel) (px_name 2 rfl (.inl rfl) (by decide +kernel) (by decide +kernel) px_nil)) (len_name 1 (len_name 2 len_nil)) rfl rfl)))))
theorem w32 (g : GF K w mg) (C : CF P w K mg base k cf) (hr : Room k (A.deeper (envOfC "_law_shares" (defScope st32) s.heap.objs.size f cdv))) : PSs (XC P w K mg base N32 "_law_shares" (defScope st32) f cdv A outer s H E) (defBody st32) (TSx ⟨K, Gx, Xx, ρ, P0, H, E⟩ (b32 cf)) := by
  have hK : K = K := rfl
  have hu : (A.deeper (envOfC "_law_shares" (defScope st32) s.heap.objs.size f cdv)).units + 65 < cLine := xc_units hr
  have nd := sc32.nd
  exact (sx_one (sx_ret (pd_t1 (cd_tuple hK) (by rfl) g.tuple PyProof.Rows.boot_tuple (pd_lcV rfl nd (ti_e (ti_val hK (pd_var 0 rfl (.inl rfl) (by decide +kernel) (by decide +kernel)))) (blk_of (N := N32) (own := [("_law_row", 2)]) (by kernel_rfl)) rfl (by decide) (fun _ _ _ _ _ => (tg_name (pg_name nd rfl (.inr rfl) (.inl rfl)))) (fun _ _ _ _ _ => pts_none) (fun _ _ _ _ _ => (pd_call 31 hK C.c31 hr passL (by rfl) (by decide +kernel) (px_val (pd_lcV rfl nd (ti_e (ti_rg1 (by rfl) g.range (pl_cons (pd_b1V 1 (cd_len hK) (by rfl) g.len boot_len (by decide) (by decide +kernel) rfl (.inr (.inl rfl)) (by decide +kernel) (by decide +kernel)) pl_nil rfl) rfl)) (blk_of (N := N32) (own := [("_law_at", 3)]) (by kernel_rfl)) rfl (by decide) (fun _ _ _ _ _ => (tg_name (pg_name nd rfl (.inl rfl) (.inr rfl)))) (fun _ _ _ _ _ => pts_none) (fun _ _ _ _ _ => (pd_tup (pl_cons (pd_bin od_mul (pd_sub hK hu (pd_subV 2 hK hu rfl (.inr (.inl rfl)) (by decide +kernel) (by decide +kernel) (pd_var 3 rfl (.inl rfl) (by decide +kernel) (by decide +kernel)) fun _ _ => rfl) (pd_con pe_int fun _ => .int _) fun _ _ => rfl) (pd_subV 1 hK hu rfl (.inr (.inl rfl)) (by decide +kernel) (by decide +kernel) (pd_var 3 rfl (.inl rfl) (by decide +kernel) (by decide +kernel)) fun _ _ => rfl)) (pl_cons (pd_sub hK hu (pd_subV 2 hK hu rfl (.inr (.inl rfl)) (by decide +kernel) (by decide +kernel) (pd_var 3 rfl (.inl rfl) (by decide +kernel) (by decide +kernel)) fun _ _ => rfl) (pd_con pe_int fun _ => .int _) fun _ _ => rfl) pl_nil rfl) rfl))) (fun _ => rfl)) px_nil rfl) (len_val len_nil) rfl rfl)) (fun _ => rfl)) (by decide) (by decide +kernel) rfl)))
theorem w33 (g : GF K w mg) (C : CF P w K mg base k cf) (hr : Room k (A.deeper (envOfC "_law_orders" (defScope st33) s.heap.objs.size f cdv))) : PSs (XC P w K mg base N33 "_law_orders" (defScope st33) f cdv A outer s H E) (defBody st33) (TSx ⟨K, Gx, Xx, ρ, P0, H, E⟩ (b33 cf)) := by
  have hK : K = K := rfl
  have hu : (A.deeper (envOfC "_law_orders" (defScope st33) s.heap.objs.size f cdv)).units + 65 < cLine := xc_units hr
  have nd := sc33.nd
  exact (sx_cons (sx_if (pq_cmp2 od_lt (pd_b1V 0 (cd_len hK) (by rfl) g.len boot_len (by decide) (by decide +kernel) rfl (.inr (.inl rfl)) (by decide +kernel) (by decide +kernel)) (pd_con pe_int fun _ => .int _) rfl) (sx_one (sx_ret (pd_lst (pl_cons (pd_t1V 0 (cd_list hK) (by rfl) g.list PyProof.Rows.boot_list (by decide) (by decide +kernel) rfl (.inr (.inl rfl)) (by decide +kernel) (by decide +kernel)) pl_nil rfl)))) sx_nil)
    (sx_cons (sx_set nd rfl (.inl rfl) (pd_lst pl_nil) rfl (.inr rfl))
    (sx_cons (sx_for xc_own rfl (ti_rg1 (by rfl) g.range (pl_cons (pd_b1V 0 (cd_len hK) (by rfl) g.len boot_len (by decide) (by decide +kernel) rfl (.inr (.inl rfl)) (by decide +kernel) (by decide +kernel)) pl_nil rfl) rfl) (tg_name (pg_name nd rfl (.inr rfl) (.inl rfl))) (sx_one (sx_set nd rfl (.inl rfl) (pd_bin (od_add hK) (pd_var 1 rfl (.inl rfl) (by decide +kernel) (by decide +kernel)) (pd_lcV rfl nd (ti_e (ti_val hK (pd_call 33 hK C.c33 hr xc_takes (by rfl) (by decide +kernel) (px_val (pd_bin (od_add hK) (pd_t1 (cd_list hK) (by rfl) g.list PyProof.Rows.boot_list (pd_sliceV 0 hK rfl (.inr (.inl rfl)) (by decide +kernel) (by decide +kernel) tpo_none (tpo_some (pd_var 2 rfl (.inr (.inl rfl)) (by decide +kernel) (by decide +kernel)))) (by decide) (by decide +kernel) rfl) (pd_t1 (cd_list hK) (by rfl) g.list PyProof.Rows.boot_list (pd_sliceV 0 hK rfl (.inr (.inl rfl)) (by decide +kernel) (by decide +kernel) (tpo_some (pd_bin (od_add hK) (pd_var 2 rfl (.inr (.inl rfl)) (by decide +kernel) (by decide +kernel)) (pd_con pe_int fun _ => .int _))) tpo_none) (by decide) (by decide +kernel) rfl)) px_nil rfl) (len_val len_nil) rfl rfl))) (blk_of (N := N33) (own := [("_law_rest", 3)]) (by kernel_rfl)) rfl (by decide) (fun _ _ _ _ _ => (tg_name (pg_name nd rfl (.inl rfl) (.inr rfl)))) (fun _ _ _ _ _ => pts_none) (fun _ _ _ _ _ => (pd_bin (od_add hK) (pd_lst (pl_cons (pd_subV 0 hK hu rfl (.inr (.inl rfl)) (by decide +kernel) (by decide +kernel) (pd_var 2 rfl (.inr (.inl rfl)) (by decide +kernel) (by decide +kernel)) fun _ _ => rfl) pl_nil rfl)) (pd_var 3 rfl (.inl rfl) (by decide +kernel) (by decide +kernel)))) (fun _ => rfl))) rfl (.inr rfl))) fun _ => rfl)
    (sx_one (sx_ret (pd_var 1 rfl (.inl rfl) (by decide +kernel) (by decide +kernel)))))))
theorem w34 (g : GF K w mg) (C : CF P w K mg base k cf) (hr : Room k (A.deeper (envOfC "_law_game" (defScope st34) s.heap.objs.size f cdv))) : PSs (XC P w K mg base N34 "_law_game" (defScope st34) f cdv A outer s H E) (defBody st34) (TSx ⟨K, Gx, Xx, ρ, P0, H, E⟩ (b34 cf)) := by
  have hK : K = K := rfl
  have hu : (A.deeper (envOfC "_law_game" (defScope st34) s.heap.objs.size f cdv)).units + 65 < cLine := xc_units hr
  have nd := sc34.nd
  exact (sx_cons (sx_par2 (i := 2) (j := 3) (f := false) (g := false) rfl nd rfl rfl (by decide) rfl rfl (pd_call 26 hK C.c26 hr xc_takes (by rfl) (by decide +kernel) (px_name 1 rfl (.inl rfl) (by decide +kernel) (by decide +kernel) px_nil) (len_name 1 len_nil) rfl rfl) (pd_call 23 hK C.c23 hr xc_takes (by rfl) (by decide +kernel) (px_name 0 rfl (.inr (.inl rfl)) (by decide +kernel) (by decide +kernel) (px_val (pd_con pe_int fun _ => .int _) px_nil rfl)) (len_name 0 (len_val len_nil)) rfl rfl) rfl rfl rfl rfl)
    (sx_cons (sx_set nd rfl (.inr rfl) (pd_lcV rfl nd (ti_e (ti_val hK (pd_var 2 rfl (.inl rfl) (by decide +kernel) (by decide +kernel)))) (blk_of (N := N34) (own := [("_law_group", 4)]) (by kernel_rfl)) rfl (by decide) (fun _ _ _ _ _ => (tg_name (pg_name nd rfl (.inl rfl) (.inr rfl)))) (fun _ _ _ _ _ => pts_none) (fun _ _ _ _ _ => (pd_call 24 hK C.c24 hr passL (by rfl) (by decide +kernel) (px_name 0 rfl (.inr (.inl rfl)) (by decide +kernel) (by decide +kernel) (px_val (pd_lst (pl_cons (pd_con pe_int fun _ => .int _) (pl_cons (pd_con pe_int fun _ => .int _) (pl_cons (pd_con pe_int fun _ => .int _) (pl_cons (pd_un ud_neg (pd_con pe_int fun _ => .int _)) (pl_cons (pd_con pe_int fun _ => .int _) (pl_cons (pd_con pe_int fun _ => .int _) (pl_cons (pd_bin od_sub (pd_call 23 hK C.c23 hr passL (by rfl) (by decide +kernel) (px_name 0 rfl (.inr (.inl rfl)) (by decide +kernel) (by decide +kernel) (px_val (pd_con pe_int fun _ => .int _) px_nil rfl)) (len_name 0 (len_val len_nil)) rfl rfl) (pd_con pe_int fun _ => .int _)) pl_nil rfl) rfl) rfl) rfl) rfl) rfl) rfl)) px_nil rfl)) (len_name 0 (len_val len_nil)) rfl rfl)) (fun _ => rfl)) rfl (.inl rfl))
    (sx_cons (sx_par2T (i := 6) (j := 7) (f := true) (g := false) rfl (pd_call 27 hK C.c27 hr xc_takes (by rfl) (by decide +kernel) (px_name 5 rfl (.inr (.inl rfl)) (by decide +kernel) (by decide +kernel) (px_name 1 rfl (.inl rfl) (by decide +kernel) (by decide +kernel) px_nil)) (len_name 5 (len_name 1 len_nil)) rfl rfl) (pd_call 23 hK C.c23 hr xc_takes (by rfl) (by decide +kernel) (px_name 0 rfl (.inr (.inl rfl)) (by decide +kernel) (by decide +kernel) (px_name 1 rfl (.inl rfl) (by decide +kernel) (by decide +kernel) px_nil)) (len_name 0 (len_name 1 len_nil)) rfl rfl) (pgs_cons (pg_name (i := 6) nd rfl (.inr rfl) (.inl rfl)) (pgs_cons (pg_name (i := 7) nd rfl (.inr rfl) (.inl rfl)) pgs_nil rfl) rfl) rfl rfl rfl rfl rfl rfl rfl)
    (sx_cons (sx_set nd rfl (.inr rfl) (pd_call 24 hK C.c24 hr xc_takes (by rfl) (by decide +kernel) (px_name 0 rfl (.inr (.inl rfl)) (by decide +kernel) (by decide +kernel) (px_val (pd_lst (pl_cons (pd_con pe_int fun _ => .int _) (pl_cons (pd_con pe_int fun _ => .int _) (pl_cons (pd_con pe_int fun _ => .int _) pl_nil rfl) rfl) rfl)) px_nil rfl)) (len_name 0 (len_val len_nil)) rfl rfl) rfl (.inl rfl))
    (sx_cons (sx_if (pq_cmp2 (od_eq hK hu) (pd_var 3 rfl (.inl rfl) (by decide +kernel) (by decide +kernel)) (pd_con pe_int fun _ => .int _) rfl) (sx_one (sx_set nd rfl (.inr rfl) (pd_lcV rfl nd (ti_e (ti_val hK (pd_var 2 rfl (.inl rfl) (by decide +kernel) (by decide +kernel)))) (blk_of (N := N34) (own := [("_law_group", 4)]) (by kernel_rfl)) rfl (by decide) (fun _ _ _ _ _ => (tg_name (pg_name nd rfl (.inl rfl) (.inr rfl)))) (fun _ _ _ _ _ => pts_none) (fun _ _ _ _ _ => (pd_b1 (cd_sum hK rfl) (by rfl) g.sum boot_sum (pd_lcV rfl nd (ti_e (ti_val hK (pd_var 4 rfl (.inl rfl) (by decide +kernel) (by decide +kernel)))) (blk_of (N := N34) (own := [("_law_person", 10)]) (by kernel_rfl)) rfl (by decide) (fun _ _ _ _ _ => (tg_name (pg_name nd rfl (.inl rfl) (.inr rfl)))) (fun _ _ _ _ _ => pts_none) (fun _ _ _ _ _ => (pd_subV 5 hK hu rfl (.inr (.inl rfl)) (by decide +kernel) (by decide +kernel) (pd_var 10 rfl (.inl rfl) (by decide +kernel) (by decide +kernel)) fun _ _ => rfl)) (fun _ => rfl)) (by decide) (by decide +kernel) rfl)) (fun _ => rfl)) rfl (.inl rfl))) sx_nil)
    (sx_cons (sx_if (pq_cmp2 (od_eq hK hu) (pd_var 3 rfl (.inl rfl) (by decide +kernel) (by decide +kernel)) (pd_con pe_int fun _ => .int _) rfl) (sx_one (sx_set nd rfl (.inr rfl) (pd_lcV rfl nd (ti_e (ti_val hK (pd_var 2 rfl (.inl rfl) (by decide +kernel) (by decide +kernel)))) (blk_of (N := N34) (own := [("_law_group", 4)]) (by kernel_rfl)) rfl (by decide) (fun _ _ _ _ _ => (tg_name (pg_name nd rfl (.inl rfl) (.inr rfl)))) (fun _ _ _ _ _ => pts_none) (fun _ _ _ _ _ => (pd_bin (od_add hK) (pd_subV 6 hK hu rfl (.inr (.inl rfl)) (by decide +kernel) (by decide +kernel) (pd_call 29 hK C.c29 hr passL (by rfl) (by decide +kernel) (px_name 4 rfl (.inl rfl) (by decide +kernel) (by decide +kernel) (px_name 7 rfl (.inr (.inl rfl)) (by decide +kernel) (by decide +kernel) px_nil)) (len_name 4 (len_name 7 len_nil)) rfl rfl) fun _ _ => rfl) (pd_ite (pq_inV 4 (od_in hK hu) (pd_var 7 rfl (.inr (.inl rfl)) (by decide +kernel) (by decide +kernel)) rfl (.inl rfl) (by decide +kernel) (by decide +kernel)) (pd_var 8 rfl (.inr (.inl rfl)) (by decide +kernel) (by decide +kernel)) (pd_con pe_int fun _ => .int _)))) (fun _ => rfl)) rfl (.inl rfl))) sx_nil)
    (sx_cons (sx_if (pq_cmp2 (od_eq hK hu) (pd_var 3 rfl (.inl rfl) (by decide +kernel) (by decide +kernel)) (pd_con pe_int fun _ => .int _) rfl) (sx_cons (sx_set nd rfl (.inl rfl) (pd_bin od_mod (pd_bin (od_add hK) (pd_var 7 rfl (.inr (.inl rfl)) (by decide +kernel) (by decide +kernel)) (pd_con pe_int fun _ => .int _)) (pd_var 1 rfl (.inl rfl) (by decide +kernel) (by decide +kernel))) rfl (.inr rfl))
    (sx_cons (sx_for xc_own rfl (ti_val hK (pd_var 2 rfl (.inl rfl) (by decide +kernel) (by decide +kernel))) (tg_name (pg_name nd rfl (.inl rfl) (.inr rfl))) (sx_one (sx_if (PW.pt (pww_and (pq_inV 4 (od_in hK hu) (pd_var 7 rfl (.inr (.inl rfl)) (by decide +kernel) (by decide +kernel)) rfl (.inl rfl) (by decide +kernel) (by decide +kernel)) (pw1_and (pq_inV 4 (od_nin hK hu) (pd_var 9 rfl (.inl rfl) (by decide +kernel) (by decide +kernel)) rfl (.inl rfl) (by decide +kernel) (by decide +kernel))))) (sx_one (sx_store 6 hu rfl (.inr (.inl rfl)) (by decide +kernel) (by decide +kernel) (pd_call 28 hK C.c28 hr xc_takes (by rfl) (by decide +kernel) (px_val (pd_call 29 hK C.c29 hr xc_takes (by rfl) (by decide +kernel) (px_name 4 rfl (.inl rfl) (by decide +kernel) (by decide +kernel) (px_name 7 rfl (.inr (.inl rfl)) (by decide +kernel) (by decide +kernel) px_nil)) (len_name 4 (len_name 7 len_nil)) rfl rfl) (px_name 9 rfl (.inl rfl) (by decide +kernel) (by decide +kernel) px_nil) rfl) (len_val (len_name 9 len_nil)) rfl rfl) (pd_subV 6 hK hu rfl (.inr (.inl rfl)) (by decide +kernel) (by decide +kernel) (pd_var 4 rfl (.inl rfl) (by decide +kernel) (by decide +kernel)) fun _ _ => rfl) rfl rfl fun _ => rfl)) sx_nil)) fun _ => rfl)
    (sx_one (sx_set nd rfl (.inr rfl) (pd_lcV rfl nd (ti_e (ti_val hK (pd_var 2 rfl (.inl rfl) (by decide +kernel) (by decide +kernel)))) (blk_of (N := N34) (own := [("_law_group", 4)]) (by kernel_rfl)) rfl (by decide) (fun _ _ _ _ _ => (tg_name (pg_name nd rfl (.inl rfl) (.inr rfl)))) (fun _ _ _ _ _ => pts_none) (fun _ _ _ _ _ => (pd_subV 6 hK hu rfl (.inr (.inl rfl)) (by decide +kernel) (by decide +kernel) (pd_var 4 rfl (.inl rfl) (by decide +kernel) (by decide +kernel)) fun _ _ => rfl)) (fun _ => rfl)) rfl (.inl rfl))))) sx_nil)
    (sx_cons (sx_if (pq_cmp2 (od_eq hK hu) (pd_var 3 rfl (.inl rfl) (by decide +kernel) (by decide +kernel)) (pd_con pe_int fun _ => .int _) rfl) (sx_one (sx_set nd rfl (.inr rfl) (pd_lcV rfl nd (ti_e (ti_val hK (pd_var 2 rfl (.inl rfl) (by decide +kernel) (by decide +kernel)))) (blk_of (N := N34) (own := [("_law_group", 4)]) (by kernel_rfl)) rfl (by decide) (fun _ _ _ _ _ => (tg_name (pg_name nd rfl (.inl rfl) (.inr rfl)))) (fun _ _ _ _ _ => pts_none) (fun _ _ _ _ _ => (pd_ite (pq_inV 4 (od_in hK hu) (pd_var 7 rfl (.inr (.inl rfl)) (by decide +kernel) (by decide +kernel)) rfl (.inl rfl) (by decide +kernel) (by decide +kernel)) (pd_con pe_int fun _ => .int _) (pd_subV 6 hK hu rfl (.inr (.inl rfl)) (by decide +kernel) (by decide +kernel) (pd_var 4 rfl (.inl rfl) (by decide +kernel) (by decide +kernel)) fun _ _ => rfl))) (fun _ => rfl)) rfl (.inl rfl))) sx_nil)
    (sx_one (sx_ret (pd_t1V 5 (cd_tuple hK) (by rfl) g.tuple PyProof.Rows.boot_tuple (by decide) (by decide +kernel) rfl (.inr (.inl rfl)) (by decide +kernel) (by decide +kernel))))))))))))
theorem w35 (g : GF K w mg) (C : CF P w K mg base k cf) (hr : Room k (A.deeper (envOfC "_law_part" (defScope st35) s.heap.objs.size f cdv))) : PSs (XC P w K mg base N35 "_law_part" (defScope st35) f cdv A outer s H E) (defBody st35) (TSx ⟨K, Gx, Xx, ρ, P0, H, E⟩ (b35 cf)) := by
  have hK : K = K := rfl
  have hu : (A.deeper (envOfC "_law_part" (defScope st35) s.heap.objs.size f cdv)).units + 65 < cLine := xc_units hr
  have nd := sc35.nd
  exact (sx_cons (sx_set nd rfl (.inr rfl) (pd_tupRg rfl (by rfl) g.tuple (pr_1 (by rfl) g.range (pd_var 1 rfl (.inl rfl) (by decide +kernel) (by decide +kernel)) rfl) rfl) rfl (.inl rfl))
    (sx_cons (sx_par2 (i := 5) (j := 6) (f := false) (g := false) rfl nd rfl rfl (by decide) rfl rfl (pd_con pe_int fun _ => .int _) (pd_var 1 rfl (.inl rfl) (by decide +kernel) (by decide +kernel)) rfl rfl rfl rfl)
    (sx_cons (sx_if (pq_cmp2 (od_eq hK hu) (pd_var 0 rfl (.inl rfl) (by decide +kernel) (by decide +kernel)) (pd_con pe_str fun _ => .str _) rfl) (sx_cons (sx_set nd rfl (.inl rfl) (pd_con pe_int fun _ => .int _) rfl (.inr rfl))
    (sx_one (sx_for xc_own rfl (ti_val hK (pd_call 33 hK C.c33 hr xc_takes (by rfl) (by decide +kernel) (px_val (pd_t1V 4 (cd_list hK) (by rfl) g.list PyProof.Rows.boot_list (by decide) (by decide +kernel) rfl (.inr (.inl rfl)) (by decide +kernel) (by decide +kernel)) px_nil rfl) (len_val len_nil) rfl rfl)) (tg_name (pg_name nd rfl (.inl rfl) (.inr rfl))) (sx_cons (sx_set nd rfl (.inl rfl) (pd_t1 (cd_tuple hK) (by rfl) g.tuple PyProof.Rows.boot_tuple (pd_b1 (cd_sorted hK hu) (by rfl) g.sorted PyProof.Rows.boot_sorted (pd_sliceV 7 hK rfl (.inl rfl) (by decide +kernel) (by decide +kernel) tpo_none (tpo_some (pd_index hK hu (pd_var 7 rfl (.inl rfl) (by decide +kernel) (by decide +kernel)) (pd_var 2 rfl (.inr (.inl rfl)) (by decide +kernel) (by decide +kernel)) rfl rfl rfl rfl rfl))) (by decide) (by decide +kernel) rfl) (by decide) (by decide +kernel) rfl) rfl (.inr rfl))
    (sx_one (sx_par2 (i := 5) (j := 6) (f := false) (g := false) rfl nd rfl rfl (by decide) rfl rfl (pd_bin od_sub (pd_bin (od_add hK) (pd_var 5 rfl (.inl rfl) (by decide +kernel) (by decide +kernel)) (pd_t1 cd_int (by rfl) g.int PyProof.Rows.boot_int (pd_cmp (od_eq hK hu) (pd_call 28 hK C.c28 hr xc_takes (by rfl) (by decide +kernel) (px_name 8 rfl (.inl rfl) (by decide +kernel) (by decide +kernel) (px_name 2 rfl (.inr (.inl rfl)) (by decide +kernel) (by decide +kernel) px_nil)) (len_name 8 (len_name 2 len_nil)) rfl rfl) (pd_var 3 rfl (.inr (.inl rfl)) (by decide +kernel) (by decide +kernel)) rfl) (by decide) (by decide +kernel) rfl)) (pd_t1 cd_int (by rfl) g.int PyProof.Rows.boot_int (pd_cmp (od_eq hK hu) (pd_var 8 rfl (.inl rfl) (by decide +kernel) (by decide +kernel)) (pd_var 3 rfl (.inr (.inl rfl)) (by decide +kernel) (by decide +kernel)) rfl) (by decide) (by decide +kernel) rfl)) (pd_bin (od_add hK) (pd_var 6 rfl (.inl rfl) (by decide +kernel) (by decide +kernel)) (pd_con pe_int fun _ => .int _)) rfl rfl rfl rfl))) fun _ => rfl))) sx_nil)
    (sx_cons (sx_if (pq_cmp2 (od_eq hK hu) (pd_var 0 rfl (.inl rfl) (by decide +kernel) (by decide +kernel)) (pd_con pe_str fun _ => .str _) rfl) (sx_cons (sx_setLc rfl nd rfl rfl rfl (ti_e (ti_val hK (pd_bin (od_add hK) (pd_lst (pl_cons (pd_tup pl_nil) pl_nil rfl)) (pd_call 26 hK C.c26 hr xc_takes (by rfl) (by decide +kernel) (px_name 1 rfl (.inl rfl) (by decide +kernel) (by decide +kernel) px_nil) (len_name 1 len_nil) rfl rfl)))) (blk_of (N := N35) (own := [("_law_one", 11)]) (by kernel_rfl)) rfl (by decide) (fun _ _ _ _ _ => (tg_name (pg_name nd rfl (.inl rfl) (.inr rfl)))) (fun _ _ _ _ _ => (pts_one (pq_inV 11 (od_nin hK hu) (pd_var 2 rfl (.inr (.inl rfl)) (by decide +kernel) (by decide +kernel)) rfl (.inl rfl) (by decide +kernel) (by decide +kernel)))) (fun _ _ _ _ _ => (pd_var 11 rfl (.inl rfl) (by decide +kernel) (by decide +kernel))) (fun _ => rfl))
    (sx_cons (sx_set nd rfl (.inl rfl) (pd_b1V 9 (cd_len hK) (by rfl) g.len boot_len (by decide) (by decide +kernel) rfl (.inl rfl) (by decide +kernel) (by decide +kernel)) rfl (.inr rfl))
    (sx_one (sx_set nd rfl (.inl rfl) (pd_b1 (cd_sum hK rfl) (by rfl) g.sum boot_sum (pd_lcV rfl nd (ti_e (ti_val hK (pd_var 9 rfl (.inl rfl) (by decide +kernel) (by decide +kernel)))) (blk_of (N := N35) (own := [("_law_one", 11)]) (by kernel_rfl)) rfl (by decide) (fun _ _ _ _ _ => (tg_name (pg_name nd rfl (.inl rfl) (.inr rfl)))) (fun _ _ _ _ _ => pts_none) (fun _ _ _ _ _ => (pd_bin od_sub (pd_t1 cd_int (by rfl) g.int PyProof.Rows.boot_int (pd_cmp (od_eq hK hu) (pd_call 28 hK C.c28 hr passL (by rfl) (by decide +kernel) (px_name 11 rfl (.inl rfl) (by decide +kernel) (by decide +kernel) (px_name 2 rfl (.inr (.inl rfl)) (by decide +kernel) (by decide +kernel) px_nil)) (len_name 11 (len_name 2 len_nil)) rfl rfl) (pd_var 3 rfl (.inr (.inl rfl)) (by decide +kernel) (by decide +kernel)) rfl) (by decide) (by decide +kernel) rfl) (pd_t1 cd_int (by rfl) g.int PyProof.Rows.boot_int (pd_cmp (od_eq hK hu) (pd_var 11 rfl (.inl rfl) (by decide +kernel) (by decide +kernel)) (pd_var 3 rfl (.inr (.inl rfl)) (by decide +kernel) (by decide +kernel)) rfl) (by decide) (by decide +kernel) rfl))) (fun _ => rfl)) (by decide) (by decide +kernel) rfl) rfl (.inr rfl))))) sx_nil)
    (sx_cons (sx_if (pq_cmp2 (od_eq hK hu) (pd_var 0 rfl (.inl rfl) (by decide +kernel) (by decide +kernel)) (pd_con pe_str fun _ => .str _) rfl) (sx_one (sx_par2 (i := 5) (j := 6) (f := false) (g := false) rfl nd rfl rfl (by decide) rfl rfl (pd_bin od_sub (pd_t1 cd_int (by rfl) g.int PyProof.Rows.boot_int (pd_cmp (od_eq hK hu) (pd_var 3 rfl (.inr (.inl rfl)) (by decide +kernel) (by decide +kernel)) (pd_sliceV 4 hK rfl (.inr (.inl rfl)) (by decide +kernel) (by decide +kernel) tpo_none (tpo_some (pd_bin (od_add hK) (pd_var 2 rfl (.inr (.inl rfl)) (by decide +kernel) (by decide +kernel)) (pd_con pe_int fun _ => .int _)))) rfl) (by decide) (by decide +kernel) rfl) (pd_t1 cd_int (by rfl) g.int PyProof.Rows.boot_int (pd_cmp (od_eq hK hu) (pd_var 3 rfl (.inr (.inl rfl)) (by decide +kernel) (by decide +kernel)) (pd_sliceV 4 hK rfl (.inr (.inl rfl)) (by decide +kernel) (by decide +kernel) tpo_none (tpo_some (pd_var 2 rfl (.inr (.inl rfl)) (by decide +kernel) (by decide +kernel)))) rfl) (by decide) (by decide +kernel) rfl)) (pd_con pe_int fun _ => .int _) rfl rfl rfl rfl)) sx_nil)
    (sx_cons (sx_if (pq_cmp2 (od_eq hK hu) (pd_var 0 rfl (.inl rfl) (by decide +kernel) (by decide +kernel)) (pd_con pe_str fun _ => .str _) rfl) (sx_one (sx_set nd rfl (.inl rfl) (pd_t1 cd_int (by rfl) g.int PyProof.Rows.boot_int (pd_cmp (od_eq hK hu) (pd_var 3 rfl (.inr (.inl rfl)) (by decide +kernel) (by decide +kernel)) (pd_var 4 rfl (.inr (.inl rfl)) (by decide +kernel) (by decide +kernel)) rfl) (by decide) (by decide +kernel) rfl) rfl (.inr rfl))) sx_nil)
    (sx_cons (sx_if (pq_cmp2 (od_eq hK hu) (pd_var 0 rfl (.inl rfl) (by decide +kernel) (by decide +kernel)) (pd_con pe_str fun _ => .str _) rfl) (sx_one (sx_par2 (i := 5) (j := 6) (f := false) (g := false) rfl nd rfl rfl (by decide) rfl rfl (pd_t1 cd_int (by rfl) g.int PyProof.Rows.boot_int (pd_cmp (od_eq hK hu) (pd_var 3 rfl (.inr (.inl rfl)) (by decide +kernel) (by decide +kernel)) (pd_tup (pl_cons (pd_var 2 rfl (.inr (.inl rfl)) (by decide +kernel) (by decide +kernel)) pl_nil rfl)) rfl) (by decide) (by decide +kernel) rfl) (pd_con pe_int fun _ => .int _) rfl rfl rfl rfl)) sx_nil)
    (sx_cons (sx_if (pq_cmp2 (od_eq hK hu) (pd_var 0 rfl (.inl rfl) (by decide +kernel) (by decide +kernel)) (pd_con pe_str fun _ => .str _) rfl) (sx_one (sx_par2 (i := 5) (j := 6) (f := false) (g := false) rfl nd rfl rfl (by decide) rfl rfl (pd_bin od_sub (pd_t1 cd_int (by rfl) g.int PyProof.Rows.boot_int (pd_cmp (od_eq hK hu) (pd_var 3 rfl (.inr (.inl rfl)) (by decide +kernel) (by decide +kernel)) (pd_var 4 rfl (.inr (.inl rfl)) (by decide +kernel) (by decide +kernel)) rfl) (by decide) (by decide +kernel) rfl) (pd_t1 cd_int (by rfl) g.int PyProof.Rows.boot_int (pd_cmp (od_eq hK hu) (pd_var 3 rfl (.inr (.inl rfl)) (by decide +kernel) (by decide +kernel)) (pd_call 29 hK C.c29 hr xc_takes (by rfl) (by decide +kernel) (px_name 4 rfl (.inr (.inl rfl)) (by decide +kernel) (by decide +kernel) (px_name 2 rfl (.inr (.inl rfl)) (by decide +kernel) (by decide +kernel) px_nil)) (len_name 4 (len_name 2 len_nil)) rfl rfl) rfl) (by decide) (by decide +kernel) rfl)) (pd_con pe_int fun _ => .int _) rfl rfl rfl rfl)) sx_nil)
    (sx_cons (sx_if (pq_cmp2 (od_eq hK hu) (pd_var 0 rfl (.inl rfl) (by decide +kernel) (by decide +kernel)) (pd_con pe_str fun _ => .str _) rfl) (sx_one (sx_set nd rfl (.inl rfl) (pd_bin od_sub (pd_bin (od_add hK) (pd_bin od_mul (pd_var 1 rfl (.inl rfl) (by decide +kernel) (by decide +kernel)) (pd_t1 cd_int (by rfl) g.int PyProof.Rows.boot_int (pd_cmp (od_eq hK hu) (pd_var 3 rfl (.inr (.inl rfl)) (by decide +kernel) (by decide +kernel)) (pd_tup (pl_cons (pd_var 2 rfl (.inr (.inl rfl)) (by decide +kernel) (by decide +kernel)) pl_nil rfl)) rfl) (by decide) (by decide +kernel) rfl)) (pd_t1 cd_int (by rfl) g.int PyProof.Rows.boot_int (pd_cmp (od_eq hK hu) (pd_var 3 rfl (.inr (.inl rfl)) (by decide +kernel) (by decide +kernel)) (pd_var 4 rfl (.inr (.inl rfl)) (by decide +kernel) (by decide +kernel)) rfl) (by decide) (by decide +kernel) rfl)) (pd_b1 (cd_sum hK rfl) (by rfl) g.sum boot_sum (pd_lcV rfl nd (ti_e (ti_val hK (pd_var 4 rfl (.inr (.inl rfl)) (by decide +kernel) (by decide +kernel)))) (blk_of (N := N35) (own := [("_law_one", 11)]) (by kernel_rfl)) rfl (by decide) (fun _ _ _ _ _ => (tg_name (pg_name nd rfl (.inl rfl) (.inr rfl)))) (fun _ _ _ _ _ => pts_none) (fun _ _ _ _ _ => (pd_t1 cd_int (by rfl) g.int PyProof.Rows.boot_int (pd_cmp (od_eq hK hu) (pd_var 3 rfl (.inr (.inl rfl)) (by decide +kernel) (by decide +kernel)) (pd_tup (pl_cons (pd_var 11 rfl (.inl rfl) (by decide +kernel) (by decide +kernel)) pl_nil rfl)) rfl) (by decide) (by decide +kernel) rfl)) (fun _ => rfl)) (by decide) (by decide +kernel) rfl)) rfl (.inr rfl))) sx_nil)
    (sx_cons (sx_if (pq_cmp2 (od_eq hK hu) (pd_var 0 rfl (.inl rfl) (by decide +kernel) (by decide +kernel)) (pd_con pe_str fun _ => .str _) rfl) (sx_cons (sx_setLc rfl nd rfl rfl rfl (ti_e (ti_val hK (pd_var 4 rfl (.inr (.inl rfl)) (by decide +kernel) (by decide +kernel)))) (blk_of (N := N35) (own := [("_law_one", 11)]) (by kernel_rfl)) rfl (by decide) (fun _ _ _ _ _ => (tg_name (pg_name nd rfl (.inl rfl) (.inr rfl)))) (fun _ _ _ _ _ => pts_none) (fun _ _ _ _ _ => (pd_call 29 hK C.c29 hr passL (by rfl) (by decide +kernel) (px_name 4 rfl (.inr (.inl rfl)) (by decide +kernel) (by decide +kernel) (px_name 11 rfl (.inl rfl) (by decide +kernel) (by decide +kernel) px_nil)) (len_name 4 (len_name 11 len_nil)) rfl rfl)) (fun _ => rfl))
    (sx_cons (sx_set nd rfl (.inl rfl) (pd_bin (od_add hK) (pd_bin od_mul (pd_var 1 rfl (.inl rfl) (by decide +kernel) (by decide +kernel)) (pd_bin od_sub (pd_t1 cd_int (by rfl) g.int PyProof.Rows.boot_int (pd_cmp (od_eq hK hu) (pd_var 3 rfl (.inr (.inl rfl)) (by decide +kernel) (by decide +kernel)) (pd_var 4 rfl (.inr (.inl rfl)) (by decide +kernel) (by decide +kernel)) rfl) (by decide) (by decide +kernel) rfl) (pd_t1 cd_int (by rfl) g.int PyProof.Rows.boot_int (pd_cmp (od_eq hK hu) (pd_var 3 rfl (.inr (.inl rfl)) (by decide +kernel) (by decide +kernel)) (pd_subV 10 hK hu rfl (.inl rfl) (by decide +kernel) (by decide +kernel) (pd_var 2 rfl (.inr (.inl rfl)) (by decide +kernel) (by decide +kernel)) fun _ _ => rfl) rfl) (by decide) (by decide +kernel) rfl))) (pd_t1 cd_int (by rfl) g.int PyProof.Rows.boot_int (pd_cmp (od_eq hK hu) (pd_var 3 rfl (.inr (.inl rfl)) (by decide +kernel) (by decide +kernel)) (pd_var 4 rfl (.inr (.inl rfl)) (by decide +kernel) (by decide +kernel)) rfl) (by decide) (by decide +kernel) rfl)) rfl (.inr rfl))
    (sx_one (sx_set nd rfl (.inl rfl) (pd_bin od_sub (pd_var 5 rfl (.inl rfl) (by decide +kernel) (by decide +kernel)) (pd_b1 (cd_sum hK rfl) (by rfl) g.sum boot_sum (pd_lcV rfl nd (ti_e (ti_val hK (pd_var 10 rfl (.inl rfl) (by decide +kernel) (by decide +kernel)))) (blk_of (N := N35) (own := [("_law_one", 11)]) (by kernel_rfl)) rfl (by decide) (fun _ _ _ _ _ => (tg_name (pg_name nd rfl (.inl rfl) (.inr rfl)))) (fun _ _ _ _ _ => pts_none) (fun _ _ _ _ _ => (pd_bin od_sub (pd_t1 cd_int (by rfl) g.int PyProof.Rows.boot_int (pd_cmp (od_eq hK hu) (pd_var 3 rfl (.inr (.inl rfl)) (by decide +kernel) (by decide +kernel)) (pd_var 4 rfl (.inr (.inl rfl)) (by decide +kernel) (by decide +kernel)) rfl) (by decide) (by decide +kernel) rfl) (pd_t1 cd_int (by rfl) g.int PyProof.Rows.boot_int (pd_cmp (od_eq hK hu) (pd_var 3 rfl (.inr (.inl rfl)) (by decide +kernel) (by decide +kernel)) (pd_var 11 rfl (.inl rfl) (by decide +kernel) (by decide +kernel)) rfl) (by decide) (by decide +kernel) rfl))) (fun _ => rfl)) (by decide) (by decide +kernel) rfl)) rfl (.inr rfl))))) sx_nil)
    (sx_one (sx_ret (pd_call 30 hK C.c30 hr xc_takes (by rfl) (by decide +kernel) (px_name 5 rfl (.inl rfl) (by decide +kernel) (by decide +kernel) (px_name 6 rfl (.inl rfl) (by decide +kernel) (by decide +kernel) px_nil)) (len_name 5 (len_name 6 len_nil)) rfl rfl)))))))))))))
theorem w36 (g : GF K w mg) (C : CF P w K mg base k cf) (hr : Room k (A.deeper (envOfC "_law_names" (defScope st36) s.heap.objs.size f cdv))) : PSs (XC P w K mg base N36 "_law_names" (defScope st36) f cdv A outer s H E) (defBody st36) (TSx ⟨K, Gx, Xx, ρ, P0, H, E⟩ (b36 cf)) := by
  have hK : K = K := rfl
  have hu : (A.deeper (envOfC "_law_names" (defScope st36) s.heap.objs.size f cdv)).units + 65 < cLine := xc_units hr
  have nd := sc36.nd
  exact (sx_one (sx_ret (pd_lst (pl_cons (pd_con pe_str fun _ => .str _) (pl_cons (pd_con pe_str fun _ => .str _) (pl_cons (pd_con pe_str fun _ => .str _) (pl_cons (pd_con pe_str fun _ => .str _) (pl_cons (pd_con pe_str fun _ => .str _) (pl_cons (pd_con pe_str fun _ => .str _) (pl_cons (pd_con pe_str fun _ => .str _) (pl_cons (pd_con pe_str fun _ => .str _) pl_nil rfl) rfl) rfl) rfl) rfl) rfl) rfl) rfl))))
theorem w37 (g : GF K w mg) (C : CF P w K mg base k cf) (hr : Room k (A.deeper (envOfC "_law_rule" (defScope st37) s.heap.objs.size f cdv))) : PSs (XC P w K mg base N37 "_law_rule" (defScope st37) f cdv A outer s H E) (defBody st37) (TSx ⟨K, Gx, Xx, ρ, P0, H, E⟩ (b37 cf)) := by
  have hK : K = K := rfl
  have hu : (A.deeper (envOfC "_law_rule" (defScope st37) s.heap.objs.size f cdv)).units + 65 < cLine := xc_units hr
  have nd := sc37.nd
  exact (sx_one (sx_ret (pd_t1 (cd_tuple hK) (by rfl) g.tuple PyProof.Rows.boot_tuple (pd_lcV rfl nd (ti_e (ti_rg1 (by rfl) g.range (pl_cons (pd_var 1 rfl (.inr (.inl rfl)) (by decide +kernel) (by decide +kernel)) pl_nil rfl) rfl)) (blk_of (N := N37) (own := [("_law_who", 2)]) (by kernel_rfl)) rfl (by decide) (fun _ _ _ _ _ => (tg_name (pg_name nd rfl (.inr rfl) (.inl rfl)))) (fun _ _ _ _ _ => pts_none) (fun _ _ _ _ _ => (pd_t1 (cd_tuple hK) (by rfl) g.tuple PyProof.Rows.boot_tuple (pd_lcV rfl nd (ti_e (ti_val hK (pd_call 26 hK C.c26 hr passL (by rfl) (by decide +kernel) (px_name 1 rfl (.inr (.inl rfl)) (by decide +kernel) (by decide +kernel) px_nil) (len_name 1 len_nil) rfl rfl))) (blk_of (N := N37) (own := [("_law_group", 3)]) (by kernel_rfl)) rfl (by decide) (fun _ _ _ _ _ => (tg_name (pg_name nd rfl (.inl rfl) (.inr rfl)))) (fun _ _ _ _ _ => pts_none) (fun _ _ _ _ _ => (pd_call 35 hK C.c35 hr passL (by rfl) (by decide +kernel) (px_name 0 rfl (.inr (.inl rfl)) (by decide +kernel) (by decide +kernel) (px_name 1 rfl (.inr (.inl rfl)) (by decide +kernel) (by decide +kernel) (px_name 2 rfl (.inr (.inl rfl)) (by decide +kernel) (by decide +kernel) (px_name 3 rfl (.inl rfl) (by decide +kernel) (by decide +kernel) px_nil)))) (len_name 0 (len_name 1 (len_name 2 (len_name 3 len_nil)))) rfl rfl)) (fun _ => rfl)) (by decide) (by decide +kernel) rfl)) (fun _ => rfl)) (by decide) (by decide +kernel) rfl)))
theorem w38 (g : GF K w mg) (C : CF P w K mg base k cf) (hr : Room k (A.deeper (envOfC "_law_mixed" (defScope st38) s.heap.objs.size f cdv))) : PSs (XC P w K mg base N38 "_law_mixed" (defScope st38) f cdv A outer s H E) (defBody st38) (TSx ⟨K, Gx, Xx, ρ, P0, H, E⟩ (b38 cf)) := by
  have hK : K = K := rfl
  have hu : (A.deeper (envOfC "_law_mixed" (defScope st38) s.heap.objs.size f cdv)).units + 65 < cLine := xc_units hr
  have nd := sc38.nd
  exact (sx_cons (sx_par2T (i := 2) (j := 3) (f := false) (g := false) rfl (pd_call 37 hK C.c37 hr xc_takes (by rfl) (by decide +kernel) (px_val (pd_call 24 hK C.c24 hr xc_takes (by rfl) (by decide +kernel) (px_name 0 rfl (.inl rfl) (by decide +kernel) (by decide +kernel) (px_val (pd_call0 36 hK C.c36 hr xc_takes (by rfl) (by decide +kernel)) px_nil rfl)) (len_name 0 (len_val len_nil)) rfl rfl) (px_name 1 rfl (.inl rfl) (by decide +kernel) (by decide +kernel) px_nil) rfl) (len_val (len_name 1 len_nil)) rfl rfl) (pd_call 37 hK C.c37 hr xc_takes (by rfl) (by decide +kernel) (px_val (pd_call 24 hK C.c24 hr xc_takes (by rfl) (by decide +kernel) (px_name 0 rfl (.inl rfl) (by decide +kernel) (by decide +kernel) (px_val (pd_call0 36 hK C.c36 hr xc_takes (by rfl) (by decide +kernel)) px_nil rfl)) (len_name 0 (len_val len_nil)) rfl rfl) (px_name 1 rfl (.inl rfl) (by decide +kernel) (by decide +kernel) px_nil) rfl) (len_val (len_name 1 len_nil)) rfl rfl) (pgs_cons (pg_name (i := 2) nd rfl (.inr rfl) (.inl rfl)) (pgs_cons (pg_name (i := 3) nd rfl (.inl rfl) (.inr rfl)) pgs_nil rfl) rfl) rfl rfl rfl rfl rfl rfl rfl)
    (sx_cons (sx_set nd rfl (.inl rfl) (pd_call 23 hK C.c23 hr xc_takes (by rfl) (by decide +kernel) (px_name 0 rfl (.inl rfl) (by decide +kernel) (by decide +kernel) (px_val (pd_con pe_int fun _ => .int _) px_nil rfl)) (len_name 0 (len_val len_nil)) rfl rfl) rfl (.inr rfl))
    (sx_cons (sx_if (pq_cmp2 (od_eq hK hu) (pd_var 4 rfl (.inl rfl) (by decide +kernel) (by decide +kernel)) (pd_con pe_int fun _ => .int _) rfl) (sx_one (sx_ret (pd_var 2 rfl (.inr (.inl rfl)) (by decide +kernel) (by decide +kernel)))) sx_nil)
    (sx_cons (sx_if (pq_cmp2 (od_eq hK hu) (pd_var 4 rfl (.inl rfl) (by decide +kernel) (by decide +kernel)) (pd_con pe_int fun _ => .int _) rfl) (sx_cons (sx_par2T (i := 5) (j := 6) (f := false) (g := false) rfl (pd_call 23 hK C.c23 hr xc_takes (by rfl) (by decide +kernel) (px_name 0 rfl (.inl rfl) (by decide +kernel) (by decide +kernel) (px_name 1 rfl (.inl rfl) (by decide +kernel) (by decide +kernel) px_nil)) (len_name 0 (len_name 1 len_nil)) rfl rfl) (pd_call 23 hK C.c23 hr xc_takes (by rfl) (by decide +kernel) (px_name 0 rfl (.inl rfl) (by decide +kernel) (by decide +kernel) (px_val (pd_b1 (cd_len hK) (by rfl) g.len boot_len (pd_subV 2 hK hu rfl (.inr (.inl rfl)) (by decide +kernel) (by decide +kernel) (pd_con pe_int fun _ => .int _) fun _ _ => rfl) (by decide) (by decide +kernel) rfl) px_nil rfl)) (len_name 0 (len_val len_nil)) rfl rfl) (pgs_cons (pg_name (i := 5) nd rfl (.inr rfl) (.inl rfl)) (pgs_cons (pg_name (i := 6) nd rfl (.inr rfl) (.inl rfl)) pgs_nil rfl) rfl) rfl rfl rfl rfl rfl rfl rfl)
    (sx_cons (sx_set nd rfl (.inr rfl) (pd_call 24 hK C.c24 hr xc_takes (by rfl) (by decide +kernel) (px_name 0 rfl (.inl rfl) (by decide +kernel) (by decide +kernel) (px_val (pd_lst (pl_cons (pd_tup (pl_cons (pd_con pe_int fun _ => .int _) (pl_cons (pd_con pe_int fun _ => .int _) pl_nil rfl) rfl)) (pl_cons (pd_tup (pl_cons (pd_con pe_int fun _ => .int _) (pl_cons (pd_con pe_int fun _ => .int _) pl_nil rfl) rfl)) (pl_cons (pd_tup (pl_cons (pd_un ud_neg (pd_con pe_int fun _ => .int _)) (pl_cons (pd_con pe_int fun _ => .int _) pl_nil rfl) rfl)) (pl_cons (pd_tup (pl_cons (pd_con pe_int fun _ => .int _) (pl_cons (pd_con pe_int fun _ => .int _) pl_nil rfl) rfl)) (pl_cons (pd_tup (pl_cons (pd_con pe_int fun _ => .int _) (pl_cons (pd_con pe_int fun _ => .int _) pl_nil rfl) rfl)) pl_nil rfl) rfl) rfl) rfl) rfl)) px_nil rfl)) (len_name 0 (len_val len_nil)) rfl rfl) rfl (.inl rfl))
    (sx_one (sx_ret (pd_t1 (cd_tuple hK) (by rfl) g.tuple PyProof.Rows.boot_tuple (pd_lcV rfl nd (ti_e (ti_rg1 (by rfl) g.range (pl_cons (pd_var 1 rfl (.inl rfl) (by decide +kernel) (by decide +kernel)) pl_nil rfl) rfl)) (blk_of (N := N38) (own := [("_law_here", 8)]) (by kernel_rfl)) rfl (by decide) (fun _ _ _ _ _ => (tg_name (pg_name nd rfl (.inr rfl) (.inl rfl)))) (fun _ _ _ _ _ => pts_none) (fun _ _ _ _ _ => (pd_t1 (cd_tuple hK) (by rfl) g.tuple PyProof.Rows.boot_tuple (pd_lcV rfl nd (ti_e (ti_rg1 (by rfl) g.range (pl_cons (pd_b1 (cd_len hK) (by rfl) g.len boot_len (pd_subV 2 hK hu rfl (.inr (.inl rfl)) (by decide +kernel) (by decide +kernel) (pd_con pe_int fun _ => .int _) fun _ _ => rfl) (by decide) (by decide +kernel) rfl) pl_nil rfl) rfl)) (blk_of (N := N38) (own := [("_law_there", 10)]) (by kernel_rfl)) rfl (by decide) (fun _ _ _ _ _ => (tg_name (pg_name nd rfl (.inl rfl) (.inr rfl)))) (fun _ _ _ _ _ => pts_none) (fun _ _ _ _ _ => (pd_ite (pq_cmp2 (od_eq hK hu) (pd_tup (pl_cons (pd_var 8 rfl (.inr (.inl rfl)) (by decide +kernel) (by decide +kernel)) (pl_cons (pd_var 10 rfl (.inl rfl) (by decide +kernel) (by decide +kernel)) pl_nil rfl) rfl)) (pd_tup (pl_cons (pd_var 5 rfl (.inr (.inl rfl)) (by decide +kernel) (by decide +kernel)) (pl_cons (pd_var 6 rfl (.inr (.inl rfl)) (by decide +kernel) (by decide +kernel)) pl_nil rfl) rfl)) rfl) (pd_var 7 rfl (.inr (.inl rfl)) (by decide +kernel) (by decide +kernel)) (pd_sub hK hu (pd_subV 2 hK hu rfl (.inr (.inl rfl)) (by decide +kernel) (by decide +kernel) (pd_var 8 rfl (.inr (.inl rfl)) (by decide +kernel) (by decide +kernel)) fun _ _ => rfl) (pd_var 10 rfl (.inl rfl) (by decide +kernel) (by decide +kernel)) fun _ _ => rfl))) (fun _ => rfl)) (by decide) (by decide +kernel) rfl)) (fun _ => rfl)) (by decide) (by decide +kernel) rfl))))) sx_nil)
    (sx_cons (sx_setO nd rfl (.inl rfl) (pd_lst pl_nil) rfl (.inr rfl))
    (sx_cons (sx_for xc_own rfl (ti_rg1 (by rfl) g.range (pl_cons (pd_var 1 rfl (.inl rfl) (by decide +kernel) (by decide +kernel)) pl_nil rfl) rfl) (tg_name (pg_name nd rfl (.inl rfl) (.inr rfl))) (sx_one (sx_app 9 hK rfl (.inl rfl) (by decide +kernel) (by decide +kernel) (pd_t1 (cd_tuple hK) (by rfl) g.tuple PyProof.Rows.boot_tuple (pd_lcV rfl nd (ti_e (ti_zip hK (by rfl) g.zip (pl_cons (pd_subV 2 hK hu rfl (.inr (.inl rfl)) (by decide +kernel) (by decide +kernel) (pd_var 8 rfl (.inl rfl) (by decide +kernel) (by decide +kernel)) fun _ _ => rfl) (pl_cons (pd_subV 3 hK hu rfl (.inl rfl) (by decide +kernel) (by decide +kernel) (pd_var 8 rfl (.inl rfl) (by decide +kernel) (by decide +kernel)) fun _ _ => rfl) pl_nil rfl) rfl) rfl rfl)) (blk_of (N := N38) (own := [("_law_left", 11), ("_law_right", 12)]) (by kernel_rfl)) rfl (by decide) (fun _ _ _ _ _ => (tg_tup (is := [11, 12]) hK rfl (pgs_cons (pg_name (i := 11) nd rfl (.inl rfl) (.inr rfl)) (pgs_cons (pg_name (i := 12) nd rfl (.inl rfl) (.inr rfl)) pgs_nil rfl) rfl) rfl rfl)) (fun _ _ _ _ _ => pts_none) (fun _ _ _ _ _ => (pd_call 31 hK C.c31 hr passL (by rfl) (by decide +kernel) (px_val (pd_lst (pl_cons (pd_tup (pl_cons (pd_subV 11 hK hu rfl (.inl rfl) (by decide +kernel) (by decide +kernel) (pd_con pe_int fun _ => .int _) fun _ _ => rfl) (pl_cons (pd_bin od_mul (pd_con pe_int fun _ => .int _) (pd_subV 11 hK hu rfl (.inl rfl) (by decide +kernel) (by decide +kernel) (pd_con pe_int fun _ => .int _) fun _ _ => rfl)) pl_nil rfl) rfl)) (pl_cons (pd_tup (pl_cons (pd_subV 12 hK hu rfl (.inl rfl) (by decide +kernel) (by decide +kernel) (pd_con pe_int fun _ => .int _) fun _ _ => rfl) (pl_cons (pd_bin od_mul (pd_con pe_int fun _ => .int _) (pd_subV 12 hK hu rfl (.inl rfl) (by decide +kernel) (by decide +kernel) (pd_con pe_int fun _ => .int _) fun _ _ => rfl)) pl_nil rfl) rfl)) pl_nil rfl) rfl)) px_nil rfl) (len_val len_nil) rfl rfl)) (fun _ => rfl)) (by decide) (by decide +kernel) rfl) rfl rfl rfl rfl rfl rfl)) fun _ => rfl)
    (sx_one (sx_ret (pd_t1V 9 (cd_tuple hK) (by rfl) g.tuple PyProof.Rows.boot_tuple (by decide) (by decide +kernel) rfl (.inl rfl) (by decide +kernel) (by decide +kernel))))))))))
theorem w39 (g : GF K w mg) (C : CF P w K mg base k cf) (hr : Room k (A.deeper (envOfC "law" (defScope st39) s.heap.objs.size f cdv))) : PSs (XC P w K mg base N39 "law" (defScope st39) f cdv A outer s H E) (defBody st39) (TSx ⟨K, Gx, Xx, ρ, P0, H, E⟩ (b39 cf)) := by
  have hK : K = K := rfl
  have hu : (A.deeper (envOfC "law" (defScope st39) s.heap.objs.size f cdv)).units + 65 < cLine := xc_units hr
  have nd := sc39.nd
  exact (sx_cell (ps_set nd rfl (.inl rfl) (pd_lst (pl_cons (pd_var 0 rfl (.inl rfl) (by decide +kernel) (by decide +kernel)) (pl_cons (pd_con pe_int fun _ => .int _) (pl_cons (pd_con pe_int fun _ => .int _) (pl_cons (pd_con pe_int fun _ => .int _) pl_nil rfl) rfl) rfl) rfl)) rfl (.inr rfl)) fun ρ2 P2 H2 =>
    (sx_cons (sx_par2 (i := 2) (j := 3) (f := false) (g := false) rfl nd rfl rfl (by decide) rfl rfl (pd_bin (od_add hK) (pd_con pe_int fun _ => .int _) (pd_call 23 hK C.c23 hr xc_takes (by rfl) (by decide +kernel) (px_name 1 rfl (.inl rfl) (by decide +kernel) (by decide +kernel) (px_val (pd_con pe_int fun _ => .int _) px_nil rfl)) (len_name 1 (len_val len_nil)) rfl rfl)) (pd_call 24 hK C.c24 hr xc_takes (by rfl) (by decide +kernel) (px_name 1 rfl (.inl rfl) (by decide +kernel) (by decide +kernel) (px_val (pd_call0 36 hK C.c36 hr xc_takes (by rfl) (by decide +kernel)) px_nil rfl)) (len_name 1 (len_val len_nil)) rfl rfl) rfl rfl rfl rfl)
    (sx_cons (sx_if (PW.pt (pww_or (pq_cmp2 (od_ne hK hu) (pd_call0 21 hK C.c21 hr xc_takes (by rfl) (by decide +kernel)) (pd_t1 (cd_tuple hK) (by rfl) g.tuple PyProof.Rows.boot_tuple (pd_call0 36 hK C.c36 hr xc_takes (by rfl) (by decide +kernel)) (by decide) (by decide +kernel) rfl) rfl) (pw1_or (pq_not (pq_val (pd_call 25 hK C.c25 hr xc_takes (by rfl) (by decide +kernel) (px_val (pd_call 22 hK C.c22 hr xc_takes (by rfl) (by decide +kernel) (px_name 3 rfl (.inl rfl) (by decide +kernel) (by decide +kernel) (px_name 2 rfl (.inl rfl) (by decide +kernel) (by decide +kernel) px_nil)) (len_name 3 (len_name 2 len_nil)) rfl rfl) (px_val (pd_call 37 hK C.c37 hr xc_takes (by rfl) (by decide +kernel) (px_name 3 rfl (.inl rfl) (by decide +kernel) (by decide +kernel) (px_name 2 rfl (.inl rfl) (by decide +kernel) (by decide +kernel) px_nil)) (len_name 3 (len_name 2 len_nil)) rfl rfl) px_nil rfl) rfl) (len_val (len_val len_nil)) rfl rfl) fun _ => rfl))))) (sx_one (sx_ret (pd_con pe_bl fun _ => .bl _))) sx_nil)
    (sx_cons (sx_par3 (i := 4) (j := 5) (l := 6) (f := false) (g := false) (h := false) rfl nd rfl rfl rfl (by decide) (by decide) (by decide) rfl rfl rfl (pd_call 38 hK C.c38 hr xc_takes (by rfl) (by decide +kernel) (px_name 1 rfl (.inl rfl) (by decide +kernel) (by decide +kernel) (px_name 2 rfl (.inl rfl) (by decide +kernel) (by decide +kernel) px_nil)) (len_name 1 (len_name 2 len_nil)) rfl rfl) (pd_call 34 hK C.c34 hr xc_takes (by rfl) (by decide +kernel) (px_name 1 rfl (.inl rfl) (by decide +kernel) (by decide +kernel) (px_name 2 rfl (.inl rfl) (by decide +kernel) (by decide +kernel) px_nil)) (len_name 1 (len_name 2 len_nil)) rfl rfl) (pd_call 34 hK C.c34 hr xc_takes (by rfl) (by decide +kernel) (px_name 1 rfl (.inl rfl) (by decide +kernel) (by decide +kernel) (px_name 2 rfl (.inl rfl) (by decide +kernel) (by decide +kernel) px_nil)) (len_name 1 (len_name 2 len_nil)) rfl rfl) rfl rfl rfl rfl rfl)
    (sx_cons (sx_if (pq_not (pq_val (pd_call 25 hK C.c25 hr xc_takes (by rfl) (by decide +kernel) (px_val (pd_call 16 hK C.c16 hr xc_takes (by rfl) (by decide +kernel) (px_name 4 rfl (.inl rfl) (by decide +kernel) (by decide +kernel) (px_name 5 rfl (.inl rfl) (by decide +kernel) (by decide +kernel) px_nil)) (len_name 4 (len_name 5 len_nil)) rfl rfl) (px_val (pd_call 32 hK C.c32 hr xc_takes (by rfl) (by decide +kernel) (px_name 4 rfl (.inl rfl) (by decide +kernel) (by decide +kernel) (px_name 5 rfl (.inl rfl) (by decide +kernel) (by decide +kernel) px_nil)) (len_name 4 (len_name 5 len_nil)) rfl rfl) px_nil rfl) rfl) (len_val (len_val len_nil)) rfl rfl) fun _ => rfl)) (sx_one (sx_ret (pd_con pe_bl fun _ => .bl _))) sx_nil)
    (sx_cons (sx_set nd rfl (.inl rfl) (pd_t1 (cd_tuple hK) (by rfl) g.tuple PyProof.Rows.boot_tuple (pd_lcV rfl nd (ti_e (ti_zip hK (by rfl) g.zip (pl_cons (pd_var 5 rfl (.inl rfl) (by decide +kernel) (by decide +kernel)) (pl_cons (pd_var 6 rfl (.inl rfl) (by decide +kernel) (by decide +kernel)) pl_nil rfl) rfl) rfl rfl)) (blk_of (N := N39) (own := [("_law_one", 10), ("_law_more", 11)]) (by kernel_rfl)) rfl (by decide) (fun _ _ _ _ _ => (tg_tup (is := [10, 11]) hK rfl (pgs_cons (pg_name (i := 10) nd rfl (.inl rfl) (.inr rfl)) (pgs_cons (pg_name (i := 11) nd rfl (.inl rfl) (.inr rfl)) pgs_nil rfl) rfl) rfl rfl)) (fun _ _ _ _ _ => pts_none) (fun _ _ _ _ _ => (pd_bin (od_add hK) (pd_var 10 rfl (.inl rfl) (by decide +kernel) (by decide +kernel)) (pd_var 11 rfl (.inl rfl) (by decide +kernel) (by decide +kernel)))) (fun _ => rfl)) (by decide) (by decide +kernel) rfl) rfl (.inr rfl))
    (sx_cons (sx_par2 (i := 8) (j := 9) (f := false) (g := false) rfl nd rfl rfl (by decide) rfl rfl (pd_call 16 hK C.c16 hr xc_takes (by rfl) (by decide +kernel) (px_name 4 rfl (.inl rfl) (by decide +kernel) (by decide +kernel) (px_name 5 rfl (.inl rfl) (by decide +kernel) (by decide +kernel) px_nil)) (len_name 4 (len_name 5 len_nil)) rfl rfl) (pd_call 16 hK C.c16 hr xc_takes (by rfl) (by decide +kernel) (px_name 4 rfl (.inl rfl) (by decide +kernel) (by decide +kernel) (px_name 6 rfl (.inl rfl) (by decide +kernel) (by decide +kernel) px_nil)) (len_name 4 (len_name 6 len_nil)) rfl rfl) rfl rfl rfl rfl)
    (sx_one (sx_ret (pd_cmp (od_eq hK hu) (pd_call 16 hK C.c16 hr xc_takes (by rfl) (by decide +kernel) (px_name 4 rfl (.inl rfl) (by decide +kernel) (by decide +kernel) (px_name 7 rfl (.inl rfl) (by decide +kernel) (by decide +kernel) px_nil)) (len_name 4 (len_name 7 len_nil)) rfl rfl) (pd_t1 (cd_tuple hK) (by rfl) g.tuple PyProof.Rows.boot_tuple (pd_lcV rfl nd (ti_e (ti_zip hK (by rfl) g.zip (pl_cons (pd_var 8 rfl (.inl rfl) (by decide +kernel) (by decide +kernel)) (pl_cons (pd_var 9 rfl (.inl rfl) (by decide +kernel) (by decide +kernel)) pl_nil rfl) rfl) rfl rfl)) (blk_of (N := N39) (own := [("_law_one", 10), ("_law_more", 11)]) (by kernel_rfl)) rfl (by decide) (fun _ _ _ _ _ => (tg_tup (is := [10, 11]) hK rfl (pgs_cons (pg_name (i := 10) nd rfl (.inl rfl) (.inr rfl)) (pgs_cons (pg_name (i := 11) nd rfl (.inl rfl) (.inr rfl)) pgs_nil rfl) rfl) rfl rfl)) (fun _ _ _ _ _ => pts_none) (fun _ _ _ _ _ => (pd_call 31 hK C.c31 hr passL (by rfl) (by decide +kernel) (px_val (pd_lst (pl_cons (pd_var 10 rfl (.inl rfl) (by decide +kernel) (by decide +kernel)) (pl_cons (pd_var 11 rfl (.inl rfl) (by decide +kernel) (by decide +kernel)) pl_nil rfl) rfl)) px_nil rfl) (len_val len_nil) rfl rfl)) (fun _ => rfl)) (by decide) (by decide +kernel) rfl) rfl))))))))))
end
/-! ### the calls, to any depth -/
def bodyOf : Nat → (Nat → List Pv.Arg → Sto → Out R) → Sx
  | 0 => b0
  | 1 => b1
  | 2 => b2
  | 3 => b3
  | 4 => b4
  | 5 => b5
  | 6 => b6
  | 7 => b7
  | 8 => b8
  | 9 => b9
  | 10 => b10
  | 11 => b11
  | 12 => b12
  | 13 => b13
  | 14 => b14
  | 15 => b15
  | 16 => b16
  | 17 => b17
  | 18 => b18
  | 19 => b19
  | 20 => b20
  | 21 => b21
  | 22 => b22
  | 23 => b23
  | 24 => b24
  | 25 => b25
  | 26 => b26
  | 27 => b27
  | 28 => b28
  | 29 => b29
  | 30 => b30
  | 31 => b31
  | 32 => b32
  | 33 => b33
  | 34 => b34
  | 35 => b35
  | 36 => b36
  | 37 => b37
  | 38 => b38
  | 39 => b39
  | _ => fun _ => nope
def wide : Nat → Nat
  | 0 => 1
  | 1 => 1
  | 2 => 5
  | 3 => 2
  | 4 => 1
  | 5 => 3
  | 6 => 2
  | 7 => 3
  | 8 => 2
  | 9 => 2
  | 10 => 3
  | 11 => 2
  | 12 => 6
  | 13 => 1
  | 14 => 5
  | 15 => 2
  | 16 => 2
  | 17 => 3
  | 18 => 6
  | 19 => 2
  | 20 => 7
  | 21 => 0
  | 22 => 4
  | 23 => 4
  | 24 => 2
  | 25 => 3
  | 26 => 8
  | 27 => 3
  | 28 => 3
  | 29 => 3
  | 30 => 4
  | 31 => 4
  | 32 => 4
  | 33 => 4
  | 34 => 11
  | 35 => 12
  | 36 => 0
  | 37 => 4
  | 38 => 13
  | 39 => 12
  | _ => 0
def call : Nat → Nat → List Pv.Arg → Sto → Out R
  | 0 => fun _ _ _ => .bad
  | k + 1 => fun i => runF (bodyOf i (call k)) (wide i)
structure DF (K : PySem.W.Frag) (mg : Str → Option Value) : Prop where
  d0 : ∃ f fd, FunD K "is_integer" "is_integer" (defArgs st0) (defBody st0) (defScope st0) [] [] f fd ∧ mg "is_integer" = some (.ref f)
  d1 : ∃ f fd, FunD K "need_many" "need_many" (defArgs st1) (defBody st1) (defScope st1) [] [] f fd ∧ mg "need_many" = some (.ref f)
  d2 : ∃ f fd, FunD K "groups_of" "groups_of" (defArgs st2) (defBody st2) (defScope st2) [] [] f fd ∧ mg "groups_of" = some (.ref f)
  d3 : ∃ f fd, FunD K "need_game" "need_game" (defArgs st3) (defBody st3) (defScope st3) [] [] f fd ∧ mg "need_game" = some (.ref f)
  d4 : ∃ f fd, FunD K "people_in" "people_in" (defArgs st4) (defBody st4) (defScope st4) [] [] f fd ∧ mg "people_in" = some (.ref f)
  d5 : ∃ f fd, FunD K "others" "others" (defArgs st5) (defBody st5) (defScope st5) [] [] f fd ∧ mg "others" = some (.ref f)
  d6 : ∃ f fd, FunD K "common" "common" (defArgs st6) (defBody st6) (defScope st6) [] [] f fd ∧ mg "common" = some (.ref f)
  d7 : ∃ f fd, FunD K "ratio" "ratio" (defArgs st7) (defBody st7) (defScope st7) [] [] f fd ∧ mg "ratio" = some (.ref f)
  d8 : ∃ f fd, FunD K "plus" "plus" (defArgs st8) (defBody st8) (defScope st8) [] [] f fd ∧ mg "plus" = some (.ref f)
  d9 : ∃ f fd, FunD K "times" "times" (defArgs st9) (defBody st9) (defScope st9) [] [] f fd ∧ mg "times" = some (.ref f)
  d10 : ∃ f fd, FunD K "total" "total" (defArgs st10) (defBody st10) (defScope st10) [] [] f fd ∧ mg "total" = some (.ref f)
  d11 : ∃ f fd, FunD K "is_ratio" "is_ratio" (defArgs st11) (defBody st11) (defScope st11) [] [] f fd ∧ mg "is_ratio" = some (.ref f)
  d12 : ∃ f fd, FunD K "need_rule" "need_rule" (defArgs st12) (defBody st12) (defScope st12) [] [] f fd ∧ mg "need_rule" = some (.ref f)
  d13 : ∃ f fd, FunD K "is_part" "is_part" (defArgs st13) (defBody st13) (defScope st13) [] [] f fd ∧ mg "is_part" = some (.ref f)
  d14 : ∃ f fd, FunD K "shares_of" "shares_of" (defArgs st14) (defBody st14) (defScope st14) [] [] f fd ∧ mg "shares_of" = some (.ref f)
  d15 : ∃ f fd, FunD K "need_fit" "need_fit" (defArgs st15) (defBody st15) (defScope st15) [] [] f fd ∧ mg "need_fit" = some (.ref f)
  d16 : ∃ f fd, FunD K "shares" "shares" (defArgs st16) (defBody st16) (defScope st16) [] [] f fd ∧ mg "shares" = some (.ref f)
  d17 : ∃ f fd, FunD K "factorial" "factorial" (defArgs st17) (defBody st17) (defScope st17) [] [] f fd ∧ mg "factorial" = some (.ref f)
  d18 : ∃ f fd, FunD K "weight" "weight" (defArgs st18) (defBody st18) (defScope st18) [] [] f fd ∧ mg "weight" = some (.ref f)
  d19 : ∃ f fd, FunD K "turn_part" "turn_part" (defArgs st19) (defBody st19) (defScope st19) [] [] f fd ∧ mg "turn_part" = some (.ref f)
  d20 : ∃ f fd, FunD K "part_of" "part_of" (defArgs st20) (defBody st20) (defScope st20) [] [] f fd ∧ mg "part_of" = some (.ref f)
  d21 : ∃ f fd, FunD K "names" "names" (defArgs st21) (defBody st21) (defScope st21) [] [] f fd ∧ mg "names" = some (.ref f)
  d22 : ∃ f fd, FunD K "told_rule" "told_rule" (defArgs st22) (defBody st22) (defScope st22) [] [] f fd ∧ mg "told_rule" = some (.ref f)
  d23 : ∃ f fd, FunD K "_law_taken" "_law_taken" (defArgs st23) (defBody st23) (defScope st23) [] [] f fd ∧ mg "_law_taken" = some (.ref f)
  d24 : ∃ f fd, FunD K "_law_pick" "_law_pick" (defArgs st24) (defBody st24) (defScope st24) [] [] f fd ∧ mg "_law_pick" = some (.ref f)
  d25 : ∃ f fd, FunD K "_law_alike" "_law_alike" (defArgs st25) (defBody st25) (defScope st25) [] [] f fd ∧ mg "_law_alike" = some (.ref f)
  d26 : ∃ f fd, FunD K "_law_groups" "_law_groups" (defArgs st26) (defBody st26) (defScope st26) [] [] f fd ∧ mg "_law_groups" = some (.ref f)
  d27 : ∃ f fd, FunD K "_law_worths" "_law_worths" (defArgs st27) (defBody st27) (defScope st27) [] [] f fd ∧ mg "_law_worths" = some (.ref f)
  d28 : ∃ f fd, FunD K "_law_with" "_law_with" (defArgs st28) (defBody st28) (defScope st28) [] [] f fd ∧ mg "_law_with" = some (.ref f)
  d29 : ∃ f fd, FunD K "_law_less" "_law_less" (defArgs st29) (defBody st29) (defScope st29) [] [] f fd ∧ mg "_law_less" = some (.ref f)
  d30 : ∃ f fd, FunD K "_law_ratio" "_law_ratio" (defArgs st30) (defBody st30) (defScope st30) [] [] f fd ∧ mg "_law_ratio" = some (.ref f)
  d31 : ∃ f fd, FunD K "_law_sum" "_law_sum" (defArgs st31) (defBody st31) (defScope st31) [] [] f fd ∧ mg "_law_sum" = some (.ref f)
  d32 : ∃ f fd, FunD K "_law_shares" "_law_shares" (defArgs st32) (defBody st32) (defScope st32) [] [] f fd ∧ mg "_law_shares" = some (.ref f)
  d33 : ∃ f fd, FunD K "_law_orders" "_law_orders" (defArgs st33) (defBody st33) (defScope st33) [] [] f fd ∧ mg "_law_orders" = some (.ref f)
  d34 : ∃ f fd, FunD K "_law_game" "_law_game" (defArgs st34) (defBody st34) (defScope st34) [] [] f fd ∧ mg "_law_game" = some (.ref f)
  d35 : ∃ f fd, FunD K "_law_part" "_law_part" (defArgs st35) (defBody st35) (defScope st35) [] [] f fd ∧ mg "_law_part" = some (.ref f)
  d36 : ∃ f fd, FunD K "_law_names" "_law_names" (defArgs st36) (defBody st36) (defScope st36) [] [] f fd ∧ mg "_law_names" = some (.ref f)
  d37 : ∃ f fd, FunD K "_law_rule" "_law_rule" (defArgs st37) (defBody st37) (defScope st37) [] [] f fd ∧ mg "_law_rule" = some (.ref f)
  d38 : ∃ f fd, FunD K "_law_mixed" "_law_mixed" (defArgs st38) (defBody st38) (defScope st38) [] [] f fd ∧ mg "_law_mixed" = some (.ref f)
  d39 : ∃ f fd, FunD K "law" "law" (defArgs st39) (defBody st39) (defScope st39) [] [] f fd ∧ mg "law" = some (.ref f)
section
variable {P : Program} {w : World} {K : PySem.W.Frag} {mg : Str → Option Value} {base : Heap}
theorem cf_zero (d : DF K mg) : CF P w K mg base 1 (call 0) where
  c0 := let ⟨_, _, F, hm⟩ := d.d0; callee_mk F hm (F.bindsN fun _ _ _ _ _ _ us hl => match us, hl with | [_], _ => rfl) (fn_bad F sc0 rfl)
  c1 := let ⟨_, _, F, hm⟩ := d.d1; callee_mk F hm (F.bindsN fun _ _ _ _ _ _ us hl => match us, hl with | [_], _ => rfl) (fn_bad F sc1 rfl)
  c2 := let ⟨_, _, F, hm⟩ := d.d2; callee_mk F hm (F.bindsN fun _ _ _ _ _ _ us hl => match us, hl with | [_], _ => rfl) (fn_bad F sc2 rfl)
  c3 := let ⟨_, _, F, hm⟩ := d.d3; callee_mk F hm (F.bindsN fun _ _ _ _ _ _ us hl => match us, hl with | [_], _ => rfl) (fn_bad F sc3 rfl)
  c4 := let ⟨_, _, F, hm⟩ := d.d4; callee_mk F hm (F.bindsN fun _ _ _ _ _ _ us hl => match us, hl with | [_], _ => rfl) (fn_bad F sc4 rfl)
  c5 := let ⟨_, _, F, hm⟩ := d.d5; callee_mk F hm (F.bindsN fun _ _ _ _ _ _ us hl => match us, hl with | [_, _], _ => rfl) (fn_bad F sc5 rfl)
  c6 := let ⟨_, _, F, hm⟩ := d.d6; callee_mk F hm (F.bindsN fun _ _ _ _ _ _ us hl => match us, hl with | [_, _], _ => rfl) (fn_bad F sc6 rfl)
  c7 := let ⟨_, _, F, hm⟩ := d.d7; callee_mk F hm (F.bindsN fun _ _ _ _ _ _ us hl => match us, hl with | [_, _], _ => rfl) (fn_bad F sc7 rfl)
  c8 := let ⟨_, _, F, hm⟩ := d.d8; callee_mk F hm (F.bindsN fun _ _ _ _ _ _ us hl => match us, hl with | [_, _], _ => rfl) (fn_bad F sc8 rfl)
  c9 := let ⟨_, _, F, hm⟩ := d.d9; callee_mk F hm (F.bindsN fun _ _ _ _ _ _ us hl => match us, hl with | [_, _], _ => rfl) (fn_bad F sc9 rfl)
  c10 := let ⟨_, _, F, hm⟩ := d.d10; callee_mk F hm (F.bindsN fun _ _ _ _ _ _ us hl => match us, hl with | [_], _ => rfl) (fn_bad F sc10 rfl)
  c11 := let ⟨_, _, F, hm⟩ := d.d11; callee_mk F hm (F.bindsN fun _ _ _ _ _ _ us hl => match us, hl with | [_], _ => rfl) (fn_bad F sc11 rfl)
  c12 := let ⟨_, _, F, hm⟩ := d.d12; callee_mk F hm (F.bindsN fun _ _ _ _ _ _ us hl => match us, hl with | [_], _ => rfl) (fn_bad F sc12 rfl)
  c13 := let ⟨_, _, F, hm⟩ := d.d13; callee_mk F hm (F.bindsN fun _ _ _ _ _ _ us hl => match us, hl with | [_], _ => rfl) (fn_bad F sc13 rfl)
  c14 := let ⟨_, _, F, hm⟩ := d.d14; callee_mk F hm (F.bindsN fun _ _ _ _ _ _ us hl => match us, hl with | [_, _], _ => rfl) (fn_bad F sc14 rfl)
  c15 := let ⟨_, _, F, hm⟩ := d.d15; callee_mk F hm (F.bindsN fun _ _ _ _ _ _ us hl => match us, hl with | [_, _], _ => rfl) (fn_bad F sc15 rfl)
  c16 := let ⟨_, _, F, hm⟩ := d.d16; callee_mk F hm (F.bindsN fun _ _ _ _ _ _ us hl => match us, hl with | [_, _], _ => rfl) (fn_bad F sc16 rfl)
  c17 := let ⟨_, _, F, hm⟩ := d.d17; callee_mk F hm (F.bindsN fun _ _ _ _ _ _ us hl => match us, hl with | [_], _ => rfl) (fn_bad F sc17 rfl)
  c18 := let ⟨_, _, F, hm⟩ := d.d18; callee_mk F hm (F.bindsN fun _ _ _ _ _ _ us hl => match us, hl with | [_, _, _, _], _ => rfl) (fn_bad F sc18 rfl)
  c19 := let ⟨_, _, F, hm⟩ := d.d19; callee_mk F hm (F.bindsN fun _ _ _ _ _ _ us hl => match us, hl with | [_, _], _ => rfl) (fn_bad F sc19 rfl)
  c20 := let ⟨_, _, F, hm⟩ := d.d20; callee_mk F hm (F.bindsN fun _ _ _ _ _ _ us hl => match us, hl with | [_, _, _, _], _ => rfl) (fn_bad F sc20 rfl)
  c21 := let ⟨_, _, F, hm⟩ := d.d21; callee_mk F hm (F.bindsN fun _ _ _ _ _ _ us hl => match us, hl with | [], _ => rfl) (fn_bad F sc21 rfl)
  c22 := let ⟨_, _, F, hm⟩ := d.d22; callee_mk F hm (F.bindsN fun _ _ _ _ _ _ us hl => match us, hl with | [_, _], _ => rfl) (fn_bad F sc22 rfl)
  c23 := let ⟨_, _, F, hm⟩ := d.d23; callee_mk F hm (F.bindsN fun _ _ _ _ _ _ us hl => match us, hl with | [_, _], _ => rfl) (fn_bad F sc23 rfl)
  c24 := let ⟨_, _, F, hm⟩ := d.d24; callee_mk F hm (F.bindsN fun _ _ _ _ _ _ us hl => match us, hl with | [_, _], _ => rfl) (fn_bad F sc24 rfl)
  c25 := let ⟨_, _, F, hm⟩ := d.d25; callee_mk F hm (F.bindsN fun _ _ _ _ _ _ us hl => match us, hl with | [_, _], _ => rfl) (fn_bad F sc25 rfl)
  c26 := let ⟨_, _, F, hm⟩ := d.d26; callee_mk F hm (F.bindsN fun _ _ _ _ _ _ us hl => match us, hl with | [_], _ => rfl) (fn_bad F sc26 rfl)
  c27 := let ⟨_, _, F, hm⟩ := d.d27; callee_mk F hm (F.bindsN fun _ _ _ _ _ _ us hl => match us, hl with | [_, _], _ => rfl) (fn_bad F sc27 rfl)
  c28 := let ⟨_, _, F, hm⟩ := d.d28; callee_mk F hm (F.bindsN fun _ _ _ _ _ _ us hl => match us, hl with | [_, _], _ => rfl) (fn_bad F sc28 rfl)
  c29 := let ⟨_, _, F, hm⟩ := d.d29; callee_mk F hm (F.bindsN fun _ _ _ _ _ _ us hl => match us, hl with | [_, _], _ => rfl) (fn_bad F sc29 rfl)
  c30 := let ⟨_, _, F, hm⟩ := d.d30; callee_mk F hm (F.bindsN fun _ _ _ _ _ _ us hl => match us, hl with | [_, _], _ => rfl) (fn_bad F sc30 rfl)
  c31 := let ⟨_, _, F, hm⟩ := d.d31; callee_mk F hm (F.bindsN fun _ _ _ _ _ _ us hl => match us, hl with | [_], _ => rfl) (fn_bad F sc31 rfl)
  c32 := let ⟨_, _, F, hm⟩ := d.d32; callee_mk F hm (F.bindsN fun _ _ _ _ _ _ us hl => match us, hl with | [_, _], _ => rfl) (fn_bad F sc32 rfl)
  c33 := let ⟨_, _, F, hm⟩ := d.d33; callee_mk F hm (F.bindsN fun _ _ _ _ _ _ us hl => match us, hl with | [_], _ => rfl) (fn_bad F sc33 rfl)
  c34 := let ⟨_, _, F, hm⟩ := d.d34; callee_mk F hm (F.bindsN fun _ _ _ _ _ _ us hl => match us, hl with | [_, _], _ => rfl) (fn_bad F sc34 rfl)
  c35 := let ⟨_, _, F, hm⟩ := d.d35; callee_mk F hm (F.bindsN fun _ _ _ _ _ _ us hl => match us, hl with | [_, _, _, _], _ => rfl) (fn_bad F sc35 rfl)
  c36 := let ⟨_, _, F, hm⟩ := d.d36; callee_mk F hm (F.bindsN fun _ _ _ _ _ _ us hl => match us, hl with | [], _ => rfl) (fn_bad F sc36 rfl)
  c37 := let ⟨_, _, F, hm⟩ := d.d37; callee_mk F hm (F.bindsN fun _ _ _ _ _ _ us hl => match us, hl with | [_, _], _ => rfl) (fn_bad F sc37 rfl)
  c38 := let ⟨_, _, F, hm⟩ := d.d38; callee_mk F hm (F.bindsN fun _ _ _ _ _ _ us hl => match us, hl with | [_, _], _ => rfl) (fn_bad F sc38 rfl)
  c39 := let ⟨_, _, F, hm⟩ := d.d39; callee_mk F hm (F.bindsN fun _ _ _ _ _ _ us hl => match us, hl with | [_], _ => rfl) (fn_bad F sc39 rfl)
theorem cf_succ (g : GF K w mg) (d : DF K mg) {k : Nat} (C : CF P w K mg base (k + 1) (call k)) : CF P w K mg base (k + 2) (call (k + 1)) where
  c0 := let ⟨_, _, F, hm⟩ := d.d0; callee_mk F hm (F.bindsN fun _ _ _ _ _ _ us hl => match us, hl with | [_], _ => rfl) (fn_ok (k := k + 1) F sc0 rfl rfl fun _ _ _ _ _ _ _ _ hr => w0 g C hr)
  c1 := let ⟨_, _, F, hm⟩ := d.d1; callee_mk F hm (F.bindsN fun _ _ _ _ _ _ us hl => match us, hl with | [_], _ => rfl) (fn_ok (k := k + 1) F sc1 rfl rfl fun _ _ _ _ _ _ _ _ hr => w1 g C hr)
  c2 := let ⟨_, _, F, hm⟩ := d.d2; callee_mk F hm (F.bindsN fun _ _ _ _ _ _ us hl => match us, hl with | [_], _ => rfl) (fn_ok (k := k + 1) F sc2 rfl rfl fun _ _ _ _ _ _ _ _ hr => w2 g C hr)
  c3 := let ⟨_, _, F, hm⟩ := d.d3; callee_mk F hm (F.bindsN fun _ _ _ _ _ _ us hl => match us, hl with | [_], _ => rfl) (fn_ok (k := k + 1) F sc3 rfl rfl fun _ _ _ _ _ _ _ _ hr => w3 g C hr)
  c4 := let ⟨_, _, F, hm⟩ := d.d4; callee_mk F hm (F.bindsN fun _ _ _ _ _ _ us hl => match us, hl with | [_], _ => rfl) (fn_ok (k := k + 1) F sc4 rfl rfl fun _ _ _ _ _ _ _ _ hr => w4 g C hr)
  c5 := let ⟨_, _, F, hm⟩ := d.d5; callee_mk F hm (F.bindsN fun _ _ _ _ _ _ us hl => match us, hl with | [_, _], _ => rfl) (fn_ok (k := k + 1) F sc5 rfl rfl fun _ _ _ _ _ _ _ _ hr => w5 g C hr)
  c6 := let ⟨_, _, F, hm⟩ := d.d6; callee_mk F hm (F.bindsN fun _ _ _ _ _ _ us hl => match us, hl with | [_, _], _ => rfl) (fn_ok (k := k + 1) F sc6 rfl rfl fun _ _ _ _ _ _ _ _ hr => w6 g C hr)
  c7 := let ⟨_, _, F, hm⟩ := d.d7; callee_mk F hm (F.bindsN fun _ _ _ _ _ _ us hl => match us, hl with | [_, _], _ => rfl) (fn_ok (k := k + 1) F sc7 rfl rfl fun _ _ _ _ _ _ _ _ hr => w7 g C hr)
  c8 := let ⟨_, _, F, hm⟩ := d.d8; callee_mk F hm (F.bindsN fun _ _ _ _ _ _ us hl => match us, hl with | [_, _], _ => rfl) (fn_ok (k := k + 1) F sc8 rfl rfl fun _ _ _ _ _ _ _ _ hr => w8 g C hr)
  c9 := let ⟨_, _, F, hm⟩ := d.d9; callee_mk F hm (F.bindsN fun _ _ _ _ _ _ us hl => match us, hl with | [_, _], _ => rfl) (fn_ok (k := k + 1) F sc9 rfl rfl fun _ _ _ _ _ _ _ _ hr => w9 g C hr)
  c10 := let ⟨_, _, F, hm⟩ := d.d10; callee_mk F hm (F.bindsN fun _ _ _ _ _ _ us hl => match us, hl with | [_], _ => rfl) (fn_ok (k := k + 1) F sc10 rfl rfl fun _ _ _ _ _ _ _ _ hr => w10 g C hr)
  c11 := let ⟨_, _, F, hm⟩ := d.d11; callee_mk F hm (F.bindsN fun _ _ _ _ _ _ us hl => match us, hl with | [_], _ => rfl) (fn_ok (k := k + 1) F sc11 rfl rfl fun _ _ _ _ _ _ _ _ hr => w11 g C hr)
  c12 := let ⟨_, _, F, hm⟩ := d.d12; callee_mk F hm (F.bindsN fun _ _ _ _ _ _ us hl => match us, hl with | [_], _ => rfl) (fn_ok (k := k + 1) F sc12 rfl rfl fun _ _ _ _ _ _ _ _ hr => w12 g C hr)
  c13 := let ⟨_, _, F, hm⟩ := d.d13; callee_mk F hm (F.bindsN fun _ _ _ _ _ _ us hl => match us, hl with | [_], _ => rfl) (fn_ok (k := k + 1) F sc13 rfl rfl fun _ _ _ _ _ _ _ _ hr => w13 g C hr)
  c14 := let ⟨_, _, F, hm⟩ := d.d14; callee_mk F hm (F.bindsN fun _ _ _ _ _ _ us hl => match us, hl with | [_, _], _ => rfl) (fn_ok (k := k + 1) F sc14 rfl rfl fun _ _ _ _ _ _ _ _ hr => w14 g C hr)
  c15 := let ⟨_, _, F, hm⟩ := d.d15; callee_mk F hm (F.bindsN fun _ _ _ _ _ _ us hl => match us, hl with | [_, _], _ => rfl) (fn_ok (k := k + 1) F sc15 rfl rfl fun _ _ _ _ _ _ _ _ hr => w15 g C hr)
  c16 := let ⟨_, _, F, hm⟩ := d.d16; callee_mk F hm (F.bindsN fun _ _ _ _ _ _ us hl => match us, hl with | [_, _], _ => rfl) (fn_ok (k := k + 1) F sc16 rfl rfl fun _ _ _ _ _ _ _ _ hr => w16 g C hr)
  c17 := let ⟨_, _, F, hm⟩ := d.d17; callee_mk F hm (F.bindsN fun _ _ _ _ _ _ us hl => match us, hl with | [_], _ => rfl) (fn_ok (k := k + 1) F sc17 rfl rfl fun _ _ _ _ _ _ _ _ hr => w17 g C hr)
  c18 := let ⟨_, _, F, hm⟩ := d.d18; callee_mk F hm (F.bindsN fun _ _ _ _ _ _ us hl => match us, hl with | [_, _, _, _], _ => rfl) (fn_ok (k := k + 1) F sc18 rfl rfl fun _ _ _ _ _ _ _ _ hr => w18 g C hr)
  c19 := let ⟨_, _, F, hm⟩ := d.d19; callee_mk F hm (F.bindsN fun _ _ _ _ _ _ us hl => match us, hl with | [_, _], _ => rfl) (fn_ok (k := k + 1) F sc19 rfl rfl fun _ _ _ _ _ _ _ _ hr => w19 g C hr)
  c20 := let ⟨_, _, F, hm⟩ := d.d20; callee_mk F hm (F.bindsN fun _ _ _ _ _ _ us hl => match us, hl with | [_, _, _, _], _ => rfl) (fn_ok (k := k + 1) F sc20 rfl rfl fun _ _ _ _ _ _ _ _ hr => w20 g C hr)
  c21 := let ⟨_, _, F, hm⟩ := d.d21; callee_mk F hm (F.bindsN fun _ _ _ _ _ _ us hl => match us, hl with | [], _ => rfl) (fn_ok (k := k + 1) F sc21 rfl rfl fun _ _ _ _ _ _ _ _ hr => w21 g C hr)
  c22 := let ⟨_, _, F, hm⟩ := d.d22; callee_mk F hm (F.bindsN fun _ _ _ _ _ _ us hl => match us, hl with | [_, _], _ => rfl) (fn_ok (k := k + 1) F sc22 rfl rfl fun _ _ _ _ _ _ _ _ hr => w22 g C hr)
  c23 := let ⟨_, _, F, hm⟩ := d.d23; callee_mk F hm (F.bindsN fun _ _ _ _ _ _ us hl => match us, hl with | [_, _], _ => rfl) (fn_ok (k := k + 1) F sc23 rfl rfl fun _ _ _ _ _ _ _ _ hr => w23 g C hr)
  c24 := let ⟨_, _, F, hm⟩ := d.d24; callee_mk F hm (F.bindsN fun _ _ _ _ _ _ us hl => match us, hl with | [_, _], _ => rfl) (fn_ok (k := k + 1) F sc24 rfl rfl fun _ _ _ _ _ _ _ _ hr => w24 g C hr)
  c25 := let ⟨_, _, F, hm⟩ := d.d25; callee_mk F hm (F.bindsN fun _ _ _ _ _ _ us hl => match us, hl with | [_, _], _ => rfl) (fn_ok (k := k + 1) F sc25 rfl rfl fun _ _ _ _ _ _ _ _ hr => w25 g C hr)
  c26 := let ⟨_, _, F, hm⟩ := d.d26; callee_mk F hm (F.bindsN fun _ _ _ _ _ _ us hl => match us, hl with | [_], _ => rfl) (fn_ok (k := k + 1) F sc26 rfl rfl fun _ _ _ _ _ _ _ _ hr => w26 g C hr)
  c27 := let ⟨_, _, F, hm⟩ := d.d27; callee_mk F hm (F.bindsN fun _ _ _ _ _ _ us hl => match us, hl with | [_, _], _ => rfl) (fn_ok (k := k + 1) F sc27 rfl rfl fun _ _ _ _ _ _ _ _ hr => w27 g C hr)
  c28 := let ⟨_, _, F, hm⟩ := d.d28; callee_mk F hm (F.bindsN fun _ _ _ _ _ _ us hl => match us, hl with | [_, _], _ => rfl) (fn_ok (k := k + 1) F sc28 rfl rfl fun _ _ _ _ _ _ _ _ hr => w28 g C hr)
  c29 := let ⟨_, _, F, hm⟩ := d.d29; callee_mk F hm (F.bindsN fun _ _ _ _ _ _ us hl => match us, hl with | [_, _], _ => rfl) (fn_ok (k := k + 1) F sc29 rfl rfl fun _ _ _ _ _ _ _ _ hr => w29 g C hr)
  c30 := let ⟨_, _, F, hm⟩ := d.d30; callee_mk F hm (F.bindsN fun _ _ _ _ _ _ us hl => match us, hl with | [_, _], _ => rfl) (fn_ok (k := k + 1) F sc30 rfl rfl fun _ _ _ _ _ _ _ _ hr => w30 g C hr)
  c31 := let ⟨_, _, F, hm⟩ := d.d31; callee_mk F hm (F.bindsN fun _ _ _ _ _ _ us hl => match us, hl with | [_], _ => rfl) (fn_ok (k := k + 1) F sc31 rfl rfl fun _ _ _ _ _ _ _ _ hr => w31 g C hr)
  c32 := let ⟨_, _, F, hm⟩ := d.d32; callee_mk F hm (F.bindsN fun _ _ _ _ _ _ us hl => match us, hl with | [_, _], _ => rfl) (fn_ok (k := k + 1) F sc32 rfl rfl fun _ _ _ _ _ _ _ _ hr => w32 g C hr)
  c33 := let ⟨_, _, F, hm⟩ := d.d33; callee_mk F hm (F.bindsN fun _ _ _ _ _ _ us hl => match us, hl with | [_], _ => rfl) (fn_ok (k := k + 1) F sc33 rfl rfl fun _ _ _ _ _ _ _ _ hr => w33 g C hr)
  c34 := let ⟨_, _, F, hm⟩ := d.d34; callee_mk F hm (F.bindsN fun _ _ _ _ _ _ us hl => match us, hl with | [_, _], _ => rfl) (fn_ok (k := k + 1) F sc34 rfl rfl fun _ _ _ _ _ _ _ _ hr => w34 g C hr)
  c35 := let ⟨_, _, F, hm⟩ := d.d35; callee_mk F hm (F.bindsN fun _ _ _ _ _ _ us hl => match us, hl with | [_, _, _, _], _ => rfl) (fn_ok (k := k + 1) F sc35 rfl rfl fun _ _ _ _ _ _ _ _ hr => w35 g C hr)
  c36 := let ⟨_, _, F, hm⟩ := d.d36; callee_mk F hm (F.bindsN fun _ _ _ _ _ _ us hl => match us, hl with | [], _ => rfl) (fn_ok (k := k + 1) F sc36 rfl rfl fun _ _ _ _ _ _ _ _ hr => w36 g C hr)
  c37 := let ⟨_, _, F, hm⟩ := d.d37; callee_mk F hm (F.bindsN fun _ _ _ _ _ _ us hl => match us, hl with | [_, _], _ => rfl) (fn_ok (k := k + 1) F sc37 rfl rfl fun _ _ _ _ _ _ _ _ hr => w37 g C hr)
  c38 := let ⟨_, _, F, hm⟩ := d.d38; callee_mk F hm (F.bindsN fun _ _ _ _ _ _ us hl => match us, hl with | [_, _], _ => rfl) (fn_ok (k := k + 1) F sc38 rfl rfl fun _ _ _ _ _ _ _ _ hr => w38 g C hr)
  c39 := let ⟨_, _, F, hm⟩ := d.d39; callee_mk F hm (F.bindsN fun _ _ _ _ _ _ us hl => match us, hl with | [_], _ => rfl) (fn_ok (k := k + 1) F sc39 rfl rfl fun _ _ _ _ _ _ _ _ hr => w39 g C hr)
theorem cf_all (g : GF K w mg) (d : DF K mg) : ∀ k, CF P w K mg base (k + 1) (call k)
  | 0 => cf_zero d
  | k + 1 => cf_succ g d (cf_all g d k)
end
end Lk01

set_option Elab.async false
set_option linter.all false
set_option maxRecDepth 100000
set_option maxHeartbeats 0
namespace Lk01
open PySem PySem.Spec PyProof.Rows L2 Pv
/-! ### the head: facts by names -/
def dd0 : He.DefD := ⟨("is_integer", none), "is_integer", "is_integer", defArgs st0, defBody st0, defScope st0, [], []⟩
def dd1 : He.DefD := ⟨("need_many", none), "need_many", "need_many", defArgs st1, defBody st1, defScope st1, [], []⟩
def dd2 : He.DefD := ⟨("groups_of", none), "groups_of", "groups_of", defArgs st2, defBody st2, defScope st2, [], []⟩
def dd3 : He.DefD := ⟨("need_game", none), "need_game", "need_game", defArgs st3, defBody st3, defScope st3, [], []⟩
def dd4 : He.DefD := ⟨("people_in", none), "people_in", "people_in", defArgs st4, defBody st4, defScope st4, [], []⟩
def dd5 : He.DefD := ⟨("others", none), "others", "others", defArgs st5, defBody st5, defScope st5, [], []⟩
def dd6 : He.DefD := ⟨("common", none), "common", "common", defArgs st6, defBody st6, defScope st6, [], []⟩
def dd7 : He.DefD := ⟨("ratio", none), "ratio", "ratio", defArgs st7, defBody st7, defScope st7, [], []⟩
def dd8 : He.DefD := ⟨("plus", none), "plus", "plus", defArgs st8, defBody st8, defScope st8, [], []⟩
def dd9 : He.DefD := ⟨("times", none), "times", "times", defArgs st9, defBody st9, defScope st9, [], []⟩
def dd10 : He.DefD := ⟨("total", none), "total", "total", defArgs st10, defBody st10, defScope st10, [], []⟩
def dd11 : He.DefD := ⟨("is_ratio", none), "is_ratio", "is_ratio", defArgs st11, defBody st11, defScope st11, [], []⟩
def dd12 : He.DefD := ⟨("need_rule", none), "need_rule", "need_rule", defArgs st12, defBody st12, defScope st12, [], []⟩
def dd13 : He.DefD := ⟨("is_part", none), "is_part", "is_part", defArgs st13, defBody st13, defScope st13, [], []⟩
def dd14 : He.DefD := ⟨("shares_of", none), "shares_of", "shares_of", defArgs st14, defBody st14, defScope st14, [], []⟩
def dd15 : He.DefD := ⟨("need_fit", none), "need_fit", "need_fit", defArgs st15, defBody st15, defScope st15, [], []⟩
def dd16 : He.DefD := ⟨("shares", none), "shares", "shares", defArgs st16, defBody st16, defScope st16, [], []⟩
def dd17 : He.DefD := ⟨("factorial", none), "factorial", "factorial", defArgs st17, defBody st17, defScope st17, [], []⟩
def dd18 : He.DefD := ⟨("weight", none), "weight", "weight", defArgs st18, defBody st18, defScope st18, [], []⟩
def dd19 : He.DefD := ⟨("turn_part", none), "turn_part", "turn_part", defArgs st19, defBody st19, defScope st19, [], []⟩
def dd20 : He.DefD := ⟨("part_of", none), "part_of", "part_of", defArgs st20, defBody st20, defScope st20, [], []⟩
def dd21 : He.DefD := ⟨("names", none), "names", "names", defArgs st21, defBody st21, defScope st21, [], []⟩
def dd22 : He.DefD := ⟨("told_rule", none), "told_rule", "told_rule", defArgs st22, defBody st22, defScope st22, [], []⟩
def dd23 : He.DefD := ⟨("_law_taken", none), "_law_taken", "_law_taken", defArgs st23, defBody st23, defScope st23, [], []⟩
def dd24 : He.DefD := ⟨("_law_pick", none), "_law_pick", "_law_pick", defArgs st24, defBody st24, defScope st24, [], []⟩
def dd25 : He.DefD := ⟨("_law_alike", none), "_law_alike", "_law_alike", defArgs st25, defBody st25, defScope st25, [], []⟩
def dd26 : He.DefD := ⟨("_law_groups", none), "_law_groups", "_law_groups", defArgs st26, defBody st26, defScope st26, [], []⟩
def dd27 : He.DefD := ⟨("_law_worths", none), "_law_worths", "_law_worths", defArgs st27, defBody st27, defScope st27, [], []⟩
def dd28 : He.DefD := ⟨("_law_with", none), "_law_with", "_law_with", defArgs st28, defBody st28, defScope st28, [], []⟩
def dd29 : He.DefD := ⟨("_law_less", none), "_law_less", "_law_less", defArgs st29, defBody st29, defScope st29, [], []⟩
def dd30 : He.DefD := ⟨("_law_ratio", none), "_law_ratio", "_law_ratio", defArgs st30, defBody st30, defScope st30, [], []⟩
def dd31 : He.DefD := ⟨("_law_sum", none), "_law_sum", "_law_sum", defArgs st31, defBody st31, defScope st31, [], []⟩
def dd32 : He.DefD := ⟨("_law_shares", none), "_law_shares", "_law_shares", defArgs st32, defBody st32, defScope st32, [], []⟩
def dd33 : He.DefD := ⟨("_law_orders", none), "_law_orders", "_law_orders", defArgs st33, defBody st33, defScope st33, [], []⟩
def dd34 : He.DefD := ⟨("_law_game", none), "_law_game", "_law_game", defArgs st34, defBody st34, defScope st34, [], []⟩
def dd35 : He.DefD := ⟨("_law_part", none), "_law_part", "_law_part", defArgs st35, defBody st35, defScope st35, [], []⟩
def dd36 : He.DefD := ⟨("_law_names", none), "_law_names", "_law_names", defArgs st36, defBody st36, defScope st36, [], []⟩
def dd37 : He.DefD := ⟨("_law_rule", none), "_law_rule", "_law_rule", defArgs st37, defBody st37, defScope st37, [], []⟩
def dd38 : He.DefD := ⟨("_law_mixed", none), "_law_mixed", "_law_mixed", defArgs st38, defBody st38, defScope st38, [], []⟩
def dd39 : He.DefD := ⟨("law", none), "law", "law", defArgs st39, defBody st39, defScope st39, [], []⟩
def fn : List He.DefD := [dd0, dd1, dd2, dd3, dd4, dd5, dd6, dd7, dd8, dd9, dd10, dd11, dd12, dd13, dd14, dd15, dd16, dd17, dd18, dd19, dd20, dd21, dd22, dd23, dd24, dd25, dd26, dd27, dd28, dd29, dd30, dd31, dd32, dd33, dd34, dd35, dd36, dd37, dd38, dd39]
def fa : List He.Fa := [.glo "is_integer", .glo "need_many", .glo "groups_of", .glo "need_game", .glo "people_in", .glo "others", .glo "common", .glo "ratio", .glo "plus", .glo "times", .glo "total", .glo "is_ratio", .glo "need_rule", .glo "is_part", .glo "shares_of", .glo "need_fit", .glo "shares", .glo "factorial", .glo "weight", .glo "turn_part", .glo "part_of", .glo "names", .glo "told_rule", .glo "_law_taken", .glo "_law_pick", .glo "_law_alike", .glo "_law_groups", .glo "_law_worths", .glo "_law_with", .glo "_law_less", .glo "_law_ratio", .glo "_law_sum", .glo "_law_shares", .glo "_law_orders", .glo "_law_game", .glo "_law_part", .glo "_law_names", .glo "_law_rule", .glo "_law_mixed", .glo "law", .free "isinstance", .free "int", .free "bool", .int "MOST_PEOPLE" 4, .free "range", .free "sorted", .free "len", .free "tuple", .glo "SIZES", .free "abs", .int "MOST_WORTH" 1000, .free "all", .free "max", .int "MOST_RATIO" 1000000000000, .free "zip", .glo "NAMES", .free "str", .free "list", .free "dict", .free "sum"]
def xtra : PySem.W.Frag → Bool := fun K => (tabI "SIZES" ti_SIZES K) && ((litC "NAMES" l_NAMES K) && (true))
theorem gf_of {w : World} {K : PySem.W.Frag} {h : Heap} {mg : Str → Option Value} (X : K.In h) (G : h.Ns mainGlobals mg) (c : He.SaysD fa fn K) (xt : xtra K = true) : GF K w mg where
  isinstance := He.free_ok X G (c.fact 40 (f := .free "isinstance") rfl)
  int := He.free_ok X G (c.fact 41 (f := .free "int") rfl)
  bool := He.free_ok X G (c.fact 42 (f := .free "bool") rfl)
  MOST_PEOPLE := He.int_ok X G (c.fact 43 (f := .int "MOST_PEOPLE" 4) rfl)
  range := He.free_ok X G (c.fact 44 (f := .free "range") rfl)
  sorted := He.free_ok X G (c.fact 45 (f := .free "sorted") rfl)
  len := He.free_ok X G (c.fact 46 (f := .free "len") rfl)
  tuple := He.free_ok X G (c.fact 47 (f := .free "tuple") rfl)
  SIZES := ⟨_, He.glo_ok X G (c.fact 48 (f := .glo "SIZES") rfl), tabI_ok (l := ti_SIZES) (Bool.and_eq_true_iff.mp xt).1 (by decide)⟩
  abs := He.free_ok X G (c.fact 49 (f := .free "abs") rfl)
  MOST_WORTH := He.int_ok X G (c.fact 50 (f := .int "MOST_WORTH" 1000) rfl)
  all := He.free_ok X G (c.fact 51 (f := .free "all") rfl)
  max := He.free_ok X G (c.fact 52 (f := .free "max") rfl)
  MOST_RATIO := He.int_ok X G (c.fact 53 (f := .int "MOST_RATIO" 1000000000000) rfl)
  zip := He.free_ok X G (c.fact 54 (f := .free "zip") rfl)
  NAMES := ⟨_, He.glo_ok X G (c.fact 55 (f := .glo "NAMES") rfl), litC_ok (d := l_NAMES) (Bool.and_eq_true_iff.mp (Bool.and_eq_true_iff.mp xt).2).1⟩
  str := He.free_ok X G (c.fact 56 (f := .free "str") rfl)
  list := He.free_ok X G (c.fact 57 (f := .free "list") rfl)
  dict := He.free_ok X G (c.fact 58 (f := .free "dict") rfl)
  sum := He.free_ok X G (c.fact 59 (f := .free "sum") rfl)
theorem df_of {K : PySem.W.Frag} {h : Heap} {mg : Str → Option Value} (X : K.In h) (G : h.Ns mainGlobals mg) (c : He.SaysD fa fn K) : DF K mg where
  d0 := let ⟨fd, F⟩ := c.def_ 0 (d := dd0) rfl; ⟨_, fd, F, He.glo_ok X G (c.fact 0 (f := .glo "is_integer") rfl)⟩
  d1 := let ⟨fd, F⟩ := c.def_ 1 (d := dd1) rfl; ⟨_, fd, F, He.glo_ok X G (c.fact 1 (f := .glo "need_many") rfl)⟩
  d2 := let ⟨fd, F⟩ := c.def_ 2 (d := dd2) rfl; ⟨_, fd, F, He.glo_ok X G (c.fact 2 (f := .glo "groups_of") rfl)⟩
  d3 := let ⟨fd, F⟩ := c.def_ 3 (d := dd3) rfl; ⟨_, fd, F, He.glo_ok X G (c.fact 3 (f := .glo "need_game") rfl)⟩
  d4 := let ⟨fd, F⟩ := c.def_ 4 (d := dd4) rfl; ⟨_, fd, F, He.glo_ok X G (c.fact 4 (f := .glo "people_in") rfl)⟩
  d5 := let ⟨fd, F⟩ := c.def_ 5 (d := dd5) rfl; ⟨_, fd, F, He.glo_ok X G (c.fact 5 (f := .glo "others") rfl)⟩
  d6 := let ⟨fd, F⟩ := c.def_ 6 (d := dd6) rfl; ⟨_, fd, F, He.glo_ok X G (c.fact 6 (f := .glo "common") rfl)⟩
  d7 := let ⟨fd, F⟩ := c.def_ 7 (d := dd7) rfl; ⟨_, fd, F, He.glo_ok X G (c.fact 7 (f := .glo "ratio") rfl)⟩
  d8 := let ⟨fd, F⟩ := c.def_ 8 (d := dd8) rfl; ⟨_, fd, F, He.glo_ok X G (c.fact 8 (f := .glo "plus") rfl)⟩
  d9 := let ⟨fd, F⟩ := c.def_ 9 (d := dd9) rfl; ⟨_, fd, F, He.glo_ok X G (c.fact 9 (f := .glo "times") rfl)⟩
  d10 := let ⟨fd, F⟩ := c.def_ 10 (d := dd10) rfl; ⟨_, fd, F, He.glo_ok X G (c.fact 10 (f := .glo "total") rfl)⟩
  d11 := let ⟨fd, F⟩ := c.def_ 11 (d := dd11) rfl; ⟨_, fd, F, He.glo_ok X G (c.fact 11 (f := .glo "is_ratio") rfl)⟩
  d12 := let ⟨fd, F⟩ := c.def_ 12 (d := dd12) rfl; ⟨_, fd, F, He.glo_ok X G (c.fact 12 (f := .glo "need_rule") rfl)⟩
  d13 := let ⟨fd, F⟩ := c.def_ 13 (d := dd13) rfl; ⟨_, fd, F, He.glo_ok X G (c.fact 13 (f := .glo "is_part") rfl)⟩
  d14 := let ⟨fd, F⟩ := c.def_ 14 (d := dd14) rfl; ⟨_, fd, F, He.glo_ok X G (c.fact 14 (f := .glo "shares_of") rfl)⟩
  d15 := let ⟨fd, F⟩ := c.def_ 15 (d := dd15) rfl; ⟨_, fd, F, He.glo_ok X G (c.fact 15 (f := .glo "need_fit") rfl)⟩
  d16 := let ⟨fd, F⟩ := c.def_ 16 (d := dd16) rfl; ⟨_, fd, F, He.glo_ok X G (c.fact 16 (f := .glo "shares") rfl)⟩
  d17 := let ⟨fd, F⟩ := c.def_ 17 (d := dd17) rfl; ⟨_, fd, F, He.glo_ok X G (c.fact 17 (f := .glo "factorial") rfl)⟩
  d18 := let ⟨fd, F⟩ := c.def_ 18 (d := dd18) rfl; ⟨_, fd, F, He.glo_ok X G (c.fact 18 (f := .glo "weight") rfl)⟩
  d19 := let ⟨fd, F⟩ := c.def_ 19 (d := dd19) rfl; ⟨_, fd, F, He.glo_ok X G (c.fact 19 (f := .glo "turn_part") rfl)⟩
  d20 := let ⟨fd, F⟩ := c.def_ 20 (d := dd20) rfl; ⟨_, fd, F, He.glo_ok X G (c.fact 20 (f := .glo "part_of") rfl)⟩
  d21 := let ⟨fd, F⟩ := c.def_ 21 (d := dd21) rfl; ⟨_, fd, F, He.glo_ok X G (c.fact 21 (f := .glo "names") rfl)⟩
  d22 := let ⟨fd, F⟩ := c.def_ 22 (d := dd22) rfl; ⟨_, fd, F, He.glo_ok X G (c.fact 22 (f := .glo "told_rule") rfl)⟩
  d23 := let ⟨fd, F⟩ := c.def_ 23 (d := dd23) rfl; ⟨_, fd, F, He.glo_ok X G (c.fact 23 (f := .glo "_law_taken") rfl)⟩
  d24 := let ⟨fd, F⟩ := c.def_ 24 (d := dd24) rfl; ⟨_, fd, F, He.glo_ok X G (c.fact 24 (f := .glo "_law_pick") rfl)⟩
  d25 := let ⟨fd, F⟩ := c.def_ 25 (d := dd25) rfl; ⟨_, fd, F, He.glo_ok X G (c.fact 25 (f := .glo "_law_alike") rfl)⟩
  d26 := let ⟨fd, F⟩ := c.def_ 26 (d := dd26) rfl; ⟨_, fd, F, He.glo_ok X G (c.fact 26 (f := .glo "_law_groups") rfl)⟩
  d27 := let ⟨fd, F⟩ := c.def_ 27 (d := dd27) rfl; ⟨_, fd, F, He.glo_ok X G (c.fact 27 (f := .glo "_law_worths") rfl)⟩
  d28 := let ⟨fd, F⟩ := c.def_ 28 (d := dd28) rfl; ⟨_, fd, F, He.glo_ok X G (c.fact 28 (f := .glo "_law_with") rfl)⟩
  d29 := let ⟨fd, F⟩ := c.def_ 29 (d := dd29) rfl; ⟨_, fd, F, He.glo_ok X G (c.fact 29 (f := .glo "_law_less") rfl)⟩
  d30 := let ⟨fd, F⟩ := c.def_ 30 (d := dd30) rfl; ⟨_, fd, F, He.glo_ok X G (c.fact 30 (f := .glo "_law_ratio") rfl)⟩
  d31 := let ⟨fd, F⟩ := c.def_ 31 (d := dd31) rfl; ⟨_, fd, F, He.glo_ok X G (c.fact 31 (f := .glo "_law_sum") rfl)⟩
  d32 := let ⟨fd, F⟩ := c.def_ 32 (d := dd32) rfl; ⟨_, fd, F, He.glo_ok X G (c.fact 32 (f := .glo "_law_shares") rfl)⟩
  d33 := let ⟨fd, F⟩ := c.def_ 33 (d := dd33) rfl; ⟨_, fd, F, He.glo_ok X G (c.fact 33 (f := .glo "_law_orders") rfl)⟩
  d34 := let ⟨fd, F⟩ := c.def_ 34 (d := dd34) rfl; ⟨_, fd, F, He.glo_ok X G (c.fact 34 (f := .glo "_law_game") rfl)⟩
  d35 := let ⟨fd, F⟩ := c.def_ 35 (d := dd35) rfl; ⟨_, fd, F, He.glo_ok X G (c.fact 35 (f := .glo "_law_part") rfl)⟩
  d36 := let ⟨fd, F⟩ := c.def_ 36 (d := dd36) rfl; ⟨_, fd, F, He.glo_ok X G (c.fact 36 (f := .glo "_law_names") rfl)⟩
  d37 := let ⟨fd, F⟩ := c.def_ 37 (d := dd37) rfl; ⟨_, fd, F, He.glo_ok X G (c.fact 37 (f := .glo "_law_rule") rfl)⟩
  d38 := let ⟨fd, F⟩ := c.def_ 38 (d := dd38) rfl; ⟨_, fd, F, He.glo_ok X G (c.fact 38 (f := .glo "_law_mixed") rfl)⟩
  d39 := let ⟨fd, F⟩ := c.def_ 39 (d := dd39) rfl; ⟨_, fd, F, He.glo_ok X G (c.fact 39 (f := .glo "law") rfl)⟩
def others : List Str := (["ShareError", "BadMany", "BadGame", "BadRule", "BadName", "NotAlike", "MOST_WORTH", "MOST_PEOPLE", "SIZES", "is_integer", "need_many", "groups_of", "need_game", "people_in", "others", "common"] : List Str) ++ (["ratio", "plus", "times", "total", "is_ratio", "NAMES", "MOST_RATIO", "need_rule", "is_part", "shares_of", "need_fit", "shares", "factorial", "weight", "turn_part", "part_of"] : List Str) ++ (["names", "told_rule", "_law_taken", "_law_pick", "_law_alike", "_law_groups", "_law_worths", "_law_with", "_law_less", "_law_ratio", "_law_sum", "_law_shares", "_law_orders", "_law_game", "_law_part", "_law_names"] : List Str) ++ (["_law_rule", "_law_mixed"] : List Str)
abbrev ROW : PySem.W.OpenRow := PySem.W.OpenLaw.row PySem.Challenge.rw_worthshares_k01_whole_rules
abbrev hk : PySem.W.Hook := hookP 4 fa fn xtra
theorem run (w : World) : HandSHeadRun.RunEq ROW (PySem.W.view ROW.prog [55]) hk (obP 4 fa fn xtra) steps others w :=
  PySem.W.byRow2 "special-get-raises" (P := fun w => HandSHeadRun.RunEq ROW (PySem.W.view ROW.prog [55]) hk (obP 4 fa fn xtra) steps others w) (fun w => by intro os; kernel_rfl) (fun w => by intro os; kernel_rfl) w
end Lk01
section
open PySem PySem.W PySem.Calls PyProof.Rows
theorem holds_of (hl : ∀ ns : List Int, ns.length ≤ 63 → ∃ S, Lk01.call (Lk01.deep + 1) 39 [.sh (.ro (Pv.scrD ns))] [] = .ok ⟨false, .bl true⟩ S) : PySem.Challenge.rw_worthshares_k01_whole_rules.Holds := by
  w_on; o_law
  refine HandSHeadRun.head_any (r := OpenLaw.row PySem.Challenge.rw_worthshares_k01_whole_rules) (q := view (OpenLaw.row PySem.Challenge.rw_worthshares_k01_whole_rules).prog [55]) (H := Lk01.hk) (ob := Pv.obP 4 Lk01.fa Lk01.fn Lk01.xtra) (M := Lk01.steps) (loose := Lk01.others) (d := HandSHeadRun.topDef (OpenLaw.row PySem.Challenge.rw_worthshares_k01_whole_rules).prog 55) (kwd := []) Pv.obP_eq
    (by kernel_rfl) (fun s => by kernel_rfl) Lk01.run (by kernel_rfl) (by kernel_rfl) (by kernel_rfl) (by rfl) (by first | assumption | decide +kernel) (by decide +kernel) ⟨rfl, rfl, rfl, rfl, rfl, by decide +kernel⟩ ?hw ?hc
  case hw => w_witness2
  case hc =>
    refine Pv.walk_P (l := PySem.Challenge.rw_worthshares_k01_whole_rules) (n := 63) (k := Lk01.deep + 2) (x := "_law_script") rfl (by decide) (by kernel_rfl) ⟨rfl, by decide, by decide⟩ ?F
    intro w mg fa h Y G hmg0
    obtain ⟨K, KX, c, xt⟩ := Y
    have hmg : mg ("law" : PySem.Str) = some (.ref fa) := by
      have e : (HandSHeadRun.topDef (OpenLaw.row PySem.Challenge.rw_worthshares_k01_whole_rules).prog 55).name = ("law" : PySem.Str) := by kernel_rfl
      rw [← e]; exact hmg0
    obtain ⟨f, fd, F, hf⟩ := (Lk01.df_of KX G c).d39
    cases hmg.symm.trans hf
    have b := L2.FunD.bindsA (ps := ["_law_script"]) F fun _ _ _ _ _ _ us hl => match us, hl with | [_], _ => rfl
    exact ⟨K, fd, _, KX, fun s v => b s [v] rfl, fun H a ns hle hS => Pv.law_at (K := K) (G := Lk01.Gx) (xc := Lk01.Xx) hS (hl ns hle), fun base _ _ =>
      Pv.fn_ok (k := Lk01.deep + 1) F Lk01.sc39 rfl rfl fun _ _ _ _ _ _ _ _ hr => Lk01.w39 (Lk01.gf_of KX G c xt) (Lk01.cf_all (Lk01.gf_of KX G c xt) (Lk01.df_of KX G c) Lk01.deep) hr⟩
end

set_option linter.all false
set_option maxRecDepth 100000
set_option maxHeartbeats 0
namespace Lk01
open PySem PySem.Spec PyProof.Rows L2 Pv
def TR2_0 : List (List (Int × Int)) := [[(1, 2), (-1, 2), (1, 2)], [(-1, 2), (1, 2), (1, 2)]]
theorem tr2_0 : Told 2 (szOf 2) TR2_0 := toldB_ok (by decide +kernel)
theorem told2_0 (S : Sto) : call 12 22 [.sh (.str (Str.ofString "banzhaf")), .sh (.int 2)] S = .ok ⟨false, ruleD TR2_0⟩ S := by kernel_rfl
theorem lawt2_0 (k : Nat) (S : Sto) : call (k + 9) 37 [.sh (.str (Str.ofString "banzhaf")), .sh (.int 2)] S = .ok ⟨false, ruleD TR2_0⟩ S := by kernel_rfl
def TR2_1 : List (List (Int × Int)) := [[(0, 1), (0, 1), (1, 2)], [(0, 1), (0, 1), (1, 2)]]
theorem tr2_1 : Told 2 (szOf 2) TR2_1 := toldB_ok (by decide +kernel)
theorem told2_1 (S : Sto) : call 12 22 [.sh (.str (Str.ofString "even")), .sh (.int 2)] S = .ok ⟨false, ruleD TR2_1⟩ S := by kernel_rfl
theorem lawt2_1 (k : Nat) (S : Sto) : call (k + 9) 37 [.sh (.str (Str.ofString "even")), .sh (.int 2)] S = .ok ⟨false, ruleD TR2_1⟩ S := by kernel_rfl
def TR2_2 : List (List (Int × Int)) := [[(1, 1), (0, 1), (0, 1)], [(-1, 1), (0, 1), (1, 1)]]
theorem tr2_2 : Told 2 (szOf 2) TR2_2 := toldB_ok (by decide +kernel)
theorem told2_2 (S : Sto) : call 12 22 [.sh (.str (Str.ofString "in turn")), .sh (.int 2)] S = .ok ⟨false, ruleD TR2_2⟩ S := by kernel_rfl
theorem lawt2_2 (k : Nat) (S : Sto) : call (k + 9) 37 [.sh (.str (Str.ofString "in turn")), .sh (.int 2)] S = .ok ⟨false, ruleD TR2_2⟩ S := by kernel_rfl
def TR2_3 : List (List (Int × Int)) := [[(0, 1), (-1, 1), (1, 1)], [(-1, 1), (0, 1), (1, 1)]]
theorem tr2_3 : Told 2 (szOf 2) TR2_3 := toldB_ok (by decide +kernel)
theorem told2_3 (S : Sto) : call 12 22 [.sh (.str (Str.ofString "last")), .sh (.int 2)] S = .ok ⟨false, ruleD TR2_3⟩ S := by kernel_rfl
theorem lawt2_3 (k : Nat) (S : Sto) : call (k + 9) 37 [.sh (.str (Str.ofString "last")), .sh (.int 2)] S = .ok ⟨false, ruleD TR2_3⟩ S := by kernel_rfl
def TR2_4 : List (List (Int × Int)) := [[(1, 2), (-1, 2), (1, 2)], [(-1, 2), (1, 2), (1, 2)]]
theorem tr2_4 : Told 2 (szOf 2) TR2_4 := toldB_ok (by decide +kernel)
theorem told2_4 (S : Sto) : call 12 22 [.sh (.str (Str.ofString "last even")), .sh (.int 2)] S = .ok ⟨false, ruleD TR2_4⟩ S := by kernel_rfl
theorem lawt2_4 (k : Nat) (S : Sto) : call (k + 9) 37 [.sh (.str (Str.ofString "last even")), .sh (.int 2)] S = .ok ⟨false, ruleD TR2_4⟩ S := by kernel_rfl
def TR2_5 : List (List (Int × Int)) := [[(1, 1), (0, 1), (0, 1)], [(0, 1), (1, 1), (0, 1)]]
theorem tr2_5 : Told 2 (szOf 2) TR2_5 := toldB_ok (by decide +kernel)
theorem told2_5 (S : Sto) : call 12 22 [.sh (.str (Str.ofString "own")), .sh (.int 2)] S = .ok ⟨false, ruleD TR2_5⟩ S := by kernel_rfl
theorem lawt2_5 (k : Nat) (S : Sto) : call (k + 9) 37 [.sh (.str (Str.ofString "own")), .sh (.int 2)] S = .ok ⟨false, ruleD TR2_5⟩ S := by kernel_rfl
def TR2_6 : List (List (Int × Int)) := [[(1, 2), (-1, 2), (1, 2)], [(-1, 2), (1, 2), (1, 2)]]
theorem tr2_6 : Told 2 (szOf 2) TR2_6 := toldB_ok (by decide +kernel)
theorem told2_6 (S : Sto) : call 12 22 [.sh (.str (Str.ofString "rest even")), .sh (.int 2)] S = .ok ⟨false, ruleD TR2_6⟩ S := by kernel_rfl
theorem lawt2_6 (k : Nat) (S : Sto) : call (k + 9) 37 [.sh (.str (Str.ofString "rest even")), .sh (.int 2)] S = .ok ⟨false, ruleD TR2_6⟩ S := by kernel_rfl
def TR2_7 : List (List (Int × Int)) := [[(1, 2), (-1, 2), (1, 2)], [(-1, 2), (1, 2), (1, 2)]]
theorem tr2_7 : Told 2 (szOf 2) TR2_7 := toldB_ok (by decide +kernel)
theorem told2_7 (S : Sto) : call 12 22 [.sh (.str (Str.ofString "shapley")), .sh (.int 2)] S = .ok ⟨false, ruleD TR2_7⟩ S := by kernel_rfl
theorem lawt2_7 (k : Nat) (S : Sto) : call (k + 9) 37 [.sh (.str (Str.ofString "shapley")), .sh (.int 2)] S = .ok ⟨false, ruleD TR2_7⟩ S := by kernel_rfl
def TR3_0 : List (List (Int × Int)) := [[(1, 4), (-1, 4), (-1, 4), (1, 4), (1, 4), (-1, 4), (1, 4)], [(-1, 4), (1, 4), (-1, 4), (1, 4), (-1, 4), (1, 4), (1, 4)], [(-1, 4), (-1, 4), (1, 4), (-1, 4), (1, 4), (1, 4), (1, 4)]]
theorem tr3_0 : Told 3 (szOf 3) TR3_0 := toldB_ok (by decide +kernel)
theorem told3_0 (S : Sto) : call 12 22 [.sh (.str (Str.ofString "banzhaf")), .sh (.int 3)] S = .ok ⟨false, ruleD TR3_0⟩ S := by kernel_rfl
theorem lawt3_0 (k : Nat) (S : Sto) : call (k + 9) 37 [.sh (.str (Str.ofString "banzhaf")), .sh (.int 3)] S = .ok ⟨false, ruleD TR3_0⟩ S := by kernel_rfl
def TR3_1 : List (List (Int × Int)) := [[(0, 1), (0, 1), (0, 1), (0, 1), (0, 1), (0, 1), (1, 3)], [(0, 1), (0, 1), (0, 1), (0, 1), (0, 1), (0, 1), (1, 3)], [(0, 1), (0, 1), (0, 1), (0, 1), (0, 1), (0, 1), (1, 3)]]
theorem tr3_1 : Told 3 (szOf 3) TR3_1 := toldB_ok (by decide +kernel)
theorem told3_1 (S : Sto) : call 12 22 [.sh (.str (Str.ofString "even")), .sh (.int 3)] S = .ok ⟨false, ruleD TR3_1⟩ S := by kernel_rfl
theorem lawt3_1 (k : Nat) (S : Sto) : call (k + 9) 37 [.sh (.str (Str.ofString "even")), .sh (.int 3)] S = .ok ⟨false, ruleD TR3_1⟩ S := by kernel_rfl
def TR3_2 : List (List (Int × Int)) := [[(1, 1), (0, 1), (0, 1), (0, 1), (0, 1), (0, 1), (0, 1)], [(-1, 1), (0, 1), (0, 1), (1, 1), (0, 1), (0, 1), (0, 1)], [(0, 1), (0, 1), (0, 1), (-1, 1), (0, 1), (0, 1), (1, 1)]]
theorem tr3_2 : Told 3 (szOf 3) TR3_2 := toldB_ok (by decide +kernel)
theorem told3_2 (S : Sto) : call 12 22 [.sh (.str (Str.ofString "in turn")), .sh (.int 3)] S = .ok ⟨false, ruleD TR3_2⟩ S := by kernel_rfl
theorem lawt3_2 (k : Nat) (S : Sto) : call (k + 9) 37 [.sh (.str (Str.ofString "in turn")), .sh (.int 3)] S = .ok ⟨false, ruleD TR3_2⟩ S := by kernel_rfl
def TR3_3 : List (List (Int × Int)) := [[(0, 1), (0, 1), (0, 1), (0, 1), (0, 1), (-1, 1), (1, 1)], [(0, 1), (0, 1), (0, 1), (0, 1), (-1, 1), (0, 1), (1, 1)], [(0, 1), (0, 1), (0, 1), (-1, 1), (0, 1), (0, 1), (1, 1)]]
theorem tr3_3 : Told 3 (szOf 3) TR3_3 := toldB_ok (by decide +kernel)
theorem told3_3 (S : Sto) : call 12 22 [.sh (.str (Str.ofString "last")), .sh (.int 3)] S = .ok ⟨false, ruleD TR3_3⟩ S := by kernel_rfl
theorem lawt3_3 (k : Nat) (S : Sto) : call (k + 9) 37 [.sh (.str (Str.ofString "last")), .sh (.int 3)] S = .ok ⟨false, ruleD TR3_3⟩ S := by kernel_rfl
def TR3_4 : List (List (Int × Int)) := [[(0, 1), (0, 1), (0, 1), (1, 3), (1, 3), (-2, 3), (1, 3)], [(0, 1), (0, 1), (0, 1), (1, 3), (-2, 3), (1, 3), (1, 3)], [(0, 1), (0, 1), (0, 1), (-2, 3), (1, 3), (1, 3), (1, 3)]]
theorem tr3_4 : Told 3 (szOf 3) TR3_4 := toldB_ok (by decide +kernel)
theorem told3_4 (S : Sto) : call 12 22 [.sh (.str (Str.ofString "last even")), .sh (.int 3)] S = .ok ⟨false, ruleD TR3_4⟩ S := by kernel_rfl
theorem lawt3_4 (k : Nat) (S : Sto) : call (k + 9) 37 [.sh (.str (Str.ofString "last even")), .sh (.int 3)] S = .ok ⟨false, ruleD TR3_4⟩ S := by kernel_rfl
def TR3_5 : List (List (Int × Int)) := [[(1, 1), (0, 1), (0, 1), (0, 1), (0, 1), (0, 1), (0, 1)], [(0, 1), (1, 1), (0, 1), (0, 1), (0, 1), (0, 1), (0, 1)], [(0, 1), (0, 1), (1, 1), (0, 1), (0, 1), (0, 1), (0, 1)]]
theorem tr3_5 : Told 3 (szOf 3) TR3_5 := toldB_ok (by decide +kernel)
theorem told3_5 (S : Sto) : call 12 22 [.sh (.str (Str.ofString "own")), .sh (.int 3)] S = .ok ⟨false, ruleD TR3_5⟩ S := by kernel_rfl
theorem lawt3_5 (k : Nat) (S : Sto) : call (k + 9) 37 [.sh (.str (Str.ofString "own")), .sh (.int 3)] S = .ok ⟨false, ruleD TR3_5⟩ S := by kernel_rfl
def TR3_6 : List (List (Int × Int)) := [[(2, 3), (-1, 3), (-1, 3), (0, 1), (0, 1), (0, 1), (1, 3)], [(-1, 3), (2, 3), (-1, 3), (0, 1), (0, 1), (0, 1), (1, 3)], [(-1, 3), (-1, 3), (2, 3), (0, 1), (0, 1), (0, 1), (1, 3)]]
theorem tr3_6 : Told 3 (szOf 3) TR3_6 := toldB_ok (by decide +kernel)
theorem told3_6 (S : Sto) : call 12 22 [.sh (.str (Str.ofString "rest even")), .sh (.int 3)] S = .ok ⟨false, ruleD TR3_6⟩ S := by kernel_rfl
theorem lawt3_6 (k : Nat) (S : Sto) : call (k + 9) 37 [.sh (.str (Str.ofString "rest even")), .sh (.int 3)] S = .ok ⟨false, ruleD TR3_6⟩ S := by kernel_rfl
def TR3_7 : List (List (Int × Int)) := [[(1, 3), (-1, 6), (-1, 6), (1, 6), (1, 6), (-1, 3), (1, 3)], [(-1, 6), (1, 3), (-1, 6), (1, 6), (-1, 3), (1, 6), (1, 3)], [(-1, 6), (-1, 6), (1, 3), (-1, 3), (1, 6), (1, 6), (1, 3)]]
theorem tr3_7 : Told 3 (szOf 3) TR3_7 := toldB_ok (by decide +kernel)
theorem told3_7 (S : Sto) : call 12 22 [.sh (.str (Str.ofString "shapley")), .sh (.int 3)] S = .ok ⟨false, ruleD TR3_7⟩ S := by kernel_rfl
theorem lawt3_7 (k : Nat) (S : Sto) : call (k + 9) 37 [.sh (.str (Str.ofString "shapley")), .sh (.int 3)] S = .ok ⟨false, ruleD TR3_7⟩ S := by kernel_rfl
def TR4_0 : List (List (Int × Int)) := [[(1, 8), (-1, 8), (-1, 8), (-1, 8), (1, 8), (1, 8), (1, 8), (-1, 8), (-1, 8), (-1, 8), (1, 8), (1, 8), (1, 8), (-1, 8), (1, 8)], [(-1, 8), (1, 8), (-1, 8), (-1, 8), (1, 8), (-1, 8), (-1, 8), (1, 8), (1, 8), (-1, 8), (1, 8), (1, 8), (-1, 8), (1, 8), (1, 8)], [(-1, 8), (-1, 8), (1, 8), (-1, 8), (-1, 8), (1, 8), (-1, 8), (1, 8), (-1, 8), (1, 8), (1, 8), (-1, 8), (1, 8), (1, 8), (1, 8)], [(-1, 8), (-1, 8), (-1, 8), (1, 8), (-1, 8), (-1, 8), (1, 8), (-1, 8), (1, 8), (1, 8), (-1, 8), (1, 8), (1, 8), (1, 8), (1, 8)]]
theorem tr4_0 : Told 4 (szOf 4) TR4_0 := toldB_ok (by decide +kernel)
theorem told4_0 (S : Sto) : call 12 22 [.sh (.str (Str.ofString "banzhaf")), .sh (.int 4)] S = .ok ⟨false, ruleD TR4_0⟩ S := by kernel_rfl
theorem lawt4_0 (k : Nat) (S : Sto) : call (k + 9) 37 [.sh (.str (Str.ofString "banzhaf")), .sh (.int 4)] S = .ok ⟨false, ruleD TR4_0⟩ S := by kernel_rfl
def TR4_1 : List (List (Int × Int)) := [[(0, 1), (0, 1), (0, 1), (0, 1), (0, 1), (0, 1), (0, 1), (0, 1), (0, 1), (0, 1), (0, 1), (0, 1), (0, 1), (0, 1), (1, 4)], [(0, 1), (0, 1), (0, 1), (0, 1), (0, 1), (0, 1), (0, 1), (0, 1), (0, 1), (0, 1), (0, 1), (0, 1), (0, 1), (0, 1), (1, 4)], [(0, 1), (0, 1), (0, 1), (0, 1), (0, 1), (0, 1), (0, 1), (0, 1), (0, 1), (0, 1), (0, 1), (0, 1), (0, 1), (0, 1), (1, 4)], [(0, 1), (0, 1), (0, 1), (0, 1), (0, 1), (0, 1), (0, 1), (0, 1), (0, 1), (0, 1), (0, 1), (0, 1), (0, 1), (0, 1), (1, 4)]]
theorem tr4_1 : Told 4 (szOf 4) TR4_1 := toldB_ok (by decide +kernel)
theorem told4_1 (S : Sto) : call 12 22 [.sh (.str (Str.ofString "even")), .sh (.int 4)] S = .ok ⟨false, ruleD TR4_1⟩ S := by kernel_rfl
theorem lawt4_1 (k : Nat) (S : Sto) : call (k + 9) 37 [.sh (.str (Str.ofString "even")), .sh (.int 4)] S = .ok ⟨false, ruleD TR4_1⟩ S := by kernel_rfl
def TR4_2 : List (List (Int × Int)) := [[(1, 1), (0, 1), (0, 1), (0, 1), (0, 1), (0, 1), (0, 1), (0, 1), (0, 1), (0, 1), (0, 1), (0, 1), (0, 1), (0, 1), (0, 1)], [(-1, 1), (0, 1), (0, 1), (0, 1), (1, 1), (0, 1), (0, 1), (0, 1), (0, 1), (0, 1), (0, 1), (0, 1), (0, 1), (0, 1), (0, 1)], [(0, 1), (0, 1), (0, 1), (0, 1), (-1, 1), (0, 1), (0, 1), (0, 1), (0, 1), (0, 1), (1, 1), (0, 1), (0, 1), (0, 1), (0, 1)], [(0, 1), (0, 1), (0, 1), (0, 1), (0, 1), (0, 1), (0, 1), (0, 1), (0, 1), (0, 1), (-1, 1), (0, 1), (0, 1), (0, 1), (1, 1)]]
theorem tr4_2 : Told 4 (szOf 4) TR4_2 := toldB_ok (by decide +kernel)
theorem told4_2 (S : Sto) : call 12 22 [.sh (.str (Str.ofString "in turn")), .sh (.int 4)] S = .ok ⟨false, ruleD TR4_2⟩ S := by kernel_rfl
theorem lawt4_2 (k : Nat) (S : Sto) : call (k + 9) 37 [.sh (.str (Str.ofString "in turn")), .sh (.int 4)] S = .ok ⟨false, ruleD TR4_2⟩ S := by kernel_rfl
def TR4_3 : List (List (Int × Int)) := [[(0, 1), (0, 1), (0, 1), (0, 1), (0, 1), (0, 1), (0, 1), (0, 1), (0, 1), (0, 1), (0, 1), (0, 1), (0, 1), (-1, 1), (1, 1)], [(0, 1), (0, 1), (0, 1), (0, 1), (0, 1), (0, 1), (0, 1), (0, 1), (0, 1), (0, 1), (0, 1), (0, 1), (-1, 1), (0, 1), (1, 1)], [(0, 1), (0, 1), (0, 1), (0, 1), (0, 1), (0, 1), (0, 1), (0, 1), (0, 1), (0, 1), (0, 1), (-1, 1), (0, 1), (0, 1), (1, 1)], [(0, 1), (0, 1), (0, 1), (0, 1), (0, 1), (0, 1), (0, 1), (0, 1), (0, 1), (0, 1), (-1, 1), (0, 1), (0, 1), (0, 1), (1, 1)]]
theorem tr4_3 : Told 4 (szOf 4) TR4_3 := toldB_ok (by decide +kernel)
theorem told4_3 (S : Sto) : call 12 22 [.sh (.str (Str.ofString "last")), .sh (.int 4)] S = .ok ⟨false, ruleD TR4_3⟩ S := by kernel_rfl
theorem lawt4_3 (k : Nat) (S : Sto) : call (k + 9) 37 [.sh (.str (Str.ofString "last")), .sh (.int 4)] S = .ok ⟨false, ruleD TR4_3⟩ S := by kernel_rfl
def TR4_4 : List (List (Int × Int)) := [[(0, 1), (0, 1), (0, 1), (0, 1), (0, 1), (0, 1), (0, 1), (0, 1), (0, 1), (0, 1), (1, 4), (1, 4), (1, 4), (-3, 4), (1, 4)], [(0, 1), (0, 1), (0, 1), (0, 1), (0, 1), (0, 1), (0, 1), (0, 1), (0, 1), (0, 1), (1, 4), (1, 4), (-3, 4), (1, 4), (1, 4)], [(0, 1), (0, 1), (0, 1), (0, 1), (0, 1), (0, 1), (0, 1), (0, 1), (0, 1), (0, 1), (1, 4), (-3, 4), (1, 4), (1, 4), (1, 4)], [(0, 1), (0, 1), (0, 1), (0, 1), (0, 1), (0, 1), (0, 1), (0, 1), (0, 1), (0, 1), (-3, 4), (1, 4), (1, 4), (1, 4), (1, 4)]]
theorem tr4_4 : Told 4 (szOf 4) TR4_4 := toldB_ok (by decide +kernel)
theorem told4_4 (S : Sto) : call 12 22 [.sh (.str (Str.ofString "last even")), .sh (.int 4)] S = .ok ⟨false, ruleD TR4_4⟩ S := by kernel_rfl
theorem lawt4_4 (k : Nat) (S : Sto) : call (k + 9) 37 [.sh (.str (Str.ofString "last even")), .sh (.int 4)] S = .ok ⟨false, ruleD TR4_4⟩ S := by kernel_rfl
def TR4_5 : List (List (Int × Int)) := [[(1, 1), (0, 1), (0, 1), (0, 1), (0, 1), (0, 1), (0, 1), (0, 1), (0, 1), (0, 1), (0, 1), (0, 1), (0, 1), (0, 1), (0, 1)], [(0, 1), (1, 1), (0, 1), (0, 1), (0, 1), (0, 1), (0, 1), (0, 1), (0, 1), (0, 1), (0, 1), (0, 1), (0, 1), (0, 1), (0, 1)], [(0, 1), (0, 1), (1, 1), (0, 1), (0, 1), (0, 1), (0, 1), (0, 1), (0, 1), (0, 1), (0, 1), (0, 1), (0, 1), (0, 1), (0, 1)], [(0, 1), (0, 1), (0, 1), (1, 1), (0, 1), (0, 1), (0, 1), (0, 1), (0, 1), (0, 1), (0, 1), (0, 1), (0, 1), (0, 1), (0, 1)]]
theorem tr4_5 : Told 4 (szOf 4) TR4_5 := toldB_ok (by decide +kernel)
theorem told4_5 (S : Sto) : call 12 22 [.sh (.str (Str.ofString "own")), .sh (.int 4)] S = .ok ⟨false, ruleD TR4_5⟩ S := by kernel_rfl
theorem lawt4_5 (k : Nat) (S : Sto) : call (k + 9) 37 [.sh (.str (Str.ofString "own")), .sh (.int 4)] S = .ok ⟨false, ruleD TR4_5⟩ S := by kernel_rfl
def TR4_6 : List (List (Int × Int)) := [[(3, 4), (-1, 4), (-1, 4), (-1, 4), (0, 1), (0, 1), (0, 1), (0, 1), (0, 1), (0, 1), (0, 1), (0, 1), (0, 1), (0, 1), (1, 4)], [(-1, 4), (3, 4), (-1, 4), (-1, 4), (0, 1), (0, 1), (0, 1), (0, 1), (0, 1), (0, 1), (0, 1), (0, 1), (0, 1), (0, 1), (1, 4)], [(-1, 4), (-1, 4), (3, 4), (-1, 4), (0, 1), (0, 1), (0, 1), (0, 1), (0, 1), (0, 1), (0, 1), (0, 1), (0, 1), (0, 1), (1, 4)], [(-1, 4), (-1, 4), (-1, 4), (3, 4), (0, 1), (0, 1), (0, 1), (0, 1), (0, 1), (0, 1), (0, 1), (0, 1), (0, 1), (0, 1), (1, 4)]]
theorem tr4_6 : Told 4 (szOf 4) TR4_6 := toldB_ok (by decide +kernel)
theorem told4_6 (S : Sto) : call 12 22 [.sh (.str (Str.ofString "rest even")), .sh (.int 4)] S = .ok ⟨false, ruleD TR4_6⟩ S := by kernel_rfl
theorem lawt4_6 (k : Nat) (S : Sto) : call (k + 9) 37 [.sh (.str (Str.ofString "rest even")), .sh (.int 4)] S = .ok ⟨false, ruleD TR4_6⟩ S := by kernel_rfl
def TR4_7 : List (List (Int × Int)) := [[(1, 4), (-1, 12), (-1, 12), (-1, 12), (1, 12), (1, 12), (1, 12), (-1, 12), (-1, 12), (-1, 12), (1, 12), (1, 12), (1, 12), (-1, 4), (1, 4)], [(-1, 12), (1, 4), (-1, 12), (-1, 12), (1, 12), (-1, 12), (-1, 12), (1, 12), (1, 12), (-1, 12), (1, 12), (1, 12), (-1, 4), (1, 12), (1, 4)], [(-1, 12), (-1, 12), (1, 4), (-1, 12), (-1, 12), (1, 12), (-1, 12), (1, 12), (-1, 12), (1, 12), (1, 12), (-1, 4), (1, 12), (1, 12), (1, 4)], [(-1, 12), (-1, 12), (-1, 12), (1, 4), (-1, 12), (-1, 12), (1, 12), (-1, 12), (1, 12), (1, 12), (-1, 4), (1, 12), (1, 12), (1, 12), (1, 4)]]
theorem tr4_7 : Told 4 (szOf 4) TR4_7 := toldB_ok (by decide +kernel)
theorem told4_7 (S : Sto) : call 12 22 [.sh (.str (Str.ofString "shapley")), .sh (.int 4)] S = .ok ⟨false, ruleD TR4_7⟩ S := by kernel_rfl
theorem lawt4_7 (k : Nat) (S : Sto) : call (k + 9) 37 [.sh (.str (Str.ofString "shapley")), .sh (.int 4)] S = .ok ⟨false, ruleD TR4_7⟩ S := by kernel_rfl
theorem c_int (k : Nat) (x : Int) (S : Sto) : call (k + 1) 0 [.sh (.int x)] S = .ok tt' S := rfl
theorem c_common (k : Nat) (a b : Int) (S : Sto) (h0 : 0 ≤ b) (h1 : b < fu) : call (k + 1) 6 [.sh (.int a), .sh (.int b)] S = .ok ⟨false, .int (Int.gcd a b : Int)⟩ S := common_ok h0 h1
theorem c_ratio (k : Nat) : RatF (call (k + 2) 7) := ratio_ok (i := 6) (cf := call (k + 1)) (c_common k)
theorem c_plus (k : Nat) (x p : Int × Int) (j : Nat) (S : Sto) (hx : Sm j j x) (hp : Sm 22 11 p) (h0 : 0 < j) (h : j + 11 ≤ 1000) : call (k + 3) 8 [.sh (ratD x), .sh (ratD p)] S = .ok ⟨false, ratD (Ra.canonP (Ra.addP x p))⟩ S := plus_ok (i := 7) (cf := call (k + 2)) (c_ratio k) hx hp h0 (by decide) (by decide) h (by omega)
theorem c_times (k : Nat) (p : Int × Int) (x : Int) (S : Sto) (hp : Sm 11 11 p) (hx : Bd 11 x) : call (k + 3) 9 [.sh (ratD p), .sh (.int x)] S = .ok ⟨false, ratD (Ra.canonP (p.1 * x, p.2))⟩ S := times_ok (i := 7) (cf := call (k + 2)) (c_ratio k) hp hx (by decide) (by decide) (by decide)
theorem c_total (k : Nat) (ps : List (Int × Int)) (S : Sto) (hp : ∀ p ∈ ps, Sm 22 11 p) (hl : ps.length ≤ 15) : call (k + 4) 10 [.sh (.lst (ps.map ratD))] S = .ok ⟨false, ratD (Ra.canonP (Ra.sumP ps))⟩ S := total_ok (i := 8) (cf := call (k + 3)) (a := 22) (b := 11) (by decide) (by decide) (by decide) (fun x p j S hx hp h0 h => c_plus k x p j S hx hp h0 h) ps hp (by omega)
theorem c_isr (k : Nat) (p : Int × Int) (S : Sto) (hp : Pt p) : call (k + 2) 11 [.sh (ratD p)] S = .ok tt' S := isRatio_ok (i := 6) (cf := call (k + 1)) (c_common k) hp
theorem c_isp (k : Nat) (p : Int × Int) (S : Sto) (hp : Pt p) : call (k + 3) 13 [.sh (ratD p)] S = .ok tt' S := isPart_ok (i := 11) (cf := call (k + 2)) hp (c_isr k p S hp)
theorem c_nrule (k m : Nat) (rows : List (List (Int × Int))) (S : Sto) (hm : m = 2 ∨ m = 3 ∨ m = 4) (hr : RuleOk m (szOf m) rows) : call (k + 4) 12 [.sh (ruleD rows)] S = .ok ⟨false, .non⟩ S := needRule_ok (i := 13) (cf := call (k + 3)) (fun p S hp => c_isp k p S hp) hm hr
theorem c_ngame (k m : Nat) (xs : List Int) (S : Sto) (hm : m = 2 ∨ m = 3 ∨ m = 4) (hl : xs.length = szOf m) (h : ∀ x ∈ xs, -1000 ≤ x ∧ x ≤ 1000) : call (k + 2) 3 [.sh (nD xs)] S = .ok ⟨false, .non⟩ S := by
  have e : lenD (nD xs) = some ⟨false, .int (szOf m)⟩ := by rw [nD, len_tup, List.length_map, hl]
  refine needGame_ok (i := 0) (cf := call (k + 1)) (c_int k) xs ?_ (by rw [hl]; rcases hm with rfl | rfl | rfl <;> decide) h
  have e2 : b1V lenD 0 [.sh (nD xs), .un] S = .ok ⟨false, .int (szOf m)⟩ S := by
    unfold b1V
    show (match lenD (nD xs) with | some r => Out.ok r S | none => .bad) = _
    rw [e]
  refine e_1 e2 ?_
  rcases hm with rfl | rfl | rfl <;> rfl
theorem c_people (k m : Nat) (xs : List Int) (S : Sto) (hm : m = 2 ∨ m = 3 ∨ m = 4) (hl : xs.length = szOf m) : call (k + 1) 4 [.sh (nD xs)] S = .ok ⟨false, .int m⟩ S := by
  have e : lenD (nD xs) = some ⟨false, .int (szOf m)⟩ := by rw [nD, len_tup, List.length_map, hl]
  have e2 : b1V lenD 0 [.sh (nD xs)] S = .ok ⟨false, .int (szOf m)⟩ S := by
    unfold b1V
    show (match lenD (nD xs) with | some r => Out.ok r S | none => .bad) = _
    rw [e]
  refine f_ret (m := 1) (e_ret (e_1 e2 ?_))
  rcases hm with rfl | rfl | rfl <;> rfl
theorem bd_of {x : Int} (h : -1000 ≤ x ∧ x ≤ 1000) : Bd 11 x := by show x.natAbs < 2048; omega
theorem sz15 {m : Nat} (hm : m = 2 ∨ m = 3 ∨ m = 4) : szOf m ≤ 15 ∧ m ≤ 4 := by rcases hm with rfl | rfl | rfl <;> decide
theorem c_sharesOf (k m : Nat) (rows : List (List (Int × Int))) (xs : List Int) (S : Sto) (hm : m = 2 ∨ m = 3 ∨ m = 4) (hr : RuleOk m (szOf m) rows) (hl : xs.length = szOf m) (hx : ∀ x ∈ xs, Bd 11 x) : call (k + 5) 14 [.sh (ruleD rows), .sh (nD xs)] S = .ok ⟨false, sharesD rows xs⟩ S :=
  sharesOf_ok (i := 10) (j := 9) (cf := call (k + 4)) (fun p x S hp hx => c_times (k + 1) p x S hp hx) (fun ps S hp hl => c_total k ps S hp hl) hr (sz15 hm).1 (sz15 hm).2 hl hx
theorem c_fit (k m : Nat) (rows : List (List (Int × Int))) (xs : List Int) (S : Sto) (hm : m = 2 ∨ m = 3 ∨ m = 4) (hr : RuleOk m (szOf m) rows) (hl : xs.length = szOf m) (hx : ∀ x ∈ xs, -1000 ≤ x ∧ x ≤ 1000) : call (k + 5) 15 [.sh (ruleD rows), .sh (nD xs)] S = .ok ⟨false, .non⟩ S := by
  have e : op2 neD (b1V lenD 0) (callX (call (k + 4)) 4 (aname 1 anil)) [.sh (ruleD rows), .sh (nD xs)] S = .ok ff' S := by
    have e2 : b1V lenD 0 [.sh (ruleD rows), .sh (nD xs)] S = .ok ⟨false, .int m⟩ S := by
      unfold b1V
      show (match lenD (ruleD rows) with | some r => Out.ok r S | none => .bad) = _
      rw [ruleD, len_tup, List.length_map, hr.len]
    exact e_2 e2 (x_call (a_sh rfl rfl) (c_people (k + 3) m xs S hm hl)) (ne_same rfl)
  exact f_nx (m := 2) (s_nx (e_ex (x_call (a_sh rfl rfl) (c_nrule k m rows S hm hr))) (s_nx (e_ex (x_call (a_sh rfl rfl) (c_ngame (k + 2) m xs S hm hl hx))) (i_f e rfl)))
theorem c_shares (k m : Nat) (rows : List (List (Int × Int))) (xs : List Int) (S : Sto) (hm : m = 2 ∨ m = 3 ∨ m = 4) (hr : RuleOk m (szOf m) rows) (hl : xs.length = szOf m) (hx : ∀ x ∈ xs, -1000 ≤ x ∧ x ≤ 1000) : call (k + 6) 16 [.sh (ruleD rows), .sh (nD xs)] S = .ok ⟨false, sharesD rows xs⟩ S :=
  f_ret (m := 2) (s_nx (e_ex (x_call (a_sh rfl (a_sh rfl rfl)) (c_fit k m rows xs S hm hr hl hx))) (e_ret (x_call (a_sh rfl (a_sh rfl rfl)) (c_sharesOf k m rows xs S hm hr hl fun x hx2 => bd_of (hx x hx2)))))
theorem l_ratio (k : Nat) : RatF (call (k + 1) 30) := lawRatio_ok
theorem l_sum (k : Nat) (ps : List (Int × Int)) (S : Sto) (hp : ∀ p ∈ ps, Sm 22 11 p) (hl : ps.length ≤ 15) : call (k + 2) 31 [.sh (.lst (ps.map ratD))] S = .ok ⟨false, ratD (Ra.canonP (Ra.sumP ps))⟩ S := lawSum_ok (i := 30) (cf := call (k + 1)) (a := 22) (b := 11) (by decide) (by decide) (by decide) (l_ratio k) ps hp (by omega)
theorem l_shares (k m : Nat) (rows : List (List (Int × Int))) (xs : List Int) (S : Sto) (hm : m = 2 ∨ m = 3 ∨ m = 4) (hr : RuleOk m (szOf m) rows) (hl : xs.length = szOf m) (hx : ∀ x ∈ xs, Bd 11 x) : call (k + 3) 32 [.sh (ruleD rows), .sh (nD xs)] S = .ok ⟨false, sharesD rows xs⟩ S :=
  lawShares_ok (i := 31) (cf := call (k + 2)) (fun ps S hp hl => l_sum k ps S hp hl) hr (sz15 hm).1 (sz15 hm).2 hl hx
abbrev GR2 : List D := [.tup [.int 0], .tup [.int 1], .tup [.int 0, .int 1]]
theorem groups2 (S : Sto) : call 12 26 [.sh (.int 2)] S = .ok ⟨false, .lst GR2⟩ S := by kernel_rfl
theorem groupsB2 (S : Sto) : call 11 26 [.sh (.int 2)] S = .ok ⟨false, .lst GR2⟩ S := by kernel_rfl
abbrev GR3 : List D := [.tup [.int 0], .tup [.int 1], .tup [.int 2], .tup [.int 0, .int 1], .tup [.int 0, .int 2], .tup [.int 1, .int 2], .tup [.int 0, .int 1, .int 2]]
theorem groups3 (S : Sto) : call 12 26 [.sh (.int 3)] S = .ok ⟨false, .lst GR3⟩ S := by kernel_rfl
theorem groupsB3 (S : Sto) : call 11 26 [.sh (.int 3)] S = .ok ⟨false, .lst GR3⟩ S := by kernel_rfl
abbrev GR4 : List D := [.tup [.int 0], .tup [.int 1], .tup [.int 2], .tup [.int 3], .tup [.int 0, .int 1], .tup [.int 0, .int 2], .tup [.int 0, .int 3], .tup [.int 1, .int 2], .tup [.int 1, .int 3], .tup [.int 2, .int 3], .tup [.int 0, .int 1, .int 2], .tup [.int 0, .int 1, .int 3], .tup [.int 0, .int 2, .int 3], .tup [.int 1, .int 2, .int 3], .tup [.int 0, .int 1, .int 2, .int 3]]
theorem groups4 (S : Sto) : call 12 26 [.sh (.int 4)] S = .ok ⟨false, .lst GR4⟩ S := by kernel_rfl
theorem groupsB4 (S : Sto) : call 11 26 [.sh (.int 4)] S = .ok ⟨false, .lst GR4⟩ S := by kernel_rfl
def t34_8 (cf : Nat → List Pv.Arg → Sto → Out R) : Sx := (retS (b1V tupleD 5))
def t34_7 (cf : Nat → List Pv.Arg → Sto → Out R) : Sx := (seqS (ifS (op2 eqD (var 3) (con (.int 4))) (setS 5 (compX [4] (tName 4) (iVal (var 2)) (con (.bl true)) (iteX (inV memD (var 7) 4) (con (.int 0)) (subV 6 (var 4))))) skip) (t34_8 cf))
def t34_6 (cf : Nat → List Pv.Arg → Sto → Out R) : Sx := (seqS (ifS (op2 eqD (var 3) (con (.int 3))) (seqS (setS 9 (op2 modD (op2 addD (var 7) (con (.int 1))) (var 1)))
    (seqS (forS (tName 4) (iVal (var 2)) (ifS (andX (inV memD (var 7) 4) (inV nmemD (var 9) 4)) (storeS 6 (callX cf 28 (aval (callX cf 29 (aname 4 (aname 7 anil))) (aname 9 anil))) (subV 6 (var 4))) skip))
    (setS 5 (compX [4] (tName 4) (iVal (var 2)) (con (.bl true)) (subV 6 (var 4)))))) skip) (t34_7 cf))
def t34_5 (cf : Nat → List Pv.Arg → Sto → Out R) : Sx := (seqS (ifS (op2 eqD (var 3) (con (.int 2))) (setS 5 (compX [4] (tName 4) (iVal (var 2)) (con (.bl true)) (op2 addD (subV 6 (callX cf 29 (aname 4 (aname 7 anil)))) (iteX (inV memD (var 7) 4) (var 8) (con (.int 0)))))) skip) (t34_6 cf))
def t34_4 (cf : Nat → List Pv.Arg → Sto → Out R) : Sx := (seqS (ifS (op2 eqD (var 3) (con (.int 1))) (setS 5 (compX [4] (tName 4) (iVal (var 2)) (con (.bl true)) (op1 sumD (compX [10] (tName 10) (iVal (var 4)) (con (.bl true)) (subV 5 (var 10)))))) skip) (t34_5 cf))
def t34_3 (cf : Nat → List Pv.Arg → Sto → Out R) : Sx := (seqS (setS 8 (callX cf 24 (aname 0 (aval (lstX (lcons (con (.int 0)) (lcons (con (.int 0)) (lcons (con (.int 3)) lnil)))) anil)))) (t34_4 cf))
def t34_2 (cf : Nat → List Pv.Arg → Sto → Out R) : Sx := (seqS (par2 6 true 7 false (callX cf 27 (aname 5 (aname 1 anil))) (callX cf 23 (aname 0 (aname 1 anil)))) (t34_3 cf))
def t34_1 (cf : Nat → List Pv.Arg → Sto → Out R) : Sx := (seqS (setS 5 (compX [4] (tName 4) (iVal (var 2)) (con (.bl true)) (callX cf 24 (aname 0 (aval (lstX (lcons (con (.int 0)) (lcons (con (.int 0)) (lcons (con (.int 1)) (lcons (op1 negD (con (.int 1))) (lcons (con (.int 2)) (lcons (con (.int 5)) (lcons (op2 subD (callX cf 23 (aname 0 (aval (con (.int 41)) anil))) (con (.int 20))) lnil)))))))) anil))))) (t34_2 cf))
def t34_0 (cf : Nat → List Pv.Arg → Sto → Out R) : Sx := (seqS (par2 2 false 3 false (callX cf 26 (aname 1 anil)) (callX cf 23 (aname 0 (aval (con (.int 6)) anil)))) (t34_1 cf))
abbrev elt (env : SEnv) (S : Sto) : Out R := callX (call 11) 24 (aname 0 (aval (lstX (lcons (con (.int 0)) (lcons (con (.int 0)) (lcons (con (.int 1)) (lcons (op1 negD (con (.int 1))) (lcons (con (.int 2)) (lcons (con (.int 5)) (lcons (op2 subD (callX (call 11) 23 (aname 0 (aval (con (.int 41)) anil))) (con (.int 20))) lnil)))))))) anil)) env S
theorem elt_ok {env : SEnv} (h : sget env 0 = .ref 0) {row : D} (r : RowOk row) : ∃ v row', elt env [row] = .ok ⟨false, .int v⟩ [row'] ∧ (-20 ≤ v ∧ v ≤ 20) ∧ RowOk row' := by
  obtain ⟨w, row1, r1, w0, w1, ew⟩ := taken_ok (m := 41) r (by decide) (by decide)
  have ew2 : call 11 23 [.ref 0, .sh (.int 41)] [row] = .ok ⟨false, .int w⟩ [row1] := ew
  have hl : (lstX (lcons (con (.int 0)) (lcons (con (.int 0)) (lcons (con (.int 1)) (lcons (op1 negD (con (.int 1))) (lcons (con (.int 2)) (lcons (con (.int 5)) (lcons (op2 subD (callX (call 11) 23 (aname 0 (aval (con (.int 41)) anil))) (con (.int 20))) lnil)))))))) env [row] = .ok ⟨true, .lst [.int 0, .int 0, .int 1, .int (-1), .int 2, .int 5, .int (w - 20)]⟩ [row1] := by
    simp [lstX, lcons, lnil, con, op1, op2, negD, callX, aname, aval, anil, h, Out.bind, ew2, subD, line]
  obtain ⟨x, ⟨v, ev, hv⟩, _, row2, r2, ep⟩ := pick_in (i := 23) (cf := call 10) rfl (d := row1) (l := [.int 0, .int 0, .int 1, .int (-1), .int 2, .int 5, .int (w - 20)]) (fun x => ∃ v : Int, x = .int v ∧ (-20 ≤ v ∧ v ≤ 20)) r1 (show 0 < 7 by decide) (show 7 < 1000 by decide) (fun x hx => by
    simp only [List.mem_cons, List.not_mem_nil, or_false] at hx
    rcases hx with rfl | rfl | rfl | rfl | rfl | rfl | rfl <;> refine ⟨_, rfl, ?_⟩ <;> omega)
  subst ev
  exact ⟨v, row2, x_call (a_ref h (a_val hl rfl)) ep, hv, r2⟩
theorem len2 : ∀ l : List Int, l.length = 3 → ∃ x0 x1 x2, l = [x0, x1, x2]
  | [x0, x1, x2], _ => ⟨x0, x1, x2, rfl⟩
abbrev T2 (x0 x1 x2 : Int) : List (List Key × D) := [([.inl 0], .int x0), ([.inl 1], .int x1), ([.inl 0, .inl 1], .int x2), ([], .int 0)]
theorem worths2 (x0 x1 x2 : Int) (S : Sto) : call 11 27 [.sh (.lst ([x0, x1, x2].map D.int)), .sh (.int 2)] S = .ok ⟨true, .dT (T2 x0 x1 x2)⟩ S := by kernel_rfl
theorem g2_0_0 (x0 x1 x2 o : Int) (S : Sto) : t34_4 (call 11) [.ref 0, .sh (.int 2), .sh (.lst GR2), .sh (.int 0), .un, .sh (.lst ([x0, x1, x2].map D.int)), .own (.dT (T2 x0 x1 x2)), .sh (.int 0), .sh (.int o), .un, .un] S = .ok (.ret ⟨false, nD [x0, x1, x2]⟩) S := by kernel_rfl
theorem g2_0_1 (x0 x1 x2 o : Int) (S : Sto) : t34_4 (call 11) [.ref 0, .sh (.int 2), .sh (.lst GR2), .sh (.int 0), .un, .sh (.lst ([x0, x1, x2].map D.int)), .own (.dT (T2 x0 x1 x2)), .sh (.int 1), .sh (.int o), .un, .un] S = .ok (.ret ⟨false, nD [x0, x1, x2]⟩) S := by kernel_rfl
theorem g2_1_0 (x0 x1 x2 o : Int) (S : Sto) : t34_4 (call 11) [.ref 0, .sh (.int 2), .sh (.lst GR2), .sh (.int 1), .un, .sh (.lst ([x0, x1, x2].map D.int)), .own (.dT (T2 x0 x1 x2)), .sh (.int 0), .sh (.int o), .un, .un] S = .ok (.ret ⟨false, nD [sumI [x0], sumI [x1], sumI [x0, x1]]⟩) S := by kernel_rfl
theorem g2_1_1 (x0 x1 x2 o : Int) (S : Sto) : t34_4 (call 11) [.ref 0, .sh (.int 2), .sh (.lst GR2), .sh (.int 1), .un, .sh (.lst ([x0, x1, x2].map D.int)), .own (.dT (T2 x0 x1 x2)), .sh (.int 1), .sh (.int o), .un, .un] S = .ok (.ret ⟨false, nD [sumI [x0], sumI [x1], sumI [x0, x1]]⟩) S := by kernel_rfl
theorem g2_2_0 (x0 x1 x2 o : Int) (S : Sto) : t34_4 (call 11) [.ref 0, .sh (.int 2), .sh (.lst GR2), .sh (.int 2), .un, .sh (.lst ([x0, x1, x2].map D.int)), .own (.dT (T2 x0 x1 x2)), .sh (.int 0), .sh (.int o), .un, .un] S = .ok (.ret ⟨false, nD [0 + o, x1 + 0, x1 + o]⟩) S := by kernel_rfl
theorem g2_2_1 (x0 x1 x2 o : Int) (S : Sto) : t34_4 (call 11) [.ref 0, .sh (.int 2), .sh (.lst GR2), .sh (.int 2), .un, .sh (.lst ([x0, x1, x2].map D.int)), .own (.dT (T2 x0 x1 x2)), .sh (.int 1), .sh (.int o), .un, .un] S = .ok (.ret ⟨false, nD [x0 + 0, 0 + o, x0 + o]⟩) S := by kernel_rfl
theorem g2_3_0 (x0 x1 x2 o : Int) (S : Sto) : t34_4 (call 11) [.ref 0, .sh (.int 2), .sh (.lst GR2), .sh (.int 3), .un, .sh (.lst ([x0, x1, x2].map D.int)), .own (.dT (T2 x0 x1 x2)), .sh (.int 0), .sh (.int o), .un, .un] S = .ok (.ret ⟨false, nD [x0, x0, x2]⟩) S := by kernel_rfl
theorem g2_3_1 (x0 x1 x2 o : Int) (S : Sto) : t34_4 (call 11) [.ref 0, .sh (.int 2), .sh (.lst GR2), .sh (.int 3), .un, .sh (.lst ([x0, x1, x2].map D.int)), .own (.dT (T2 x0 x1 x2)), .sh (.int 1), .sh (.int o), .un, .un] S = .ok (.ret ⟨false, nD [x1, x1, x2]⟩) S := by kernel_rfl
theorem g2_4_0 (x0 x1 x2 o : Int) (S : Sto) : t34_4 (call 11) [.ref 0, .sh (.int 2), .sh (.lst GR2), .sh (.int 4), .un, .sh (.lst ([x0, x1, x2].map D.int)), .own (.dT (T2 x0 x1 x2)), .sh (.int 0), .sh (.int o), .un, .un] S = .ok (.ret ⟨false, nD [0, x1, 0]⟩) S := by kernel_rfl
theorem g2_4_1 (x0 x1 x2 o : Int) (S : Sto) : t34_4 (call 11) [.ref 0, .sh (.int 2), .sh (.lst GR2), .sh (.int 4), .un, .sh (.lst ([x0, x1, x2].map D.int)), .own (.dT (T2 x0 x1 x2)), .sh (.int 1), .sh (.int o), .un, .un] S = .ok (.ret ⟨false, nD [x0, 0, 0]⟩) S := by kernel_rfl
theorem g2_5_0 (x0 x1 x2 o : Int) (S : Sto) : t34_4 (call 11) [.ref 0, .sh (.int 2), .sh (.lst GR2), .sh (.int 5), .un, .sh (.lst ([x0, x1, x2].map D.int)), .own (.dT (T2 x0 x1 x2)), .sh (.int 0), .sh (.int o), .un, .un] S = .ok (.ret ⟨false, nD [x0, x1, x2]⟩) S := by kernel_rfl
theorem g2_5_1 (x0 x1 x2 o : Int) (S : Sto) : t34_4 (call 11) [.ref 0, .sh (.int 2), .sh (.lst GR2), .sh (.int 5), .un, .sh (.lst ([x0, x1, x2].map D.int)), .own (.dT (T2 x0 x1 x2)), .sh (.int 1), .sh (.int o), .un, .un] S = .ok (.ret ⟨false, nD [x0, x1, x2]⟩) S := by kernel_rfl
theorem game2 (row : D) (r : RowOk row) : ∃ xs row', xs.length = 3 ∧ (∀ x ∈ xs, -100 ≤ x ∧ x ≤ 100) ∧ RowOk row' ∧ call 12 34 [.ref 0, .sh (.int 2)] [row] = .ok ⟨false, nD xs⟩ [row'] := by
  obtain ⟨k, row1, r1, k0, k1, ek⟩ := taken_ok (m := 6) r (by decide) (by decide)
  obtain ⟨xs, row2, ec, hxl, hxb, r2⟩ := comp_ints (tg := tName 4) (t := con (.bl true)) (e := elt) (env := [.ref 0, .sh (.int 2), .sh (.lst GR2), .sh (.int k), .un, .un, .un, .un, .un, .un, .un]) (fun v => -20 ≤ v ∧ v ≤ 20) (fun d row r => by
    obtain ⟨v, row', e, hv, r'⟩ := elt_ok (env := [.ref 0, .sh (.int 2), .sh (.lst GR2), .sh (.int k), .sh d, .un, .un, .un, .un, .un, .un]) rfl r
    exact ⟨_, v, row', rfl, rfl, e, hv, r'⟩) GR2 row1 r1
  obtain ⟨x0, x1, x2, rfl⟩ := len2 xs hxl
  simp only [List.forall_mem_cons] at hxb
  obtain ⟨h0, h1, h2, _⟩ := hxb
  obtain ⟨w, row3, r3, w0, w1, ew⟩ := taken_ok (m := 2) r2 (by decide) (by decide)
  obtain ⟨x, ⟨o, eo, o0, o1⟩, _, row4, r4, ep⟩ := pick_in (i := 23) (cf := call 10) rfl (d := row3) (l := [.int 0, .int 0, .int 3]) (fun x => ∃ v : Int, x = .int v ∧ 0 ≤ v ∧ v ≤ 3) r3 (by decide) (by decide) (fun x hx => by
    simp only [List.mem_cons, List.not_mem_nil, or_false] at hx
    rcases hx with rfl | rfl | rfl <;> exact ⟨_, rfl, by decide, by decide⟩)
  subst eo
  have fin : ∀ res : List Int, t34_4 (call 11) [.ref 0, .sh (.int 2), .sh (.lst GR2), .sh (.int k), .un, .sh (.lst ([x0, x1, x2].map D.int)), .own (.dT (T2 x0 x1 x2)), .sh (.int w), .sh (.int o), .un, .un] [row4] = .ok (.ret ⟨false, nD res⟩) [row4] → call 12 34 [.ref 0, .sh (.int 2)] [row] = .ok ⟨false, nD res⟩ [row4] := fun res hr =>
    f_ret (a := t34_0 (call 11)) (m := 11) (s_nx (e_par2 (x_call (a_sh rfl rfl) (groupsB2 _)) (x_call (a_ref rfl (a_val rfl rfl)) ek) rfl rfl)
      (s_nx (e_set (e_comp (ds := GR2) rfl (by decide) ec)) (s_nx (e_par2 (x_call (a_sh rfl (a_sh rfl rfl)) (worths2 x0 x1 x2 _)) (x_call (a_ref rfl (a_sh rfl rfl)) ew) rfl rfl)
      (s_nx (e_set (x_call (a_ref rfl (a_val rfl rfl)) ep)) hr))))
  have hk : k = 0 ∨ k = 1 ∨ k = 2 ∨ k = 3 ∨ k = 4 ∨ k = 5 := by omega
  have hw : w = 0 ∨ w = 1 := by omega
  rcases hk with rfl | rfl | rfl | rfl | rfl | rfl <;> rcases hw with rfl | rfl
  · exact ⟨[x0, x1, x2], row4, rfl, by simp only [List.forall_mem_cons, sumI]; refine ⟨?_, ?_, ?_, fun _ h => nomatch h⟩ <;> omega, r4, fin _ (g2_0_0 x0 x1 x2 o _)⟩
  · exact ⟨[x0, x1, x2], row4, rfl, by simp only [List.forall_mem_cons, sumI]; refine ⟨?_, ?_, ?_, fun _ h => nomatch h⟩ <;> omega, r4, fin _ (g2_0_1 x0 x1 x2 o _)⟩
  · exact ⟨[sumI [x0], sumI [x1], sumI [x0, x1]], row4, rfl, by simp only [List.forall_mem_cons, sumI]; refine ⟨?_, ?_, ?_, fun _ h => nomatch h⟩ <;> omega, r4, fin _ (g2_1_0 x0 x1 x2 o _)⟩
  · exact ⟨[sumI [x0], sumI [x1], sumI [x0, x1]], row4, rfl, by simp only [List.forall_mem_cons, sumI]; refine ⟨?_, ?_, ?_, fun _ h => nomatch h⟩ <;> omega, r4, fin _ (g2_1_1 x0 x1 x2 o _)⟩
  · exact ⟨[0 + o, x1 + 0, x1 + o], row4, rfl, by simp only [List.forall_mem_cons, sumI]; refine ⟨?_, ?_, ?_, fun _ h => nomatch h⟩ <;> omega, r4, fin _ (g2_2_0 x0 x1 x2 o _)⟩
  · exact ⟨[x0 + 0, 0 + o, x0 + o], row4, rfl, by simp only [List.forall_mem_cons, sumI]; refine ⟨?_, ?_, ?_, fun _ h => nomatch h⟩ <;> omega, r4, fin _ (g2_2_1 x0 x1 x2 o _)⟩
  · exact ⟨[x0, x0, x2], row4, rfl, by simp only [List.forall_mem_cons, sumI]; refine ⟨?_, ?_, ?_, fun _ h => nomatch h⟩ <;> omega, r4, fin _ (g2_3_0 x0 x1 x2 o _)⟩
  · exact ⟨[x1, x1, x2], row4, rfl, by simp only [List.forall_mem_cons, sumI]; refine ⟨?_, ?_, ?_, fun _ h => nomatch h⟩ <;> omega, r4, fin _ (g2_3_1 x0 x1 x2 o _)⟩
  · exact ⟨[0, x1, 0], row4, rfl, by simp only [List.forall_mem_cons, sumI]; refine ⟨?_, ?_, ?_, fun _ h => nomatch h⟩ <;> omega, r4, fin _ (g2_4_0 x0 x1 x2 o _)⟩
  · exact ⟨[x0, 0, 0], row4, rfl, by simp only [List.forall_mem_cons, sumI]; refine ⟨?_, ?_, ?_, fun _ h => nomatch h⟩ <;> omega, r4, fin _ (g2_4_1 x0 x1 x2 o _)⟩
  · exact ⟨[x0, x1, x2], row4, rfl, by simp only [List.forall_mem_cons, sumI]; refine ⟨?_, ?_, ?_, fun _ h => nomatch h⟩ <;> omega, r4, fin _ (g2_5_0 x0 x1 x2 o _)⟩
  · exact ⟨[x0, x1, x2], row4, rfl, by simp only [List.forall_mem_cons, sumI]; refine ⟨?_, ?_, ?_, fun _ h => nomatch h⟩ <;> omega, r4, fin _ (g2_5_1 x0 x1 x2 o _)⟩
theorem len3 : ∀ l : List Int, l.length = 7 → ∃ x0 x1 x2 x3 x4 x5 x6, l = [x0, x1, x2, x3, x4, x5, x6]
  | [x0, x1, x2, x3, x4, x5, x6], _ => ⟨x0, x1, x2, x3, x4, x5, x6, rfl⟩
abbrev T3 (x0 x1 x2 x3 x4 x5 x6 : Int) : List (List Key × D) := [([.inl 0], .int x0), ([.inl 1], .int x1), ([.inl 2], .int x2), ([.inl 0, .inl 1], .int x3), ([.inl 0, .inl 2], .int x4), ([.inl 1, .inl 2], .int x5), ([.inl 0, .inl 1, .inl 2], .int x6), ([], .int 0)]
theorem worths3 (x0 x1 x2 x3 x4 x5 x6 : Int) (S : Sto) : call 11 27 [.sh (.lst ([x0, x1, x2, x3, x4, x5, x6].map D.int)), .sh (.int 3)] S = .ok ⟨true, .dT (T3 x0 x1 x2 x3 x4 x5 x6)⟩ S := by kernel_rfl
theorem g3_0_0 (x0 x1 x2 x3 x4 x5 x6 o : Int) (S : Sto) : t34_4 (call 11) [.ref 0, .sh (.int 3), .sh (.lst GR3), .sh (.int 0), .un, .sh (.lst ([x0, x1, x2, x3, x4, x5, x6].map D.int)), .own (.dT (T3 x0 x1 x2 x3 x4 x5 x6)), .sh (.int 0), .sh (.int o), .un, .un] S = .ok (.ret ⟨false, nD [x0, x1, x2, x3, x4, x5, x6]⟩) S := by kernel_rfl
theorem g3_0_1 (x0 x1 x2 x3 x4 x5 x6 o : Int) (S : Sto) : t34_4 (call 11) [.ref 0, .sh (.int 3), .sh (.lst GR3), .sh (.int 0), .un, .sh (.lst ([x0, x1, x2, x3, x4, x5, x6].map D.int)), .own (.dT (T3 x0 x1 x2 x3 x4 x5 x6)), .sh (.int 1), .sh (.int o), .un, .un] S = .ok (.ret ⟨false, nD [x0, x1, x2, x3, x4, x5, x6]⟩) S := by kernel_rfl
theorem g3_0_2 (x0 x1 x2 x3 x4 x5 x6 o : Int) (S : Sto) : t34_4 (call 11) [.ref 0, .sh (.int 3), .sh (.lst GR3), .sh (.int 0), .un, .sh (.lst ([x0, x1, x2, x3, x4, x5, x6].map D.int)), .own (.dT (T3 x0 x1 x2 x3 x4 x5 x6)), .sh (.int 2), .sh (.int o), .un, .un] S = .ok (.ret ⟨false, nD [x0, x1, x2, x3, x4, x5, x6]⟩) S := by kernel_rfl
theorem g3_1_0 (x0 x1 x2 x3 x4 x5 x6 o : Int) (S : Sto) : t34_4 (call 11) [.ref 0, .sh (.int 3), .sh (.lst GR3), .sh (.int 1), .un, .sh (.lst ([x0, x1, x2, x3, x4, x5, x6].map D.int)), .own (.dT (T3 x0 x1 x2 x3 x4 x5 x6)), .sh (.int 0), .sh (.int o), .un, .un] S = .ok (.ret ⟨false, nD [sumI [x0], sumI [x1], sumI [x2], sumI [x0, x1], sumI [x0, x2], sumI [x1, x2], sumI [x0, x1, x2]]⟩) S := by kernel_rfl
theorem g3_1_1 (x0 x1 x2 x3 x4 x5 x6 o : Int) (S : Sto) : t34_4 (call 11) [.ref 0, .sh (.int 3), .sh (.lst GR3), .sh (.int 1), .un, .sh (.lst ([x0, x1, x2, x3, x4, x5, x6].map D.int)), .own (.dT (T3 x0 x1 x2 x3 x4 x5 x6)), .sh (.int 1), .sh (.int o), .un, .un] S = .ok (.ret ⟨false, nD [sumI [x0], sumI [x1], sumI [x2], sumI [x0, x1], sumI [x0, x2], sumI [x1, x2], sumI [x0, x1, x2]]⟩) S := by kernel_rfl
theorem g3_1_2 (x0 x1 x2 x3 x4 x5 x6 o : Int) (S : Sto) : t34_4 (call 11) [.ref 0, .sh (.int 3), .sh (.lst GR3), .sh (.int 1), .un, .sh (.lst ([x0, x1, x2, x3, x4, x5, x6].map D.int)), .own (.dT (T3 x0 x1 x2 x3 x4 x5 x6)), .sh (.int 2), .sh (.int o), .un, .un] S = .ok (.ret ⟨false, nD [sumI [x0], sumI [x1], sumI [x2], sumI [x0, x1], sumI [x0, x2], sumI [x1, x2], sumI [x0, x1, x2]]⟩) S := by kernel_rfl
theorem g3_2_0 (x0 x1 x2 x3 x4 x5 x6 o : Int) (S : Sto) : t34_4 (call 11) [.ref 0, .sh (.int 3), .sh (.lst GR3), .sh (.int 2), .un, .sh (.lst ([x0, x1, x2, x3, x4, x5, x6].map D.int)), .own (.dT (T3 x0 x1 x2 x3 x4 x5 x6)), .sh (.int 0), .sh (.int o), .un, .un] S = .ok (.ret ⟨false, nD [0 + o, x1 + 0, x2 + 0, x1 + o, x2 + o, x5 + 0, x5 + o]⟩) S := by kernel_rfl
theorem g3_2_1 (x0 x1 x2 x3 x4 x5 x6 o : Int) (S : Sto) : t34_4 (call 11) [.ref 0, .sh (.int 3), .sh (.lst GR3), .sh (.int 2), .un, .sh (.lst ([x0, x1, x2, x3, x4, x5, x6].map D.int)), .own (.dT (T3 x0 x1 x2 x3 x4 x5 x6)), .sh (.int 1), .sh (.int o), .un, .un] S = .ok (.ret ⟨false, nD [x0 + 0, 0 + o, x2 + 0, x0 + o, x4 + 0, x2 + o, x4 + o]⟩) S := by kernel_rfl
theorem g3_2_2 (x0 x1 x2 x3 x4 x5 x6 o : Int) (S : Sto) : t34_4 (call 11) [.ref 0, .sh (.int 3), .sh (.lst GR3), .sh (.int 2), .un, .sh (.lst ([x0, x1, x2, x3, x4, x5, x6].map D.int)), .own (.dT (T3 x0 x1 x2 x3 x4 x5 x6)), .sh (.int 2), .sh (.int o), .un, .un] S = .ok (.ret ⟨false, nD [x0 + 0, x1 + 0, 0 + o, x3 + 0, x0 + o, x1 + o, x3 + o]⟩) S := by kernel_rfl
theorem g3_3_0 (x0 x1 x2 x3 x4 x5 x6 o : Int) (S : Sto) : t34_4 (call 11) [.ref 0, .sh (.int 3), .sh (.lst GR3), .sh (.int 3), .un, .sh (.lst ([x0, x1, x2, x3, x4, x5, x6].map D.int)), .own (.dT (T3 x0 x1 x2 x3 x4 x5 x6)), .sh (.int 0), .sh (.int o), .un, .un] S = .ok (.ret ⟨false, nD [x0, x0, x2, x3, x4, x4, x6]⟩) S := by kernel_rfl
theorem g3_3_1 (x0 x1 x2 x3 x4 x5 x6 o : Int) (S : Sto) : t34_4 (call 11) [.ref 0, .sh (.int 3), .sh (.lst GR3), .sh (.int 3), .un, .sh (.lst ([x0, x1, x2, x3, x4, x5, x6].map D.int)), .own (.dT (T3 x0 x1 x2 x3 x4 x5 x6)), .sh (.int 1), .sh (.int o), .un, .un] S = .ok (.ret ⟨false, nD [x0, x1, x1, x3, x3, x5, x6]⟩) S := by kernel_rfl
theorem g3_3_2 (x0 x1 x2 x3 x4 x5 x6 o : Int) (S : Sto) : t34_4 (call 11) [.ref 0, .sh (.int 3), .sh (.lst GR3), .sh (.int 3), .un, .sh (.lst ([x0, x1, x2, x3, x4, x5, x6].map D.int)), .own (.dT (T3 x0 x1 x2 x3 x4 x5 x6)), .sh (.int 2), .sh (.int o), .un, .un] S = .ok (.ret ⟨false, nD [x2, x1, x2, x5, x4, x5, x6]⟩) S := by kernel_rfl
theorem g3_4_0 (x0 x1 x2 x3 x4 x5 x6 o : Int) (S : Sto) : t34_4 (call 11) [.ref 0, .sh (.int 3), .sh (.lst GR3), .sh (.int 4), .un, .sh (.lst ([x0, x1, x2, x3, x4, x5, x6].map D.int)), .own (.dT (T3 x0 x1 x2 x3 x4 x5 x6)), .sh (.int 0), .sh (.int o), .un, .un] S = .ok (.ret ⟨false, nD [0, x1, x2, 0, 0, x5, 0]⟩) S := by kernel_rfl
theorem g3_4_1 (x0 x1 x2 x3 x4 x5 x6 o : Int) (S : Sto) : t34_4 (call 11) [.ref 0, .sh (.int 3), .sh (.lst GR3), .sh (.int 4), .un, .sh (.lst ([x0, x1, x2, x3, x4, x5, x6].map D.int)), .own (.dT (T3 x0 x1 x2 x3 x4 x5 x6)), .sh (.int 1), .sh (.int o), .un, .un] S = .ok (.ret ⟨false, nD [x0, 0, x2, 0, x4, 0, 0]⟩) S := by kernel_rfl
theorem g3_4_2 (x0 x1 x2 x3 x4 x5 x6 o : Int) (S : Sto) : t34_4 (call 11) [.ref 0, .sh (.int 3), .sh (.lst GR3), .sh (.int 4), .un, .sh (.lst ([x0, x1, x2, x3, x4, x5, x6].map D.int)), .own (.dT (T3 x0 x1 x2 x3 x4 x5 x6)), .sh (.int 2), .sh (.int o), .un, .un] S = .ok (.ret ⟨false, nD [x0, x1, 0, x3, 0, 0, 0]⟩) S := by kernel_rfl
theorem g3_5_0 (x0 x1 x2 x3 x4 x5 x6 o : Int) (S : Sto) : t34_4 (call 11) [.ref 0, .sh (.int 3), .sh (.lst GR3), .sh (.int 5), .un, .sh (.lst ([x0, x1, x2, x3, x4, x5, x6].map D.int)), .own (.dT (T3 x0 x1 x2 x3 x4 x5 x6)), .sh (.int 0), .sh (.int o), .un, .un] S = .ok (.ret ⟨false, nD [x0, x1, x2, x3, x4, x5, x6]⟩) S := by kernel_rfl
theorem g3_5_1 (x0 x1 x2 x3 x4 x5 x6 o : Int) (S : Sto) : t34_4 (call 11) [.ref 0, .sh (.int 3), .sh (.lst GR3), .sh (.int 5), .un, .sh (.lst ([x0, x1, x2, x3, x4, x5, x6].map D.int)), .own (.dT (T3 x0 x1 x2 x3 x4 x5 x6)), .sh (.int 1), .sh (.int o), .un, .un] S = .ok (.ret ⟨false, nD [x0, x1, x2, x3, x4, x5, x6]⟩) S := by kernel_rfl
theorem g3_5_2 (x0 x1 x2 x3 x4 x5 x6 o : Int) (S : Sto) : t34_4 (call 11) [.ref 0, .sh (.int 3), .sh (.lst GR3), .sh (.int 5), .un, .sh (.lst ([x0, x1, x2, x3, x4, x5, x6].map D.int)), .own (.dT (T3 x0 x1 x2 x3 x4 x5 x6)), .sh (.int 2), .sh (.int o), .un, .un] S = .ok (.ret ⟨false, nD [x0, x1, x2, x3, x4, x5, x6]⟩) S := by kernel_rfl
theorem game3 (row : D) (r : RowOk row) : ∃ xs row', xs.length = 7 ∧ (∀ x ∈ xs, -100 ≤ x ∧ x ≤ 100) ∧ RowOk row' ∧ call 12 34 [.ref 0, .sh (.int 3)] [row] = .ok ⟨false, nD xs⟩ [row'] := by
  obtain ⟨k, row1, r1, k0, k1, ek⟩ := taken_ok (m := 6) r (by decide) (by decide)
  obtain ⟨xs, row2, ec, hxl, hxb, r2⟩ := comp_ints (tg := tName 4) (t := con (.bl true)) (e := elt) (env := [.ref 0, .sh (.int 3), .sh (.lst GR3), .sh (.int k), .un, .un, .un, .un, .un, .un, .un]) (fun v => -20 ≤ v ∧ v ≤ 20) (fun d row r => by
    obtain ⟨v, row', e, hv, r'⟩ := elt_ok (env := [.ref 0, .sh (.int 3), .sh (.lst GR3), .sh (.int k), .sh d, .un, .un, .un, .un, .un, .un]) rfl r
    exact ⟨_, v, row', rfl, rfl, e, hv, r'⟩) GR3 row1 r1
  obtain ⟨x0, x1, x2, x3, x4, x5, x6, rfl⟩ := len3 xs hxl
  simp only [List.forall_mem_cons] at hxb
  obtain ⟨h0, h1, h2, h3, h4, h5, h6, _⟩ := hxb
  obtain ⟨w, row3, r3, w0, w1, ew⟩ := taken_ok (m := 3) r2 (by decide) (by decide)
  obtain ⟨x, ⟨o, eo, o0, o1⟩, _, row4, r4, ep⟩ := pick_in (i := 23) (cf := call 10) rfl (d := row3) (l := [.int 0, .int 0, .int 3]) (fun x => ∃ v : Int, x = .int v ∧ 0 ≤ v ∧ v ≤ 3) r3 (by decide) (by decide) (fun x hx => by
    simp only [List.mem_cons, List.not_mem_nil, or_false] at hx
    rcases hx with rfl | rfl | rfl <;> exact ⟨_, rfl, by decide, by decide⟩)
  subst eo
  have fin : ∀ res : List Int, t34_4 (call 11) [.ref 0, .sh (.int 3), .sh (.lst GR3), .sh (.int k), .un, .sh (.lst ([x0, x1, x2, x3, x4, x5, x6].map D.int)), .own (.dT (T3 x0 x1 x2 x3 x4 x5 x6)), .sh (.int w), .sh (.int o), .un, .un] [row4] = .ok (.ret ⟨false, nD res⟩) [row4] → call 12 34 [.ref 0, .sh (.int 3)] [row] = .ok ⟨false, nD res⟩ [row4] := fun res hr =>
    f_ret (a := t34_0 (call 11)) (m := 11) (s_nx (e_par2 (x_call (a_sh rfl rfl) (groupsB3 _)) (x_call (a_ref rfl (a_val rfl rfl)) ek) rfl rfl)
      (s_nx (e_set (e_comp (ds := GR3) rfl (by decide) ec)) (s_nx (e_par2 (x_call (a_sh rfl (a_sh rfl rfl)) (worths3 x0 x1 x2 x3 x4 x5 x6 _)) (x_call (a_ref rfl (a_sh rfl rfl)) ew) rfl rfl)
      (s_nx (e_set (x_call (a_ref rfl (a_val rfl rfl)) ep)) hr))))
  have hk : k = 0 ∨ k = 1 ∨ k = 2 ∨ k = 3 ∨ k = 4 ∨ k = 5 := by omega
  have hw : w = 0 ∨ w = 1 ∨ w = 2 := by omega
  rcases hk with rfl | rfl | rfl | rfl | rfl | rfl <;> rcases hw with rfl | rfl | rfl
  · exact ⟨[x0, x1, x2, x3, x4, x5, x6], row4, rfl, by simp only [List.forall_mem_cons, sumI]; refine ⟨?_, ?_, ?_, ?_, ?_, ?_, ?_, fun _ h => nomatch h⟩ <;> omega, r4, fin _ (g3_0_0 x0 x1 x2 x3 x4 x5 x6 o _)⟩
  · exact ⟨[x0, x1, x2, x3, x4, x5, x6], row4, rfl, by simp only [List.forall_mem_cons, sumI]; refine ⟨?_, ?_, ?_, ?_, ?_, ?_, ?_, fun _ h => nomatch h⟩ <;> omega, r4, fin _ (g3_0_1 x0 x1 x2 x3 x4 x5 x6 o _)⟩
  · exact ⟨[x0, x1, x2, x3, x4, x5, x6], row4, rfl, by simp only [List.forall_mem_cons, sumI]; refine ⟨?_, ?_, ?_, ?_, ?_, ?_, ?_, fun _ h => nomatch h⟩ <;> omega, r4, fin _ (g3_0_2 x0 x1 x2 x3 x4 x5 x6 o _)⟩
  · exact ⟨[sumI [x0], sumI [x1], sumI [x2], sumI [x0, x1], sumI [x0, x2], sumI [x1, x2], sumI [x0, x1, x2]], row4, rfl, by simp only [List.forall_mem_cons, sumI]; refine ⟨?_, ?_, ?_, ?_, ?_, ?_, ?_, fun _ h => nomatch h⟩ <;> omega, r4, fin _ (g3_1_0 x0 x1 x2 x3 x4 x5 x6 o _)⟩
  · exact ⟨[sumI [x0], sumI [x1], sumI [x2], sumI [x0, x1], sumI [x0, x2], sumI [x1, x2], sumI [x0, x1, x2]], row4, rfl, by simp only [List.forall_mem_cons, sumI]; refine ⟨?_, ?_, ?_, ?_, ?_, ?_, ?_, fun _ h => nomatch h⟩ <;> omega, r4, fin _ (g3_1_1 x0 x1 x2 x3 x4 x5 x6 o _)⟩
  · exact ⟨[sumI [x0], sumI [x1], sumI [x2], sumI [x0, x1], sumI [x0, x2], sumI [x1, x2], sumI [x0, x1, x2]], row4, rfl, by simp only [List.forall_mem_cons, sumI]; refine ⟨?_, ?_, ?_, ?_, ?_, ?_, ?_, fun _ h => nomatch h⟩ <;> omega, r4, fin _ (g3_1_2 x0 x1 x2 x3 x4 x5 x6 o _)⟩
  · exact ⟨[0 + o, x1 + 0, x2 + 0, x1 + o, x2 + o, x5 + 0, x5 + o], row4, rfl, by simp only [List.forall_mem_cons, sumI]; refine ⟨?_, ?_, ?_, ?_, ?_, ?_, ?_, fun _ h => nomatch h⟩ <;> omega, r4, fin _ (g3_2_0 x0 x1 x2 x3 x4 x5 x6 o _)⟩
  · exact ⟨[x0 + 0, 0 + o, x2 + 0, x0 + o, x4 + 0, x2 + o, x4 + o], row4, rfl, by simp only [List.forall_mem_cons, sumI]; refine ⟨?_, ?_, ?_, ?_, ?_, ?_, ?_, fun _ h => nomatch h⟩ <;> omega, r4, fin _ (g3_2_1 x0 x1 x2 x3 x4 x5 x6 o _)⟩
  · exact ⟨[x0 + 0, x1 + 0, 0 + o, x3 + 0, x0 + o, x1 + o, x3 + o], row4, rfl, by simp only [List.forall_mem_cons, sumI]; refine ⟨?_, ?_, ?_, ?_, ?_, ?_, ?_, fun _ h => nomatch h⟩ <;> omega, r4, fin _ (g3_2_2 x0 x1 x2 x3 x4 x5 x6 o _)⟩
  · exact ⟨[x0, x0, x2, x3, x4, x4, x6], row4, rfl, by simp only [List.forall_mem_cons, sumI]; refine ⟨?_, ?_, ?_, ?_, ?_, ?_, ?_, fun _ h => nomatch h⟩ <;> omega, r4, fin _ (g3_3_0 x0 x1 x2 x3 x4 x5 x6 o _)⟩
  · exact ⟨[x0, x1, x1, x3, x3, x5, x6], row4, rfl, by simp only [List.forall_mem_cons, sumI]; refine ⟨?_, ?_, ?_, ?_, ?_, ?_, ?_, fun _ h => nomatch h⟩ <;> omega, r4, fin _ (g3_3_1 x0 x1 x2 x3 x4 x5 x6 o _)⟩
  · exact ⟨[x2, x1, x2, x5, x4, x5, x6], row4, rfl, by simp only [List.forall_mem_cons, sumI]; refine ⟨?_, ?_, ?_, ?_, ?_, ?_, ?_, fun _ h => nomatch h⟩ <;> omega, r4, fin _ (g3_3_2 x0 x1 x2 x3 x4 x5 x6 o _)⟩
  · exact ⟨[0, x1, x2, 0, 0, x5, 0], row4, rfl, by simp only [List.forall_mem_cons, sumI]; refine ⟨?_, ?_, ?_, ?_, ?_, ?_, ?_, fun _ h => nomatch h⟩ <;> omega, r4, fin _ (g3_4_0 x0 x1 x2 x3 x4 x5 x6 o _)⟩
  · exact ⟨[x0, 0, x2, 0, x4, 0, 0], row4, rfl, by simp only [List.forall_mem_cons, sumI]; refine ⟨?_, ?_, ?_, ?_, ?_, ?_, ?_, fun _ h => nomatch h⟩ <;> omega, r4, fin _ (g3_4_1 x0 x1 x2 x3 x4 x5 x6 o _)⟩
  · exact ⟨[x0, x1, 0, x3, 0, 0, 0], row4, rfl, by simp only [List.forall_mem_cons, sumI]; refine ⟨?_, ?_, ?_, ?_, ?_, ?_, ?_, fun _ h => nomatch h⟩ <;> omega, r4, fin _ (g3_4_2 x0 x1 x2 x3 x4 x5 x6 o _)⟩
  · exact ⟨[x0, x1, x2, x3, x4, x5, x6], row4, rfl, by simp only [List.forall_mem_cons, sumI]; refine ⟨?_, ?_, ?_, ?_, ?_, ?_, ?_, fun _ h => nomatch h⟩ <;> omega, r4, fin _ (g3_5_0 x0 x1 x2 x3 x4 x5 x6 o _)⟩
  · exact ⟨[x0, x1, x2, x3, x4, x5, x6], row4, rfl, by simp only [List.forall_mem_cons, sumI]; refine ⟨?_, ?_, ?_, ?_, ?_, ?_, ?_, fun _ h => nomatch h⟩ <;> omega, r4, fin _ (g3_5_1 x0 x1 x2 x3 x4 x5 x6 o _)⟩
  · exact ⟨[x0, x1, x2, x3, x4, x5, x6], row4, rfl, by simp only [List.forall_mem_cons, sumI]; refine ⟨?_, ?_, ?_, ?_, ?_, ?_, ?_, fun _ h => nomatch h⟩ <;> omega, r4, fin _ (g3_5_2 x0 x1 x2 x3 x4 x5 x6 o _)⟩
theorem len4 : ∀ l : List Int, l.length = 15 → ∃ x0 x1 x2 x3 x4 x5 x6 x7 x8 x9 x10 x11 x12 x13 x14, l = [x0, x1, x2, x3, x4, x5, x6, x7, x8, x9, x10, x11, x12, x13, x14]
  | [x0, x1, x2, x3, x4, x5, x6, x7, x8, x9, x10, x11, x12, x13, x14], _ => ⟨x0, x1, x2, x3, x4, x5, x6, x7, x8, x9, x10, x11, x12, x13, x14, rfl⟩
abbrev T4 (x0 x1 x2 x3 x4 x5 x6 x7 x8 x9 x10 x11 x12 x13 x14 : Int) : List (List Key × D) := [([.inl 0], .int x0), ([.inl 1], .int x1), ([.inl 2], .int x2), ([.inl 3], .int x3), ([.inl 0, .inl 1], .int x4), ([.inl 0, .inl 2], .int x5), ([.inl 0, .inl 3], .int x6), ([.inl 1, .inl 2], .int x7), ([.inl 1, .inl 3], .int x8), ([.inl 2, .inl 3], .int x9), ([.inl 0, .inl 1, .inl 2], .int x10), ([.inl 0, .inl 1, .inl 3], .int x11), ([.inl 0, .inl 2, .inl 3], .int x12), ([.inl 1, .inl 2, .inl 3], .int x13), ([.inl 0, .inl 1, .inl 2, .inl 3], .int x14), ([], .int 0)]
theorem worths4 (x0 x1 x2 x3 x4 x5 x6 x7 x8 x9 x10 x11 x12 x13 x14 : Int) (S : Sto) : call 11 27 [.sh (.lst ([x0, x1, x2, x3, x4, x5, x6, x7, x8, x9, x10, x11, x12, x13, x14].map D.int)), .sh (.int 4)] S = .ok ⟨true, .dT (T4 x0 x1 x2 x3 x4 x5 x6 x7 x8 x9 x10 x11 x12 x13 x14)⟩ S := by kernel_rfl
theorem g4_0_0 (x0 x1 x2 x3 x4 x5 x6 x7 x8 x9 x10 x11 x12 x13 x14 o : Int) (S : Sto) : t34_4 (call 11) [.ref 0, .sh (.int 4), .sh (.lst GR4), .sh (.int 0), .un, .sh (.lst ([x0, x1, x2, x3, x4, x5, x6, x7, x8, x9, x10, x11, x12, x13, x14].map D.int)), .own (.dT (T4 x0 x1 x2 x3 x4 x5 x6 x7 x8 x9 x10 x11 x12 x13 x14)), .sh (.int 0), .sh (.int o), .un, .un] S = .ok (.ret ⟨false, nD [x0, x1, x2, x3, x4, x5, x6, x7, x8, x9, x10, x11, x12, x13, x14]⟩) S := by kernel_rfl
theorem g4_0_1 (x0 x1 x2 x3 x4 x5 x6 x7 x8 x9 x10 x11 x12 x13 x14 o : Int) (S : Sto) : t34_4 (call 11) [.ref 0, .sh (.int 4), .sh (.lst GR4), .sh (.int 0), .un, .sh (.lst ([x0, x1, x2, x3, x4, x5, x6, x7, x8, x9, x10, x11, x12, x13, x14].map D.int)), .own (.dT (T4 x0 x1 x2 x3 x4 x5 x6 x7 x8 x9 x10 x11 x12 x13 x14)), .sh (.int 1), .sh (.int o), .un, .un] S = .ok (.ret ⟨false, nD [x0, x1, x2, x3, x4, x5, x6, x7, x8, x9, x10, x11, x12, x13, x14]⟩) S := by kernel_rfl
theorem g4_0_2 (x0 x1 x2 x3 x4 x5 x6 x7 x8 x9 x10 x11 x12 x13 x14 o : Int) (S : Sto) : t34_4 (call 11) [.ref 0, .sh (.int 4), .sh (.lst GR4), .sh (.int 0), .un, .sh (.lst ([x0, x1, x2, x3, x4, x5, x6, x7, x8, x9, x10, x11, x12, x13, x14].map D.int)), .own (.dT (T4 x0 x1 x2 x3 x4 x5 x6 x7 x8 x9 x10 x11 x12 x13 x14)), .sh (.int 2), .sh (.int o), .un, .un] S = .ok (.ret ⟨false, nD [x0, x1, x2, x3, x4, x5, x6, x7, x8, x9, x10, x11, x12, x13, x14]⟩) S := by kernel_rfl
theorem g4_0_3 (x0 x1 x2 x3 x4 x5 x6 x7 x8 x9 x10 x11 x12 x13 x14 o : Int) (S : Sto) : t34_4 (call 11) [.ref 0, .sh (.int 4), .sh (.lst GR4), .sh (.int 0), .un, .sh (.lst ([x0, x1, x2, x3, x4, x5, x6, x7, x8, x9, x10, x11, x12, x13, x14].map D.int)), .own (.dT (T4 x0 x1 x2 x3 x4 x5 x6 x7 x8 x9 x10 x11 x12 x13 x14)), .sh (.int 3), .sh (.int o), .un, .un] S = .ok (.ret ⟨false, nD [x0, x1, x2, x3, x4, x5, x6, x7, x8, x9, x10, x11, x12, x13, x14]⟩) S := by kernel_rfl
theorem g4_1_0 (x0 x1 x2 x3 x4 x5 x6 x7 x8 x9 x10 x11 x12 x13 x14 o : Int) (S : Sto) : t34_4 (call 11) [.ref 0, .sh (.int 4), .sh (.lst GR4), .sh (.int 1), .un, .sh (.lst ([x0, x1, x2, x3, x4, x5, x6, x7, x8, x9, x10, x11, x12, x13, x14].map D.int)), .own (.dT (T4 x0 x1 x2 x3 x4 x5 x6 x7 x8 x9 x10 x11 x12 x13 x14)), .sh (.int 0), .sh (.int o), .un, .un] S = .ok (.ret ⟨false, nD [sumI [x0], sumI [x1], sumI [x2], sumI [x3], sumI [x0, x1], sumI [x0, x2], sumI [x0, x3], sumI [x1, x2], sumI [x1, x3], sumI [x2, x3], sumI [x0, x1, x2], sumI [x0, x1, x3], sumI [x0, x2, x3], sumI [x1, x2, x3], sumI [x0, x1, x2, x3]]⟩) S := by kernel_rfl
theorem g4_1_1 (x0 x1 x2 x3 x4 x5 x6 x7 x8 x9 x10 x11 x12 x13 x14 o : Int) (S : Sto) : t34_4 (call 11) [.ref 0, .sh (.int 4), .sh (.lst GR4), .sh (.int 1), .un, .sh (.lst ([x0, x1, x2, x3, x4, x5, x6, x7, x8, x9, x10, x11, x12, x13, x14].map D.int)), .own (.dT (T4 x0 x1 x2 x3 x4 x5 x6 x7 x8 x9 x10 x11 x12 x13 x14)), .sh (.int 1), .sh (.int o), .un, .un] S = .ok (.ret ⟨false, nD [sumI [x0], sumI [x1], sumI [x2], sumI [x3], sumI [x0, x1], sumI [x0, x2], sumI [x0, x3], sumI [x1, x2], sumI [x1, x3], sumI [x2, x3], sumI [x0, x1, x2], sumI [x0, x1, x3], sumI [x0, x2, x3], sumI [x1, x2, x3], sumI [x0, x1, x2, x3]]⟩) S := by kernel_rfl
theorem g4_1_2 (x0 x1 x2 x3 x4 x5 x6 x7 x8 x9 x10 x11 x12 x13 x14 o : Int) (S : Sto) : t34_4 (call 11) [.ref 0, .sh (.int 4), .sh (.lst GR4), .sh (.int 1), .un, .sh (.lst ([x0, x1, x2, x3, x4, x5, x6, x7, x8, x9, x10, x11, x12, x13, x14].map D.int)), .own (.dT (T4 x0 x1 x2 x3 x4 x5 x6 x7 x8 x9 x10 x11 x12 x13 x14)), .sh (.int 2), .sh (.int o), .un, .un] S = .ok (.ret ⟨false, nD [sumI [x0], sumI [x1], sumI [x2], sumI [x3], sumI [x0, x1], sumI [x0, x2], sumI [x0, x3], sumI [x1, x2], sumI [x1, x3], sumI [x2, x3], sumI [x0, x1, x2], sumI [x0, x1, x3], sumI [x0, x2, x3], sumI [x1, x2, x3], sumI [x0, x1, x2, x3]]⟩) S := by kernel_rfl
theorem g4_1_3 (x0 x1 x2 x3 x4 x5 x6 x7 x8 x9 x10 x11 x12 x13 x14 o : Int) (S : Sto) : t34_4 (call 11) [.ref 0, .sh (.int 4), .sh (.lst GR4), .sh (.int 1), .un, .sh (.lst ([x0, x1, x2, x3, x4, x5, x6, x7, x8, x9, x10, x11, x12, x13, x14].map D.int)), .own (.dT (T4 x0 x1 x2 x3 x4 x5 x6 x7 x8 x9 x10 x11 x12 x13 x14)), .sh (.int 3), .sh (.int o), .un, .un] S = .ok (.ret ⟨false, nD [sumI [x0], sumI [x1], sumI [x2], sumI [x3], sumI [x0, x1], sumI [x0, x2], sumI [x0, x3], sumI [x1, x2], sumI [x1, x3], sumI [x2, x3], sumI [x0, x1, x2], sumI [x0, x1, x3], sumI [x0, x2, x3], sumI [x1, x2, x3], sumI [x0, x1, x2, x3]]⟩) S := by kernel_rfl
theorem g4_2_0 (x0 x1 x2 x3 x4 x5 x6 x7 x8 x9 x10 x11 x12 x13 x14 o : Int) (S : Sto) : t34_4 (call 11) [.ref 0, .sh (.int 4), .sh (.lst GR4), .sh (.int 2), .un, .sh (.lst ([x0, x1, x2, x3, x4, x5, x6, x7, x8, x9, x10, x11, x12, x13, x14].map D.int)), .own (.dT (T4 x0 x1 x2 x3 x4 x5 x6 x7 x8 x9 x10 x11 x12 x13 x14)), .sh (.int 0), .sh (.int o), .un, .un] S = .ok (.ret ⟨false, nD [0 + o, x1 + 0, x2 + 0, x3 + 0, x1 + o, x2 + o, x3 + o, x7 + 0, x8 + 0, x9 + 0, x7 + o, x8 + o, x9 + o, x13 + 0, x13 + o]⟩) S := by kernel_rfl
theorem g4_2_1 (x0 x1 x2 x3 x4 x5 x6 x7 x8 x9 x10 x11 x12 x13 x14 o : Int) (S : Sto) : t34_4 (call 11) [.ref 0, .sh (.int 4), .sh (.lst GR4), .sh (.int 2), .un, .sh (.lst ([x0, x1, x2, x3, x4, x5, x6, x7, x8, x9, x10, x11, x12, x13, x14].map D.int)), .own (.dT (T4 x0 x1 x2 x3 x4 x5 x6 x7 x8 x9 x10 x11 x12 x13 x14)), .sh (.int 1), .sh (.int o), .un, .un] S = .ok (.ret ⟨false, nD [x0 + 0, 0 + o, x2 + 0, x3 + 0, x0 + o, x5 + 0, x6 + 0, x2 + o, x3 + o, x9 + 0, x5 + o, x6 + o, x12 + 0, x9 + o, x12 + o]⟩) S := by kernel_rfl
theorem g4_2_2 (x0 x1 x2 x3 x4 x5 x6 x7 x8 x9 x10 x11 x12 x13 x14 o : Int) (S : Sto) : t34_4 (call 11) [.ref 0, .sh (.int 4), .sh (.lst GR4), .sh (.int 2), .un, .sh (.lst ([x0, x1, x2, x3, x4, x5, x6, x7, x8, x9, x10, x11, x12, x13, x14].map D.int)), .own (.dT (T4 x0 x1 x2 x3 x4 x5 x6 x7 x8 x9 x10 x11 x12 x13 x14)), .sh (.int 2), .sh (.int o), .un, .un] S = .ok (.ret ⟨false, nD [x0 + 0, x1 + 0, 0 + o, x3 + 0, x4 + 0, x0 + o, x6 + 0, x1 + o, x8 + 0, x3 + o, x4 + o, x11 + 0, x6 + o, x8 + o, x11 + o]⟩) S := by kernel_rfl
theorem g4_2_3 (x0 x1 x2 x3 x4 x5 x6 x7 x8 x9 x10 x11 x12 x13 x14 o : Int) (S : Sto) : t34_4 (call 11) [.ref 0, .sh (.int 4), .sh (.lst GR4), .sh (.int 2), .un, .sh (.lst ([x0, x1, x2, x3, x4, x5, x6, x7, x8, x9, x10, x11, x12, x13, x14].map D.int)), .own (.dT (T4 x0 x1 x2 x3 x4 x5 x6 x7 x8 x9 x10 x11 x12 x13 x14)), .sh (.int 3), .sh (.int o), .un, .un] S = .ok (.ret ⟨false, nD [x0 + 0, x1 + 0, x2 + 0, 0 + o, x4 + 0, x5 + 0, x0 + o, x7 + 0, x1 + o, x2 + o, x10 + 0, x4 + o, x5 + o, x7 + o, x10 + o]⟩) S := by kernel_rfl
theorem g4_3_0 (x0 x1 x2 x3 x4 x5 x6 x7 x8 x9 x10 x11 x12 x13 x14 o : Int) (S : Sto) : t34_4 (call 11) [.ref 0, .sh (.int 4), .sh (.lst GR4), .sh (.int 3), .un, .sh (.lst ([x0, x1, x2, x3, x4, x5, x6, x7, x8, x9, x10, x11, x12, x13, x14].map D.int)), .own (.dT (T4 x0 x1 x2 x3 x4 x5 x6 x7 x8 x9 x10 x11 x12 x13 x14)), .sh (.int 0), .sh (.int o), .un, .un] S = .ok (.ret ⟨false, nD [x0, x0, x2, x3, x4, x5, x6, x5, x6, x9, x10, x11, x12, x12, x14]⟩) S := by kernel_rfl
theorem g4_3_1 (x0 x1 x2 x3 x4 x5 x6 x7 x8 x9 x10 x11 x12 x13 x14 o : Int) (S : Sto) : t34_4 (call 11) [.ref 0, .sh (.int 4), .sh (.lst GR4), .sh (.int 3), .un, .sh (.lst ([x0, x1, x2, x3, x4, x5, x6, x7, x8, x9, x10, x11, x12, x13, x14].map D.int)), .own (.dT (T4 x0 x1 x2 x3 x4 x5 x6 x7 x8 x9 x10 x11 x12 x13 x14)), .sh (.int 1), .sh (.int o), .un, .un] S = .ok (.ret ⟨false, nD [x0, x1, x1, x3, x4, x4, x6, x7, x8, x8, x10, x11, x11, x13, x14]⟩) S := by kernel_rfl
theorem g4_3_2 (x0 x1 x2 x3 x4 x5 x6 x7 x8 x9 x10 x11 x12 x13 x14 o : Int) (S : Sto) : t34_4 (call 11) [.ref 0, .sh (.int 4), .sh (.lst GR4), .sh (.int 3), .un, .sh (.lst ([x0, x1, x2, x3, x4, x5, x6, x7, x8, x9, x10, x11, x12, x13, x14].map D.int)), .own (.dT (T4 x0 x1 x2 x3 x4 x5 x6 x7 x8 x9 x10 x11 x12 x13 x14)), .sh (.int 2), .sh (.int o), .un, .un] S = .ok (.ret ⟨false, nD [x0, x1, x2, x2, x4, x5, x5, x7, x7, x9, x10, x10, x12, x13, x14]⟩) S := by kernel_rfl
theorem g4_3_3 (x0 x1 x2 x3 x4 x5 x6 x7 x8 x9 x10 x11 x12 x13 x14 o : Int) (S : Sto) : t34_4 (call 11) [.ref 0, .sh (.int 4), .sh (.lst GR4), .sh (.int 3), .un, .sh (.lst ([x0, x1, x2, x3, x4, x5, x6, x7, x8, x9, x10, x11, x12, x13, x14].map D.int)), .own (.dT (T4 x0 x1 x2 x3 x4 x5 x6 x7 x8 x9 x10 x11 x12 x13 x14)), .sh (.int 3), .sh (.int o), .un, .un] S = .ok (.ret ⟨false, nD [x3, x1, x2, x3, x8, x9, x6, x7, x8, x9, x13, x11, x12, x13, x14]⟩) S := by kernel_rfl
theorem g4_4_0 (x0 x1 x2 x3 x4 x5 x6 x7 x8 x9 x10 x11 x12 x13 x14 o : Int) (S : Sto) : t34_4 (call 11) [.ref 0, .sh (.int 4), .sh (.lst GR4), .sh (.int 4), .un, .sh (.lst ([x0, x1, x2, x3, x4, x5, x6, x7, x8, x9, x10, x11, x12, x13, x14].map D.int)), .own (.dT (T4 x0 x1 x2 x3 x4 x5 x6 x7 x8 x9 x10 x11 x12 x13 x14)), .sh (.int 0), .sh (.int o), .un, .un] S = .ok (.ret ⟨false, nD [0, x1, x2, x3, 0, 0, 0, x7, x8, x9, 0, 0, 0, x13, 0]⟩) S := by kernel_rfl
theorem g4_4_1 (x0 x1 x2 x3 x4 x5 x6 x7 x8 x9 x10 x11 x12 x13 x14 o : Int) (S : Sto) : t34_4 (call 11) [.ref 0, .sh (.int 4), .sh (.lst GR4), .sh (.int 4), .un, .sh (.lst ([x0, x1, x2, x3, x4, x5, x6, x7, x8, x9, x10, x11, x12, x13, x14].map D.int)), .own (.dT (T4 x0 x1 x2 x3 x4 x5 x6 x7 x8 x9 x10 x11 x12 x13 x14)), .sh (.int 1), .sh (.int o), .un, .un] S = .ok (.ret ⟨false, nD [x0, 0, x2, x3, 0, x5, x6, 0, 0, x9, 0, 0, x12, 0, 0]⟩) S := by kernel_rfl
theorem g4_4_2 (x0 x1 x2 x3 x4 x5 x6 x7 x8 x9 x10 x11 x12 x13 x14 o : Int) (S : Sto) : t34_4 (call 11) [.ref 0, .sh (.int 4), .sh (.lst GR4), .sh (.int 4), .un, .sh (.lst ([x0, x1, x2, x3, x4, x5, x6, x7, x8, x9, x10, x11, x12, x13, x14].map D.int)), .own (.dT (T4 x0 x1 x2 x3 x4 x5 x6 x7 x8 x9 x10 x11 x12 x13 x14)), .sh (.int 2), .sh (.int o), .un, .un] S = .ok (.ret ⟨false, nD [x0, x1, 0, x3, x4, 0, x6, 0, x8, 0, 0, x11, 0, 0, 0]⟩) S := by kernel_rfl
theorem g4_4_3 (x0 x1 x2 x3 x4 x5 x6 x7 x8 x9 x10 x11 x12 x13 x14 o : Int) (S : Sto) : t34_4 (call 11) [.ref 0, .sh (.int 4), .sh (.lst GR4), .sh (.int 4), .un, .sh (.lst ([x0, x1, x2, x3, x4, x5, x6, x7, x8, x9, x10, x11, x12, x13, x14].map D.int)), .own (.dT (T4 x0 x1 x2 x3 x4 x5 x6 x7 x8 x9 x10 x11 x12 x13 x14)), .sh (.int 3), .sh (.int o), .un, .un] S = .ok (.ret ⟨false, nD [x0, x1, x2, 0, x4, x5, 0, x7, 0, 0, x10, 0, 0, 0, 0]⟩) S := by kernel_rfl
theorem g4_5_0 (x0 x1 x2 x3 x4 x5 x6 x7 x8 x9 x10 x11 x12 x13 x14 o : Int) (S : Sto) : t34_4 (call 11) [.ref 0, .sh (.int 4), .sh (.lst GR4), .sh (.int 5), .un, .sh (.lst ([x0, x1, x2, x3, x4, x5, x6, x7, x8, x9, x10, x11, x12, x13, x14].map D.int)), .own (.dT (T4 x0 x1 x2 x3 x4 x5 x6 x7 x8 x9 x10 x11 x12 x13 x14)), .sh (.int 0), .sh (.int o), .un, .un] S = .ok (.ret ⟨false, nD [x0, x1, x2, x3, x4, x5, x6, x7, x8, x9, x10, x11, x12, x13, x14]⟩) S := by kernel_rfl
theorem g4_5_1 (x0 x1 x2 x3 x4 x5 x6 x7 x8 x9 x10 x11 x12 x13 x14 o : Int) (S : Sto) : t34_4 (call 11) [.ref 0, .sh (.int 4), .sh (.lst GR4), .sh (.int 5), .un, .sh (.lst ([x0, x1, x2, x3, x4, x5, x6, x7, x8, x9, x10, x11, x12, x13, x14].map D.int)), .own (.dT (T4 x0 x1 x2 x3 x4 x5 x6 x7 x8 x9 x10 x11 x12 x13 x14)), .sh (.int 1), .sh (.int o), .un, .un] S = .ok (.ret ⟨false, nD [x0, x1, x2, x3, x4, x5, x6, x7, x8, x9, x10, x11, x12, x13, x14]⟩) S := by kernel_rfl
theorem g4_5_2 (x0 x1 x2 x3 x4 x5 x6 x7 x8 x9 x10 x11 x12 x13 x14 o : Int) (S : Sto) : t34_4 (call 11) [.ref 0, .sh (.int 4), .sh (.lst GR4), .sh (.int 5), .un, .sh (.lst ([x0, x1, x2, x3, x4, x5, x6, x7, x8, x9, x10, x11, x12, x13, x14].map D.int)), .own (.dT (T4 x0 x1 x2 x3 x4 x5 x6 x7 x8 x9 x10 x11 x12 x13 x14)), .sh (.int 2), .sh (.int o), .un, .un] S = .ok (.ret ⟨false, nD [x0, x1, x2, x3, x4, x5, x6, x7, x8, x9, x10, x11, x12, x13, x14]⟩) S := by kernel_rfl
theorem g4_5_3 (x0 x1 x2 x3 x4 x5 x6 x7 x8 x9 x10 x11 x12 x13 x14 o : Int) (S : Sto) : t34_4 (call 11) [.ref 0, .sh (.int 4), .sh (.lst GR4), .sh (.int 5), .un, .sh (.lst ([x0, x1, x2, x3, x4, x5, x6, x7, x8, x9, x10, x11, x12, x13, x14].map D.int)), .own (.dT (T4 x0 x1 x2 x3 x4 x5 x6 x7 x8 x9 x10 x11 x12 x13 x14)), .sh (.int 3), .sh (.int o), .un, .un] S = .ok (.ret ⟨false, nD [x0, x1, x2, x3, x4, x5, x6, x7, x8, x9, x10, x11, x12, x13, x14]⟩) S := by kernel_rfl
theorem game4 (row : D) (r : RowOk row) : ∃ xs row', xs.length = 15 ∧ (∀ x ∈ xs, -100 ≤ x ∧ x ≤ 100) ∧ RowOk row' ∧ call 12 34 [.ref 0, .sh (.int 4)] [row] = .ok ⟨false, nD xs⟩ [row'] := by
  obtain ⟨k, row1, r1, k0, k1, ek⟩ := taken_ok (m := 6) r (by decide) (by decide)
  obtain ⟨xs, row2, ec, hxl, hxb, r2⟩ := comp_ints (tg := tName 4) (t := con (.bl true)) (e := elt) (env := [.ref 0, .sh (.int 4), .sh (.lst GR4), .sh (.int k), .un, .un, .un, .un, .un, .un, .un]) (fun v => -20 ≤ v ∧ v ≤ 20) (fun d row r => by
    obtain ⟨v, row', e, hv, r'⟩ := elt_ok (env := [.ref 0, .sh (.int 4), .sh (.lst GR4), .sh (.int k), .sh d, .un, .un, .un, .un, .un, .un]) rfl r
    exact ⟨_, v, row', rfl, rfl, e, hv, r'⟩) GR4 row1 r1
  obtain ⟨x0, x1, x2, x3, x4, x5, x6, x7, x8, x9, x10, x11, x12, x13, x14, rfl⟩ := len4 xs hxl
  simp only [List.forall_mem_cons] at hxb
  obtain ⟨h0, h1, h2, h3, h4, h5, h6, h7, h8, h9, h10, h11, h12, h13, h14, _⟩ := hxb
  obtain ⟨w, row3, r3, w0, w1, ew⟩ := taken_ok (m := 4) r2 (by decide) (by decide)
  obtain ⟨x, ⟨o, eo, o0, o1⟩, _, row4, r4, ep⟩ := pick_in (i := 23) (cf := call 10) rfl (d := row3) (l := [.int 0, .int 0, .int 3]) (fun x => ∃ v : Int, x = .int v ∧ 0 ≤ v ∧ v ≤ 3) r3 (by decide) (by decide) (fun x hx => by
    simp only [List.mem_cons, List.not_mem_nil, or_false] at hx
    rcases hx with rfl | rfl | rfl <;> exact ⟨_, rfl, by decide, by decide⟩)
  subst eo
  have fin : ∀ res : List Int, t34_4 (call 11) [.ref 0, .sh (.int 4), .sh (.lst GR4), .sh (.int k), .un, .sh (.lst ([x0, x1, x2, x3, x4, x5, x6, x7, x8, x9, x10, x11, x12, x13, x14].map D.int)), .own (.dT (T4 x0 x1 x2 x3 x4 x5 x6 x7 x8 x9 x10 x11 x12 x13 x14)), .sh (.int w), .sh (.int o), .un, .un] [row4] = .ok (.ret ⟨false, nD res⟩) [row4] → call 12 34 [.ref 0, .sh (.int 4)] [row] = .ok ⟨false, nD res⟩ [row4] := fun res hr =>
    f_ret (a := t34_0 (call 11)) (m := 11) (s_nx (e_par2 (x_call (a_sh rfl rfl) (groupsB4 _)) (x_call (a_ref rfl (a_val rfl rfl)) ek) rfl rfl)
      (s_nx (e_set (e_comp (ds := GR4) rfl (by decide) ec)) (s_nx (e_par2 (x_call (a_sh rfl (a_sh rfl rfl)) (worths4 x0 x1 x2 x3 x4 x5 x6 x7 x8 x9 x10 x11 x12 x13 x14 _)) (x_call (a_ref rfl (a_sh rfl rfl)) ew) rfl rfl)
      (s_nx (e_set (x_call (a_ref rfl (a_val rfl rfl)) ep)) hr))))
  have hk : k = 0 ∨ k = 1 ∨ k = 2 ∨ k = 3 ∨ k = 4 ∨ k = 5 := by omega
  have hw : w = 0 ∨ w = 1 ∨ w = 2 ∨ w = 3 := by omega
  rcases hk with rfl | rfl | rfl | rfl | rfl | rfl <;> rcases hw with rfl | rfl | rfl | rfl
  · exact ⟨[x0, x1, x2, x3, x4, x5, x6, x7, x8, x9, x10, x11, x12, x13, x14], row4, rfl, by simp only [List.forall_mem_cons, sumI]; refine ⟨?_, ?_, ?_, ?_, ?_, ?_, ?_, ?_, ?_, ?_, ?_, ?_, ?_, ?_, ?_, fun _ h => nomatch h⟩ <;> omega, r4, fin _ (g4_0_0 x0 x1 x2 x3 x4 x5 x6 x7 x8 x9 x10 x11 x12 x13 x14 o _)⟩
  · exact ⟨[x0, x1, x2, x3, x4, x5, x6, x7, x8, x9, x10, x11, x12, x13, x14], row4, rfl, by simp only [List.forall_mem_cons, sumI]; refine ⟨?_, ?_, ?_, ?_, ?_, ?_, ?_, ?_, ?_, ?_, ?_, ?_, ?_, ?_, ?_, fun _ h => nomatch h⟩ <;> omega, r4, fin _ (g4_0_1 x0 x1 x2 x3 x4 x5 x6 x7 x8 x9 x10 x11 x12 x13 x14 o _)⟩
  · exact ⟨[x0, x1, x2, x3, x4, x5, x6, x7, x8, x9, x10, x11, x12, x13, x14], row4, rfl, by simp only [List.forall_mem_cons, sumI]; refine ⟨?_, ?_, ?_, ?_, ?_, ?_, ?_, ?_, ?_, ?_, ?_, ?_, ?_, ?_, ?_, fun _ h => nomatch h⟩ <;> omega, r4, fin _ (g4_0_2 x0 x1 x2 x3 x4 x5 x6 x7 x8 x9 x10 x11 x12 x13 x14 o _)⟩
  · exact ⟨[x0, x1, x2, x3, x4, x5, x6, x7, x8, x9, x10, x11, x12, x13, x14], row4, rfl, by simp only [List.forall_mem_cons, sumI]; refine ⟨?_, ?_, ?_, ?_, ?_, ?_, ?_, ?_, ?_, ?_, ?_, ?_, ?_, ?_, ?_, fun _ h => nomatch h⟩ <;> omega, r4, fin _ (g4_0_3 x0 x1 x2 x3 x4 x5 x6 x7 x8 x9 x10 x11 x12 x13 x14 o _)⟩
  · exact ⟨[sumI [x0], sumI [x1], sumI [x2], sumI [x3], sumI [x0, x1], sumI [x0, x2], sumI [x0, x3], sumI [x1, x2], sumI [x1, x3], sumI [x2, x3], sumI [x0, x1, x2], sumI [x0, x1, x3], sumI [x0, x2, x3], sumI [x1, x2, x3], sumI [x0, x1, x2, x3]], row4, rfl, by simp only [List.forall_mem_cons, sumI]; refine ⟨?_, ?_, ?_, ?_, ?_, ?_, ?_, ?_, ?_, ?_, ?_, ?_, ?_, ?_, ?_, fun _ h => nomatch h⟩ <;> omega, r4, fin _ (g4_1_0 x0 x1 x2 x3 x4 x5 x6 x7 x8 x9 x10 x11 x12 x13 x14 o _)⟩
  · exact ⟨[sumI [x0], sumI [x1], sumI [x2], sumI [x3], sumI [x0, x1], sumI [x0, x2], sumI [x0, x3], sumI [x1, x2], sumI [x1, x3], sumI [x2, x3], sumI [x0, x1, x2], sumI [x0, x1, x3], sumI [x0, x2, x3], sumI [x1, x2, x3], sumI [x0, x1, x2, x3]], row4, rfl, by simp only [List.forall_mem_cons, sumI]; refine ⟨?_, ?_, ?_, ?_, ?_, ?_, ?_, ?_, ?_, ?_, ?_, ?_, ?_, ?_, ?_, fun _ h => nomatch h⟩ <;> omega, r4, fin _ (g4_1_1 x0 x1 x2 x3 x4 x5 x6 x7 x8 x9 x10 x11 x12 x13 x14 o _)⟩
  · exact ⟨[sumI [x0], sumI [x1], sumI [x2], sumI [x3], sumI [x0, x1], sumI [x0, x2], sumI [x0, x3], sumI [x1, x2], sumI [x1, x3], sumI [x2, x3], sumI [x0, x1, x2], sumI [x0, x1, x3], sumI [x0, x2, x3], sumI [x1, x2, x3], sumI [x0, x1, x2, x3]], row4, rfl, by simp only [List.forall_mem_cons, sumI]; refine ⟨?_, ?_, ?_, ?_, ?_, ?_, ?_, ?_, ?_, ?_, ?_, ?_, ?_, ?_, ?_, fun _ h => nomatch h⟩ <;> omega, r4, fin _ (g4_1_2 x0 x1 x2 x3 x4 x5 x6 x7 x8 x9 x10 x11 x12 x13 x14 o _)⟩
  · exact ⟨[sumI [x0], sumI [x1], sumI [x2], sumI [x3], sumI [x0, x1], sumI [x0, x2], sumI [x0, x3], sumI [x1, x2], sumI [x1, x3], sumI [x2, x3], sumI [x0, x1, x2], sumI [x0, x1, x3], sumI [x0, x2, x3], sumI [x1, x2, x3], sumI [x0, x1, x2, x3]], row4, rfl, by simp only [List.forall_mem_cons, sumI]; refine ⟨?_, ?_, ?_, ?_, ?_, ?_, ?_, ?_, ?_, ?_, ?_, ?_, ?_, ?_, ?_, fun _ h => nomatch h⟩ <;> omega, r4, fin _ (g4_1_3 x0 x1 x2 x3 x4 x5 x6 x7 x8 x9 x10 x11 x12 x13 x14 o _)⟩
  · exact ⟨[0 + o, x1 + 0, x2 + 0, x3 + 0, x1 + o, x2 + o, x3 + o, x7 + 0, x8 + 0, x9 + 0, x7 + o, x8 + o, x9 + o, x13 + 0, x13 + o], row4, rfl, by simp only [List.forall_mem_cons, sumI]; refine ⟨?_, ?_, ?_, ?_, ?_, ?_, ?_, ?_, ?_, ?_, ?_, ?_, ?_, ?_, ?_, fun _ h => nomatch h⟩ <;> omega, r4, fin _ (g4_2_0 x0 x1 x2 x3 x4 x5 x6 x7 x8 x9 x10 x11 x12 x13 x14 o _)⟩
  · exact ⟨[x0 + 0, 0 + o, x2 + 0, x3 + 0, x0 + o, x5 + 0, x6 + 0, x2 + o, x3 + o, x9 + 0, x5 + o, x6 + o, x12 + 0, x9 + o, x12 + o], row4, rfl, by simp only [List.forall_mem_cons, sumI]; refine ⟨?_, ?_, ?_, ?_, ?_, ?_, ?_, ?_, ?_, ?_, ?_, ?_, ?_, ?_, ?_, fun _ h => nomatch h⟩ <;> omega, r4, fin _ (g4_2_1 x0 x1 x2 x3 x4 x5 x6 x7 x8 x9 x10 x11 x12 x13 x14 o _)⟩
  · exact ⟨[x0 + 0, x1 + 0, 0 + o, x3 + 0, x4 + 0, x0 + o, x6 + 0, x1 + o, x8 + 0, x3 + o, x4 + o, x11 + 0, x6 + o, x8 + o, x11 + o], row4, rfl, by simp only [List.forall_mem_cons, sumI]; refine ⟨?_, ?_, ?_, ?_, ?_, ?_, ?_, ?_, ?_, ?_, ?_, ?_, ?_, ?_, ?_, fun _ h => nomatch h⟩ <;> omega, r4, fin _ (g4_2_2 x0 x1 x2 x3 x4 x5 x6 x7 x8 x9 x10 x11 x12 x13 x14 o _)⟩
  · exact ⟨[x0 + 0, x1 + 0, x2 + 0, 0 + o, x4 + 0, x5 + 0, x0 + o, x7 + 0, x1 + o, x2 + o, x10 + 0, x4 + o, x5 + o, x7 + o, x10 + o], row4, rfl, by simp only [List.forall_mem_cons, sumI]; refine ⟨?_, ?_, ?_, ?_, ?_, ?_, ?_, ?_, ?_, ?_, ?_, ?_, ?_, ?_, ?_, fun _ h => nomatch h⟩ <;> omega, r4, fin _ (g4_2_3 x0 x1 x2 x3 x4 x5 x6 x7 x8 x9 x10 x11 x12 x13 x14 o _)⟩
  · exact ⟨[x0, x0, x2, x3, x4, x5, x6, x5, x6, x9, x10, x11, x12, x12, x14], row4, rfl, by simp only [List.forall_mem_cons, sumI]; refine ⟨?_, ?_, ?_, ?_, ?_, ?_, ?_, ?_, ?_, ?_, ?_, ?_, ?_, ?_, ?_, fun _ h => nomatch h⟩ <;> omega, r4, fin _ (g4_3_0 x0 x1 x2 x3 x4 x5 x6 x7 x8 x9 x10 x11 x12 x13 x14 o _)⟩
  · exact ⟨[x0, x1, x1, x3, x4, x4, x6, x7, x8, x8, x10, x11, x11, x13, x14], row4, rfl, by simp only [List.forall_mem_cons, sumI]; refine ⟨?_, ?_, ?_, ?_, ?_, ?_, ?_, ?_, ?_, ?_, ?_, ?_, ?_, ?_, ?_, fun _ h => nomatch h⟩ <;> omega, r4, fin _ (g4_3_1 x0 x1 x2 x3 x4 x5 x6 x7 x8 x9 x10 x11 x12 x13 x14 o _)⟩
  · exact ⟨[x0, x1, x2, x2, x4, x5, x5, x7, x7, x9, x10, x10, x12, x13, x14], row4, rfl, by simp only [List.forall_mem_cons, sumI]; refine ⟨?_, ?_, ?_, ?_, ?_, ?_, ?_, ?_, ?_, ?_, ?_, ?_, ?_, ?_, ?_, fun _ h => nomatch h⟩ <;> omega, r4, fin _ (g4_3_2 x0 x1 x2 x3 x4 x5 x6 x7 x8 x9 x10 x11 x12 x13 x14 o _)⟩
  · exact ⟨[x3, x1, x2, x3, x8, x9, x6, x7, x8, x9, x13, x11, x12, x13, x14], row4, rfl, by simp only [List.forall_mem_cons, sumI]; refine ⟨?_, ?_, ?_, ?_, ?_, ?_, ?_, ?_, ?_, ?_, ?_, ?_, ?_, ?_, ?_, fun _ h => nomatch h⟩ <;> omega, r4, fin _ (g4_3_3 x0 x1 x2 x3 x4 x5 x6 x7 x8 x9 x10 x11 x12 x13 x14 o _)⟩
  · exact ⟨[0, x1, x2, x3, 0, 0, 0, x7, x8, x9, 0, 0, 0, x13, 0], row4, rfl, by simp only [List.forall_mem_cons, sumI]; refine ⟨?_, ?_, ?_, ?_, ?_, ?_, ?_, ?_, ?_, ?_, ?_, ?_, ?_, ?_, ?_, fun _ h => nomatch h⟩ <;> omega, r4, fin _ (g4_4_0 x0 x1 x2 x3 x4 x5 x6 x7 x8 x9 x10 x11 x12 x13 x14 o _)⟩
  · exact ⟨[x0, 0, x2, x3, 0, x5, x6, 0, 0, x9, 0, 0, x12, 0, 0], row4, rfl, by simp only [List.forall_mem_cons, sumI]; refine ⟨?_, ?_, ?_, ?_, ?_, ?_, ?_, ?_, ?_, ?_, ?_, ?_, ?_, ?_, ?_, fun _ h => nomatch h⟩ <;> omega, r4, fin _ (g4_4_1 x0 x1 x2 x3 x4 x5 x6 x7 x8 x9 x10 x11 x12 x13 x14 o _)⟩
  · exact ⟨[x0, x1, 0, x3, x4, 0, x6, 0, x8, 0, 0, x11, 0, 0, 0], row4, rfl, by simp only [List.forall_mem_cons, sumI]; refine ⟨?_, ?_, ?_, ?_, ?_, ?_, ?_, ?_, ?_, ?_, ?_, ?_, ?_, ?_, ?_, fun _ h => nomatch h⟩ <;> omega, r4, fin _ (g4_4_2 x0 x1 x2 x3 x4 x5 x6 x7 x8 x9 x10 x11 x12 x13 x14 o _)⟩
  · exact ⟨[x0, x1, x2, 0, x4, x5, 0, x7, 0, 0, x10, 0, 0, 0, 0], row4, rfl, by simp only [List.forall_mem_cons, sumI]; refine ⟨?_, ?_, ?_, ?_, ?_, ?_, ?_, ?_, ?_, ?_, ?_, ?_, ?_, ?_, ?_, fun _ h => nomatch h⟩ <;> omega, r4, fin _ (g4_4_3 x0 x1 x2 x3 x4 x5 x6 x7 x8 x9 x10 x11 x12 x13 x14 o _)⟩
  · exact ⟨[x0, x1, x2, x3, x4, x5, x6, x7, x8, x9, x10, x11, x12, x13, x14], row4, rfl, by simp only [List.forall_mem_cons, sumI]; refine ⟨?_, ?_, ?_, ?_, ?_, ?_, ?_, ?_, ?_, ?_, ?_, ?_, ?_, ?_, ?_, fun _ h => nomatch h⟩ <;> omega, r4, fin _ (g4_5_0 x0 x1 x2 x3 x4 x5 x6 x7 x8 x9 x10 x11 x12 x13 x14 o _)⟩
  · exact ⟨[x0, x1, x2, x3, x4, x5, x6, x7, x8, x9, x10, x11, x12, x13, x14], row4, rfl, by simp only [List.forall_mem_cons, sumI]; refine ⟨?_, ?_, ?_, ?_, ?_, ?_, ?_, ?_, ?_, ?_, ?_, ?_, ?_, ?_, ?_, fun _ h => nomatch h⟩ <;> omega, r4, fin _ (g4_5_1 x0 x1 x2 x3 x4 x5 x6 x7 x8 x9 x10 x11 x12 x13 x14 o _)⟩
  · exact ⟨[x0, x1, x2, x3, x4, x5, x6, x7, x8, x9, x10, x11, x12, x13, x14], row4, rfl, by simp only [List.forall_mem_cons, sumI]; refine ⟨?_, ?_, ?_, ?_, ?_, ?_, ?_, ?_, ?_, ?_, ?_, ?_, ?_, ?_, ?_, fun _ h => nomatch h⟩ <;> omega, r4, fin _ (g4_5_2 x0 x1 x2 x3 x4 x5 x6 x7 x8 x9 x10 x11 x12 x13 x14 o _)⟩
  · exact ⟨[x0, x1, x2, x3, x4, x5, x6, x7, x8, x9, x10, x11, x12, x13, x14], row4, rfl, by simp only [List.forall_mem_cons, sumI]; refine ⟨?_, ?_, ?_, ?_, ?_, ?_, ?_, ?_, ?_, ?_, ?_, ?_, ?_, ?_, ?_, fun _ h => nomatch h⟩ <;> omega, r4, fin _ (g4_5_3 x0 x1 x2 x3 x4 x5 x6 x7 x8 x9 x10 x11 x12 x13 x14 o _)⟩
def t38_6 (cf : Nat → List Pv.Arg → Sto → Out R) : Sx := (retS (b1V tupleD 9))
def t38_5 (cf : Nat → List Pv.Arg → Sto → Out R) : Sx := (seqS (forS (tName 8) (iRg1 (lcons (var 1) lnil)) (mutS 9 appD (op1 tupleD (compX [11, 12] (tTupl [11, 12]) (iZip (lcons (subV 2 (var 8)) (lcons (subV 3 (var 8)) lnil))) (con (.bl true)) (callX cf 31 (aval (lstX (lcons (tupX (lcons (subV 11 (con (.int 0))) (lcons (op2 mulD (con (.int 2)) (subV 11 (con (.int 1)))) lnil))) (lcons (tupX (lcons (subV 12 (con (.int 0))) (lcons (op2 mulD (con (.int 2)) (subV 12 (con (.int 1)))) lnil))) lnil))) anil)))))) (t38_6 cf))
def t38_4 (cf : Nat → List Pv.Arg → Sto → Out R) : Sx := (seqS (setO 9 (lstX lnil)) (t38_5 cf))
def t38_3 (cf : Nat → List Pv.Arg → Sto → Out R) : Sx := (seqS (ifS (op2 eqD (var 4) (con (.int 1))) (seqS (par2 5 false 6 false (callX cf 23 (aname 0 (aname 1 anil))) (callX cf 23 (aname 0 (aval (op1 lenD (subV 2 (con (.int 0)))) anil))))
    (seqS (setS 7 (callX cf 24 (aname 0 (aval (lstX (lcons (tupX (lcons (con (.int 0)) (lcons (con (.int 1)) lnil))) (lcons (tupX (lcons (con (.int 1)) (lcons (con (.int 1)) lnil))) (lcons (tupX (lcons (op1 negD (con (.int 1))) (lcons (con (.int 1)) lnil))) (lcons (tupX (lcons (con (.int 1)) (lcons (con (.int 2)) lnil))) (lcons (tupX (lcons (con (.int 2)) (lcons (con (.int 3)) lnil))) lnil)))))) anil))))
    (retS (op1 tupleD (compX [8] (tName 8) (iRg1 (lcons (var 1) lnil)) (con (.bl true)) (op1 tupleD (compX [10] (tName 10) (iRg1 (lcons (op1 lenD (subV 2 (con (.int 0)))) lnil)) (con (.bl true)) (iteX (op2 eqD (tupX (lcons (var 8) (lcons (var 10) lnil))) (tupX (lcons (var 5) (lcons (var 6) lnil)))) (var 7) (op2 atD (subV 2 (var 8)) (var 10)))))))))) skip) (t38_4 cf))
def t38_2 (cf : Nat → List Pv.Arg → Sto → Out R) : Sx := (seqS (ifS (op2 eqD (var 4) (con (.int 0))) (retS (var 2)) skip) (t38_3 cf))
def t38_1 (cf : Nat → List Pv.Arg → Sto → Out R) : Sx := (seqS (setS 4 (callX cf 23 (aname 0 (aval (con (.int 3)) anil)))) (t38_2 cf))
def t38_0 (cf : Nat → List Pv.Arg → Sto → Out R) : Sx := (seqS (par2 2 false 3 false (callX cf 37 (aval (callX cf 24 (aname 0 (aval (callX cf 36 anil) anil))) (aname 1 anil))) (callX cf 37 (aval (callX cf 24 (aname 0 (aval (callX cf 36 anil) anil))) (aname 1 anil)))) (t38_1 cf))
abbrev NL : List D := [.str (Str.ofString "banzhaf"), .str (Str.ofString "even"), .str (Str.ofString "in turn"), .str (Str.ofString "last"), .str (Str.ofString "last even"), .str (Str.ofString "own"), .str (Str.ofString "rest even"), .str (Str.ofString "shapley")]
abbrev PL : List (Int × Int) := [(0, 1), (1, 1), (-1, 1), (1, 2), (2, 3)]
theorem pl_ok : ∀ p ∈ PL, Pt p := fun p hp => pt_small (by
  have h : PL.all pt0B = true := by decide +kernel
  have h5 := List.all_eq_true.mp h p hp
  simp only [pt0B, Bool.and_eq_true, decide_eq_true_eq] at h5
  exact ⟨⟨h5.1.1.1, h5.1.1.2, h5.1.2⟩, h5.2⟩)
theorem anyt2 (k : Nat) (x : D) (hx : x ∈ NL) : ∃ rows, Told 2 (szOf 2) rows ∧ ∀ S, call (k + 9) 37 [.sh x, .sh (.int 2)] S = .ok ⟨false, ruleD rows⟩ S := by
  simp only [List.mem_cons, List.not_mem_nil, or_false] at hx
  rcases hx with rfl | rfl | rfl | rfl | rfl | rfl | rfl | rfl
  · exact ⟨_, tr2_0, lawt2_0 k⟩
  · exact ⟨_, tr2_1, lawt2_1 k⟩
  · exact ⟨_, tr2_2, lawt2_2 k⟩
  · exact ⟨_, tr2_3, lawt2_3 k⟩
  · exact ⟨_, tr2_4, lawt2_4 k⟩
  · exact ⟨_, tr2_5, lawt2_5 k⟩
  · exact ⟨_, tr2_6, lawt2_6 k⟩
  · exact ⟨_, tr2_7, lawt2_7 k⟩
theorem anyt3 (k : Nat) (x : D) (hx : x ∈ NL) : ∃ rows, Told 3 (szOf 3) rows ∧ ∀ S, call (k + 9) 37 [.sh x, .sh (.int 3)] S = .ok ⟨false, ruleD rows⟩ S := by
  simp only [List.mem_cons, List.not_mem_nil, or_false] at hx
  rcases hx with rfl | rfl | rfl | rfl | rfl | rfl | rfl | rfl
  · exact ⟨_, tr3_0, lawt3_0 k⟩
  · exact ⟨_, tr3_1, lawt3_1 k⟩
  · exact ⟨_, tr3_2, lawt3_2 k⟩
  · exact ⟨_, tr3_3, lawt3_3 k⟩
  · exact ⟨_, tr3_4, lawt3_4 k⟩
  · exact ⟨_, tr3_5, lawt3_5 k⟩
  · exact ⟨_, tr3_6, lawt3_6 k⟩
  · exact ⟨_, tr3_7, lawt3_7 k⟩
theorem anyt4 (k : Nat) (x : D) (hx : x ∈ NL) : ∃ rows, Told 4 (szOf 4) rows ∧ ∀ S, call (k + 9) 37 [.sh x, .sh (.int 4)] S = .ok ⟨false, ruleD rows⟩ S := by
  simp only [List.mem_cons, List.not_mem_nil, or_false] at hx
  rcases hx with rfl | rfl | rfl | rfl | rfl | rfl | rfl | rfl
  · exact ⟨_, tr4_0, lawt4_0 k⟩
  · exact ⟨_, tr4_1, lawt4_1 k⟩
  · exact ⟨_, tr4_2, lawt4_2 k⟩
  · exact ⟨_, tr4_3, lawt4_3 k⟩
  · exact ⟨_, tr4_4, lawt4_4 k⟩
  · exact ⟨_, tr4_5, lawt4_5 k⟩
  · exact ⟨_, tr4_6, lawt4_6 k⟩
  · exact ⟨_, tr4_7, lawt4_7 k⟩
theorem anyt (m : Nat) (hm : m = 2 ∨ m = 3 ∨ m = 4) (k : Nat) (x : D) (hx : x ∈ NL) : ∃ rows, Told m (szOf m) rows ∧ ∀ S, call (k + 9) 37 [.sh x, .sh (.int (m : Int))] S = .ok ⟨false, ruleD rows⟩ S := by
  rcases hm with rfl | rfl | rfl
  · exact anyt2 k x hx
  · exact anyt3 k x hx
  · exact anyt4 k x hx
theorem eq_pair (i j w a : Int) : eqD (.tup [.int i, .int j]) (.tup [.int w, .int a]) = some (bR (decide (i = w ∧ j = a))) := by
  have e : eqD (.tup [.int i, .int j]) (.tup [.int w, .int a]) = some (bR ((i == w) && ((j == a) && true))) := rfl
  rw [e]
  congr 2
  by_cases h1 : i = w <;> by_cases h2 : j = a <;> simp [h1, h2]
theorem row_at {rows : List (List (Int × Int))} {m : Nat} (hl : rows.length = m) {env : SEnv} {S : Sto} {s k : Nat} {x : Ex} (hk : k < m) (h2 : sget env s = .sh (ruleD rows)) (hx : x env S = .ok ⟨false, .int (k : Int)⟩ S) : ∃ h : k < rows.length, subV s x env S = .ok ⟨false, lineD rows[k]⟩ S := by
  have hk2 : k < rows.length := by omega
  exact ⟨hk2, sub_of h2 hx (by show atD (.tup (rows.map lineD)) (.int (k : Int)) = _; rw [at_tup, atI_map lineD rows hk2]; rfl)⟩
theorem chg_eval {m : Nat} (hm : m = 2 ∨ m = 3 ∨ m = 4) {rows : List (List (Int × Int))} (hr : RuleOk m (szOf m) rows) (w a : Int) (p : Int × Int) (s0 s3 s4 s8 s9 s10 s11 s12 : Sl) (S : Sto) :
    op1 tupleD (compX [8] (tName 8) (iRg1 (lcons (var 1) lnil)) (con (.bl true)) (op1 tupleD (compX [10] (tName 10) (iRg1 (lcons (op1 lenD (subV 2 (con (.int 0)))) lnil)) (con (.bl true)) (iteX (op2 eqD (tupX (lcons (var 8) (lcons (var 10) lnil))) (tupX (lcons (var 5) (lcons (var 6) lnil)))) (var 7) (op2 atD (subV 2 (var 8)) (var 10)))))) [s0, .sh (.int (m : Int)), .sh (ruleD rows), s3, s4, .sh (.int w), .sh (.int a), .sh (ratD p), s8, s9, s10, s11, s12] S = .ok ⟨false, ruleD (chgR m (szOf m) rows w a p)⟩ S := by
  have hw : (-line : Int) ≤ (m : Int) ∧ (m : Int) ≤ line := by rcases hm with rfl | rfl | rfl <;> decide
  have hw2 : (-line : Int) ≤ (szOf m : Int) ∧ (szOf m : Int) ≤ line := by rcases hm with rfl | rfl | rfl <;> decide
  have hln : m ≤ line ∧ szOf m ≤ line ∧ 0 < m := by rcases hm with rfl | rfl | rfl <;> decide
  have it : iRg1 (lcons (var 1) lnil) [s0, .sh (.int (m : Int)), .sh (ruleD rows), s3, s4, .sh (.int w), .sh (.int a), .sh (ratD p), s8, s9, s10, s11, s12] S = .ok ((List.range m).map fun (i : Nat) => D.int i) S := by
    simp [iRg1, lcons, lnil, var, sget, Out.bind, hw]
  refine e_1 (e_comp (out := (List.range m).map fun (i : Nat) => lineD ((List.range (szOf m)).map fun (j : Nat) => if (i : Int) = w ∧ (j : Int) = a then p else ((rows[i]?.getD [])[j]?.getD (0, 1)))) it (by rw [List.length_map, List.length_range]; exact hln.1) (comp_fn (fun (i : Nat) => D.int i) _ _ fun i hi => ?_)) (by rw [ruleD, chgR, List.map_map]; rfl)
  rw [List.mem_range] at hi
  refine ⟨_, rfl, rfl, false, ?_⟩
  obtain ⟨z0, r0⟩ := row_at (S := S) (env := [s0, .sh (.int (m : Int)), .sh (ruleD rows), s3, s4, .sh (.int w), .sh (.int a), .sh (ratD p), .sh (.int (i : Int)), s9, s10, s11, s12]) (s := 2) (k := 0) (x := con (.int 0)) hr.len hln.2.2 rfl rfl
  have l0 : lenD (lineD rows[0]) = some ⟨false, .int (szOf m)⟩ := by rw [lineD, len_tup, List.length_map, (hr.row _ (List.getElem_mem z0)).1]
  have q0 : op1 lenD (subV 2 (con (.int 0))) [s0, .sh (.int (m : Int)), .sh (ruleD rows), s3, s4, .sh (.int w), .sh (.int a), .sh (ratD p), .sh (.int (i : Int)), s9, s10, s11, s12] S = .ok ⟨false, .int (szOf m)⟩ S := e_1 r0 l0
  have it2 : iRg1 (lcons (op1 lenD (subV 2 (con (.int 0)))) lnil) [s0, .sh (.int (m : Int)), .sh (ruleD rows), s3, s4, .sh (.int w), .sh (.int a), .sh (ratD p), .sh (.int (i : Int)), s9, s10, s11, s12] S = .ok ((List.range (szOf m)).map fun (i : Nat) => D.int i) S := by
    simp [iRg1, lcons, lnil, q0, Out.bind, hw2]
  refine e_1 (e_comp (out := (List.range (szOf m)).map fun (j : Nat) => ratD (if (i : Int) = w ∧ (j : Int) = a then p else ((rows[i]?.getD [])[j]?.getD (0, 1)))) it2 (by rw [List.length_map, List.length_range]; exact hln.2.1) (comp_fn (fun (j : Nat) => D.int j) _ _ fun j hj => ?_)) (by rw [lineD, List.map_map]; rfl)
  rw [List.mem_range] at hj
  refine ⟨_, rfl, rfl, false, ?_⟩
  have hi2 : i < rows.length := by rw [hr.len]; exact hi
  have hj2 : j < rows[i].length := by rw [(hr.row _ (List.getElem_mem hi2)).1]; exact hj
  have t : op2 eqD (tupX (lcons (var 8) (lcons (var 10) lnil))) (tupX (lcons (var 5) (lcons (var 6) lnil))) [s0, .sh (.int (m : Int)), .sh (ruleD rows), s3, s4, .sh (.int w), .sh (.int a), .sh (ratD p), .sh (.int (i : Int)), s9, .sh (.int (j : Int)), s11, s12] S = .ok ⟨false, .bl (decide ((i : Int) = w ∧ (j : Int) = a))⟩ S :=
    e_2 (r := ⟨false, .tup [.int (i : Int), .int (j : Int)]⟩) (r1 := ⟨false, .tup [.int w, .int a]⟩) (S1 := S) (S2 := S) rfl rfl (eq_pair _ _ _ _)
  by_cases h : (i : Int) = w ∧ (j : Int) = a
  · rw [decide_eq_true h] at t
    rw [if_pos h]
    exact it_t t rfl
  · rw [decide_eq_false h] at t
    rw [if_neg h]
    obtain ⟨_, r1⟩ := row_at (S := S) (env := [s0, .sh (.int (m : Int)), .sh (ruleD rows), s3, s4, .sh (.int w), .sh (.int a), .sh (ratD p), .sh (.int (i : Int)), s9, .sh (.int (j : Int)), s11, s12]) (s := 2) (k := i) (x := var 8) hr.len hi rfl rfl
    refine it_f t (e_2 r1 rfl ?_)
    rw [List.getElem?_eq_getElem hi2]
    show atD (.tup (rows[i].map ratD)) (.int (j : Int)) = some ⟨false, ratD ((rows[i])[j]?.getD (0, 1))⟩
    rw [List.getElem?_eq_getElem hj2, at_tup, atI_map ratD rows[i] hj2]
    rfl
theorem mix_elem {p q : Int × Int} (hp : Pt0 p) (hq : Pt0 q) (E : SEnv) (S : Sto) (g1 : sget E 11 = .sh (ratD p)) (g2 : sget E 12 = .sh (ratD q)) :
    callX (call 11) 31 (aval (lstX (lcons (tupX (lcons (subV 11 (con (.int 0))) (lcons (op2 mulD (con (.int 2)) (subV 11 (con (.int 1)))) lnil))) (lcons (tupX (lcons (subV 12 (con (.int 0))) (lcons (op2 mulD (con (.int 2)) (subV 12 (con (.int 1)))) lnil))) lnil))) anil) E S = .ok ⟨false, ratD (mixP p q)⟩ S := by
  have a0 : subV 11 (con (.int 0)) E S = .ok ⟨false, .int p.1⟩ S := sub_of g1 rfl rfl
  have a1 : subV 11 (con (.int 1)) E S = .ok ⟨false, .int p.2⟩ S := sub_of g1 rfl rfl
  have b0 : subV 12 (con (.int 0)) E S = .ok ⟨false, .int q.1⟩ S := sub_of g2 rfl rfl
  have b1 : subV 12 (con (.int 1)) E S = .ok ⟨false, .int q.2⟩ S := sub_of g2 rfl rfl
  have m1 := bd_mul (x := 2) (y := p.2) (a := 2) (b := 4) (show (2 : Int).natAbs < 2 ^ 2 by decide) hp.1.2.2 (by decide) (by decide) (by decide)
  have m2 := bd_mul (x := 2) (y := q.2) (a := 2) (b := 4) (show (2 : Int).natAbs < 2 ^ 2 by decide) hq.1.2.2 (by decide) (by decide) (by decide)
  have c1 : op2 mulD (con (.int 2)) (subV 11 (con (.int 1))) E S = .ok ⟨false, .int (2 * p.2)⟩ S := e_2 (S1 := S) rfl a1 m1
  have c2 : op2 mulD (con (.int 2)) (subV 12 (con (.int 1))) E S = .ok ⟨false, .int (2 * q.2)⟩ S := e_2 (S1 := S) rfl b1 m2
  have e : lstX (lcons (tupX (lcons (subV 11 (con (.int 0))) (lcons (op2 mulD (con (.int 2)) (subV 11 (con (.int 1)))) lnil))) (lcons (tupX (lcons (subV 12 (con (.int 0))) (lcons (op2 mulD (con (.int 2)) (subV 12 (con (.int 1)))) lnil))) lnil)) E S =
      .ok ⟨true, .lst (([(p.1, 2 * p.2), (q.1, 2 * q.2)] : List (Int × Int)).map ratD)⟩ S := by
    simp [lstX, tupX, lcons, lnil, a0, b0, c1, c2, Out.bind, line, ratD]
  exact x_call (a_val e rfl) (l_sum 9 _ S (fun p hp2 => by
    simp only [List.mem_cons, List.not_mem_nil, or_false] at hp2
    rcases hp2 with rfl | rfl
    · exact (mix_sm hp).le (by decide) (by decide)
    · exact (mix_sm hq).le (by decide) (by decide)) (by simp))
theorem mix_eval {l r : List (Int × Int)} (hl : ∀ p ∈ l, Pt0 p) (hr : ∀ p ∈ r, Pt0 p) (hn : l.length = r.length) (h15 : l.length ≤ 15) (env : SEnv) (S : Sto) (he : 13 ≤ env.length) (h2 : subV 2 (var 8) env S = .ok ⟨false, lineD l⟩ S) (h3 : subV 3 (var 8) env S = .ok ⟨false, lineD r⟩ S) :
    compX [11, 12] (tTupl [11, 12]) (iZip (lcons (subV 2 (var 8)) (lcons (subV 3 (var 8)) lnil))) (con (.bl true)) (callX (call 11) 31 (aval (lstX (lcons (tupX (lcons (subV 11 (con (.int 0))) (lcons (op2 mulD (con (.int 2)) (subV 11 (con (.int 1)))) lnil))) (lcons (tupX (lcons (subV 12 (con (.int 0))) (lcons (op2 mulD (con (.int 2)) (subV 12 (con (.int 1)))) lnil))) lnil))) anil)) env S = .ok ⟨true, .lst ((List.zipWith mixP l r).map ratD)⟩ S := by
  have z : (List.zipWith mixP l r).map ratD = (l.zip r).map fun q => ratD (mixP q.1 q.2) := by
    rw [List.zip, List.map_zipWith, List.map_zipWith]
  rw [z]
  have it : iZip (lcons (subV 2 (var 8)) (lcons (subV 3 (var 8)) lnil)) env S = .ok ((l.zip r).map fun q => D.tup [ratD q.1, ratD q.2]) S := by
    rw [← zipD_maps]
    simp [Pv.iZip, lcons, lnil, h2, h3, Out.bind, lineD, seqD]
  refine e_comp it (by rw [List.length_map, zipl _ _ hn]; unfold line; omega) (comp_fn (fun q : (Int × Int) × (Int × Int) => D.tup [ratD q.1, ratD q.2]) _ _ fun q hq => ?_)
  have p1 := hl _ (List.of_mem_zip hq).1
  have p2 := hr _ (List.of_mem_zip hq).2
  have g1 : sget ((((clr env [11, 12]).set 11 (.sh (ratD q.1))).set 12 (.sh (ratD q.2)))) 11 = .sh (ratD q.1) := by
    rw [sget_set_ne (by decide)]; exact sget_set_self (by simp [clr]; omega)
  have g2 : sget ((((clr env [11, 12]).set 11 (.sh (ratD q.1))).set 12 (.sh (ratD q.2)))) 12 = .sh (ratD q.2) := sget_set_self (by simp [clr]; omega)
  exact ⟨_, rfl, rfl, false, mix_elem p1 p2 _ S g1 g2⟩
theorem mixed (m : Nat) (hm : m = 2 ∨ m = 3 ∨ m = 4) (row : D) (r : RowOk row) : ∃ rows row', RuleOk m (szOf m) rows ∧ RowOk row' ∧ call 12 38 [.ref 0, .sh (.int (m : Int))] [row] = .ok ⟨false, ruleD rows⟩ [row'] := by
  have m1 : 0 < (m : Int) ∧ (m : Int) < 1073741824 := by rcases hm with rfl | rfl | rfl <;> decide
  have s1 : 0 < (szOf m : Int) ∧ (szOf m : Int) < 1073741824 ∧ szOf m ≤ 15 ∧ m ≤ 4 ∧ 0 < m := by rcases hm with rfl | rfl | rfl <;> decide
  obtain ⟨x1, hx1, row1, r1, p1⟩ := pick_ok (i := 23) (cf := call 10) rfl (d := row) (l := NL) r (by decide) (by decide)
  obtain ⟨x2, hx2, row2, r2, p2⟩ := pick_ok (i := 23) (cf := call 10) rfl (d := row1) (l := NL) r1 (by decide) (by decide)
  obtain ⟨kk, row3, r3, k0, k1, ek⟩ := taken_ok (m := 3) r2 (by decide) (by decide)
  obtain ⟨A, hA, eA⟩ := anyt m hm 2 x1 hx1
  obtain ⟨B, hB, eB⟩ := anyt m hm 2 x2 hx2
  have nl : ∀ S env, callX (call 11) 36 anil env S = .ok ⟨true, .lst NL⟩ S := fun S env => rfl
  have st0 : par2 2 false 3 false (callX (call 11) 37 (aval (callX (call 11) 24 (aname 0 (aval (callX (call 11) 36 anil) anil))) (aname 1 anil))) (callX (call 11) 37 (aval (callX (call 11) 24 (aname 0 (aval (callX (call 11) 36 anil) anil))) (aname 1 anil)))
      [.ref 0, .sh (.int (m : Int)), .un, .un, .un, .un, .un, .un, .un, .un, .un, .un, .un] [row] = .ok (.nx [.ref 0, .sh (.int (m : Int)), .sh (ruleD A), .sh (ruleD B), .un, .un, .un, .un, .un, .un, .un, .un, .un]) [row2] :=
    e_par2 (x_call (a_val (x_call (a_ref rfl (a_val (nl _ _) rfl)) p1) (a_sh rfl rfl)) (eA _)) (x_call (a_val (x_call (a_ref rfl (a_val (nl _ _) rfl)) p2) (a_sh rfl rfl)) (eB _)) rfl rfl
  have st1 : setS 4 (callX (call 11) 23 (aname 0 (aval (con (.int 3)) anil))) [.ref 0, .sh (.int (m : Int)), .sh (ruleD A), .sh (ruleD B), .un, .un, .un, .un, .un, .un, .un, .un, .un] [row2] = .ok (.nx (([.ref 0, .sh (.int (m : Int)), .sh (ruleD A), .sh (ruleD B), .un, .un, .un, .un, .un, .un, .un, .un, .un] : SEnv).set 4 (.sh (.int kk)))) [row3] := e_set (r := ⟨false, .int kk⟩) (x_call (a_ref rfl (a_val rfl rfl)) ek)
  have hk : kk = 0 ∨ kk = 1 ∨ kk = 2 := by omega
  rcases hk with rfl | rfl | rfl
  · exact ⟨A, row3, hA.ok, r3, f_ret (a := t38_0 (call 11)) (m := 13) (s_nx st0 (s_nx st1 (s_ret (i_t (S1 := [row3]) rfl (e_ret rfl)))))⟩
  · obtain ⟨w, row4, r4, w0, w1, ew⟩ := taken_ok (m := (m : Int)) r3 m1.1 m1.2
    obtain ⟨a, row5, r5, a0, a1, ea⟩ := taken_ok (m := (szOf m : Int)) r4 s1.1 s1.2.1
    obtain ⟨q, hq, row6, r6, p6⟩ := pick_ok (i := 23) (cf := call 10) rfl (d := row5) (l := PL.map ratD) r5 (show 0 < 5 by decide) (show 5 < 1000 by decide)
    obtain ⟨p, hp, rfl⟩ := List.mem_map.mp hq
    obtain ⟨z0, rr0⟩ := row_at (S := [row4]) (env := [.ref 0, .sh (.int (m : Int)), .sh (ruleD A), .sh (ruleD B), .sh (.int 1), .un, .un, .un, .un, .un, .un, .un, .un]) (s := 2) (k := 0) (x := con (.int 0)) hA.len s1.2.2.2.2 rfl rfl
    have l0 : lenD (lineD A[0]) = some ⟨false, .int (szOf m)⟩ := by rw [lineD, len_tup, List.length_map, (hA.row _ (List.getElem_mem z0)).1]
    have ep : ∀ env S, lstX (lcons (tupX (lcons (con (.int 0)) (lcons (con (.int 1)) lnil))) (lcons (tupX (lcons (con (.int 1)) (lcons (con (.int 1)) lnil))) (lcons (tupX (lcons (op1 negD (con (.int 1))) (lcons (con (.int 1)) lnil))) (lcons (tupX (lcons (con (.int 1)) (lcons (con (.int 2)) lnil))) (lcons (tupX (lcons (con (.int 2)) (lcons (con (.int 3)) lnil))) lnil))))) env S = .ok ⟨true, .lst (PL.map ratD)⟩ S := fun env S => rfl
    exact ⟨chgR m (szOf m) A w a p, row6, chgR_ok hA.ok (pl_ok p hp), r6, f_ret (a := t38_0 (call 11)) (m := 13) (s_nx st0 (s_nx st1 (s_nx (i_f (S1 := [row3]) rfl rfl) (s_ret (i_t (S1 := [row3]) rfl (s_nx (e_par2 (x_call (a_ref rfl (a_sh rfl rfl)) ew) (x_call (a_ref rfl (a_val (e_1 rr0 l0) rfl)) ea) rfl rfl) (s_nx (e_set (x_call (a_ref rfl (a_val (ep _ _) rfl)) p6))
      (e_ret (chg_eval hm hA.ok w a p _ _ _ _ _ _ _ _ _)))))))))⟩
  · obtain ⟨env', q1, q2, q3⟩ := for_app (S := [row3]) (i := 9) (tg := tName 8) (x := op1 tupleD (compX [11, 12] (tTupl [11, 12]) (iZip (lcons (subV 2 (var 8)) (lcons (subV 3 (var 8)) lnil))) (con (.bl true)) (callX (call 11) 31 (aval (lstX (lcons (tupX (lcons (subV 11 (con (.int 0))) (lcons (op2 mulD (con (.int 2)) (subV 11 (con (.int 1)))) lnil))) (lcons (tupX (lcons (subV 12 (con (.int 0))) (lcons (op2 mulD (con (.int 2)) (subV 12 (con (.int 1)))) lnil))) lnil))) anil)))) (fun (k : Nat) => D.int k) (fun (k : Nat) => lineD (List.zipWith mixP (A[k]?.getD []) (B[k]?.getD [])))
      (fun env => ∃ s8 s9, env = [.ref 0, .sh (.int (m : Int)), .sh (ruleD A), .sh (ruleD B), .sh (.int 2), .un, .un, .un, s8, s9, .un, .un, .un]) (List.range m) [] [.ref 0, .sh (.int (m : Int)), .sh (ruleD A), .sh (ruleD B), .sh (.int 2), .un, .un, .un, .un, .own (.lst []), .un, .un, .un] (fun k hk acc env ⟨s8, s9, he⟩ hs => by
        rw [List.mem_range] at hk
        subst he
        have e9 : s9 = .own (.lst acc) := hs
        subst e9
        refine ⟨_, rfl, rfl, (show 9 < 13 by decide), fun d => ⟨_, _, rfl⟩, false, ?_⟩
        obtain ⟨za, ra⟩ := row_at (S := [row3]) (env := [.ref 0, .sh (.int (m : Int)), .sh (ruleD A), .sh (ruleD B), .sh (.int 2), .un, .un, .un, .sh (.int (k : Int)), .own (.lst acc), .un, .un, .un]) (s := 2) (k := k) (x := var 8) hA.len hk rfl rfl
        obtain ⟨zb, rb⟩ := row_at (S := [row3]) (env := [.ref 0, .sh (.int (m : Int)), .sh (ruleD A), .sh (ruleD B), .sh (.int 2), .un, .un, .un, .sh (.int (k : Int)), .own (.lst acc), .un, .un, .un]) (s := 3) (k := k) (x := var 8) hB.len hk rfl rfl
        obtain ⟨a1, a2⟩ := hA.row _ (List.getElem_mem za)
        obtain ⟨b1, b2⟩ := hB.row _ (List.getElem_mem zb)
        refine e_1 (mix_eval a2 b2 (by rw [a1, b1]) (by rw [a1]; exact s1.2.2.1) _ _ (show 13 ≤ 13 by decide) ra rb) ?_
        rw [List.getElem?_eq_getElem za, List.getElem?_eq_getElem zb]
        rfl) ⟨_, _, rfl⟩ rfl (by simp only [List.length_nil, List.length_range, Nat.zero_add]; unfold line; omega)
    obtain ⟨s8, s9, rfl⟩ := q3
    have e9 : s9 = .own (.lst ([] ++ (List.range m).map fun (k : Nat) => lineD (List.zipWith mixP (A[k]?.getD []) (B[k]?.getD [])))) := q2
    subst e9
    have hrows : [] ++ (List.range m).map (fun (k : Nat) => lineD (List.zipWith mixP (A[k]?.getD []) (B[k]?.getD []))) = (List.zipWith (List.zipWith mixP) A B).map lineD := by
      rw [List.nil_append]
      refine range_map _ _ (by rw [List.length_zipWith, hA.len, hB.len, Nat.min_self]) fun k hk => ?_
      rw [List.length_zipWith] at hk
      rw [List.getElem?_eq_getElem (by omega), List.getElem?_eq_getElem (by omega), List.getElem_zipWith]
      rfl
    have it : iRg1 (lcons (var 1) lnil) [.ref 0, .sh (.int (m : Int)), .sh (ruleD A), .sh (ruleD B), .sh (.int 2), .un, .un, .un, .un, .own (.lst []), .un, .un, .un] [row3] = .ok ((List.range m).map fun (i : Nat) => D.int i) [row3] := by
      have hw : (-line : Int) ≤ (m : Int) ∧ (m : Int) ≤ line := by unfold line; omega
      simp [iRg1, lcons, lnil, var, sget, Out.bind, hw]
    refine ⟨List.zipWith (List.zipWith mixP) A B, row3, mixR_ok hA hB, r3, f_ret (a := t38_0 (call 11)) (m := 13) (s_nx st0 (s_nx st1 (s_nx (i_f (S1 := [row3]) rfl rfl) (s_nx (i_f (S1 := [row3]) rfl rfl) (s_nx (env1 := [.ref 0, .sh (.int (m : Int)), .sh (ruleD A), .sh (ruleD B), .sh (.int 2), .un, .un, .un, .un, .own (.lst []), .un, .un, .un]) (S1 := [row3]) rfl (s_nx (e_for it q1) (e_ret ?_)))))))⟩
    show b1V tupleD 9 _ _ = _
    unfold b1V
    show (match tupleD (.lst ([] ++ (List.range m).map fun (k : Nat) => lineD (List.zipWith mixP (A[k]?.getD []) (B[k]?.getD [])))) with | some r => Out.ok r [row3] | none => .bad) = _
    rw [hrows]
    rfl
def t39_6 (cf : Nat → List Pv.Arg → Sto → Out R) : Sx := (retS (op2 eqD (callX cf 16 (aname 4 (aname 7 anil))) (op1 tupleD (compX [10, 11] (tTupl [10, 11]) (iZip (lcons (var 8) (lcons (var 9) lnil))) (con (.bl true)) (callX cf 31 (aval (lstX (lcons (var 10) (lcons (var 11) lnil))) anil))))))
def t39_5 (cf : Nat → List Pv.Arg → Sto → Out R) : Sx := (seqS (par2 8 false 9 false (callX cf 16 (aname 4 (aname 5 anil))) (callX cf 16 (aname 4 (aname 6 anil)))) (t39_6 cf))
def t39_4 (cf : Nat → List Pv.Arg → Sto → Out R) : Sx := (seqS (setS 7 (op1 tupleD (compX [10, 11] (tTupl [10, 11]) (iZip (lcons (var 5) (lcons (var 6) lnil))) (con (.bl true)) (op2 addD (var 10) (var 11))))) (t39_5 cf))
def t39_3 (cf : Nat → List Pv.Arg → Sto → Out R) : Sx := (seqS (ifS (notX (callX cf 25 (aval (callX cf 16 (aname 4 (aname 5 anil))) (aval (callX cf 32 (aname 4 (aname 5 anil))) anil)))) (retS (con (.bl false))) skip) (t39_4 cf))
def t39_2 (cf : Nat → List Pv.Arg → Sto → Out R) : Sx := (seqS (par3 4 false 5 false 6 false (callX cf 38 (aname 1 (aname 2 anil))) (callX cf 34 (aname 1 (aname 2 anil))) (callX cf 34 (aname 1 (aname 2 anil)))) (t39_3 cf))
def t39_1 (cf : Nat → List Pv.Arg → Sto → Out R) : Sx := (seqS (ifS (orX (op2 neD (callX cf 21 anil) (op1 tupleD (callX cf 36 anil))) (notX (callX cf 25 (aval (callX cf 22 (aname 3 (aname 2 anil))) (aval (callX cf 37 (aname 3 (aname 2 anil))) anil))))) (retS (con (.bl false))) skip) (t39_2 cf))
def t39_0 (cf : Nat → List Pv.Arg → Sto → Out R) : Sx := (seqS (par2 2 false 3 false (op2 addD (con (.int 2)) (callX cf 23 (aname 1 (aval (con (.int 3)) anil)))) (callX cf 24 (aname 1 (aval (callX cf 36 anil) anil)))) (t39_1 cf))
theorem game (m : Nat) (hm : m = 2 ∨ m = 3 ∨ m = 4) (row : D) (r : RowOk row) : ∃ xs row', xs.length = szOf m ∧ (∀ x ∈ xs, -100 ≤ x ∧ x ≤ 100) ∧ RowOk row' ∧ call 12 34 [.ref 0, .sh (.int (m : Int))] [row] = .ok ⟨false, nD xs⟩ [row'] := by
  rcases hm with rfl | rfl | rfl
  · exact game2 row r
  · exact game3 row r
  · exact game4 row r
theorem toldA (m : Nat) (hm : m = 2 ∨ m = 3 ∨ m = 4) (x : D) (hx : x ∈ NL) (S : Sto) : ∃ rows, Told m (szOf m) rows ∧ call 12 22 [.sh x, .sh (.int (m : Int))] S = .ok ⟨false, ruleD rows⟩ S ∧ call 12 37 [.sh x, .sh (.int (m : Int))] S = .ok ⟨false, ruleD rows⟩ S := by
  rcases hm with rfl | rfl | rfl <;> simp only [List.mem_cons, List.not_mem_nil, or_false] at hx <;> rcases hx with rfl | rfl | rfl | rfl | rfl | rfl | rfl | rfl
  · exact ⟨_, tr2_0, told2_0 S, lawt2_0 3 S⟩
  · exact ⟨_, tr2_1, told2_1 S, lawt2_1 3 S⟩
  · exact ⟨_, tr2_2, told2_2 S, lawt2_2 3 S⟩
  · exact ⟨_, tr2_3, told2_3 S, lawt2_3 3 S⟩
  · exact ⟨_, tr2_4, told2_4 S, lawt2_4 3 S⟩
  · exact ⟨_, tr2_5, told2_5 S, lawt2_5 3 S⟩
  · exact ⟨_, tr2_6, told2_6 S, lawt2_6 3 S⟩
  · exact ⟨_, tr2_7, told2_7 S, lawt2_7 3 S⟩
  · exact ⟨_, tr3_0, told3_0 S, lawt3_0 3 S⟩
  · exact ⟨_, tr3_1, told3_1 S, lawt3_1 3 S⟩
  · exact ⟨_, tr3_2, told3_2 S, lawt3_2 3 S⟩
  · exact ⟨_, tr3_3, told3_3 S, lawt3_3 3 S⟩
  · exact ⟨_, tr3_4, told3_4 S, lawt3_4 3 S⟩
  · exact ⟨_, tr3_5, told3_5 S, lawt3_5 3 S⟩
  · exact ⟨_, tr3_6, told3_6 S, lawt3_6 3 S⟩
  · exact ⟨_, tr3_7, told3_7 S, lawt3_7 3 S⟩
  · exact ⟨_, tr4_0, told4_0 S, lawt4_0 3 S⟩
  · exact ⟨_, tr4_1, told4_1 S, lawt4_1 3 S⟩
  · exact ⟨_, tr4_2, told4_2 S, lawt4_2 3 S⟩
  · exact ⟨_, tr4_3, told4_3 S, lawt4_3 3 S⟩
  · exact ⟨_, tr4_4, told4_4 S, lawt4_4 3 S⟩
  · exact ⟨_, tr4_5, told4_5 S, lawt4_5 3 S⟩
  · exact ⟨_, tr4_6, told4_6 S, lawt4_6 3 S⟩
  · exact ⟨_, tr4_7, told4_7 S, lawt4_7 3 S⟩
theorem zsmall {xs : List Int} (h : ∀ x ∈ xs, -100 ≤ x ∧ x ≤ 100) : ∀ x ∈ xs, -1000 ≤ x ∧ x ≤ 1000 := fun x hx => by
  have := h x hx; omega
theorem foldl_sm {a b : Nat} (hab : b ≤ a) : ∀ (ps : List (Int × Int)) (x : Int × Int) (k : Nat), (∀ p ∈ ps, Sm a b p) → Sm k k x → Sm (k + ps.length * (a + 1)) (k + ps.length * (a + 1)) (ps.foldl Ra.addP x)
  | [], x, k, _, hx => by simpa using hx
  | p :: ps, x, k, hp, hx => by
    have := foldl_sm hab ps (Ra.addP x p) (k + a + 1) (fun q hq => hp q (List.mem_cons_of_mem _ hq)) (hx.add (hp p List.mem_cons_self) hab)
    have e : k + a + 1 + ps.length * (a + 1) = k + (p :: ps).length * (a + 1) := by
      show _ = k + (ps.length + 1) * (a + 1)
      rw [Nat.add_mul, Nat.one_mul]; omega
    rw [e] at this
    exact this
theorem share_sm {row : List (Int × Int)} {xs : List Int} (hp : ∀ p ∈ row, Pt p) (hx : ∀ x ∈ xs, Bd 11 x) (h15 : row.length ≤ 15) (hl : xs.length = row.length) : Sm 346 346 (shareP row xs) := by
  have h := foldl_sm (a := 22) (b := 11) (by decide) (termP row xs) (0, 1) 1 (term_sm hp hx) sm01
  have hz : (termP row xs).length ≤ 15 := by rw [termP_zip, List.length_map, zipl _ _ hl.symm]; exact h15
  have h2 : Sm 346 346 (Ra.sumP (termP row xs)) := h.le (by omega) (by omega)
  exact h2.canon
theorem l_sum2 (k : Nat) (p q : Int × Int) (S : Sto) (hp : Sm 346 346 p) (hq : Sm 346 346 q) : call (k + 2) 31 [.sh (.lst ([p, q].map ratD))] S = .ok ⟨false, ratD (Ra.canonP (Ra.sumP [p, q]))⟩ S :=
  lawSum_ok (i := 30) (cf := call (k + 1)) (a := 346) (b := 346) (by decide) (by decide) (by decide) (l_ratio k) [p, q] (fun r hr => by
    simp only [List.mem_cons, List.not_mem_nil, or_false] at hr
    rcases hr with rfl | rfl
    · exact hp
    · exact hq) (show 1 + 2 * (346 + 1) ≤ 1000 by decide)
theorem zip_two (rows : List (List (Int × Int))) (f g : List (Int × Int) → D) : zipD (rows.map f) (rows.map g) = rows.map fun r => D.tup [f r, g r] := by
  rw [zipD_maps]
  induction rows with
  | nil => rfl
  | cons r rs ih => rw [List.zip_cons_cons, List.map_cons, List.map_cons, ih]
theorem sum_step (rows : List (List (Int × Int))) (xs ys : List Int) {m : Nat} (hm : m = 2 ∨ m = 3 ∨ m = 4) (hr : RuleOk m (szOf m) rows) (hx : xs.length = szOf m) (hy : ys.length = szOf m) (hbx : ∀ x ∈ xs, -100 ≤ x ∧ x ≤ 100) (hby : ∀ x ∈ ys, -100 ≤ x ∧ x ≤ 100) (e0 e1 e2 e3 e4 e5 e6 e7 : Sl) (S : Sto) :
    op1 tupleD (compX [10, 11] (tTupl [10, 11]) (Pv.iZip (lcons (var 8) (lcons (var 9) lnil))) (con (.bl true)) (callX (call 12) 31 (aval (lstX (lcons (var 10) (lcons (var 11) lnil))) anil))) [e0, e1, e2, e3, e4, e5, e6, e7, .sh (sharesD rows xs), .sh (sharesD rows ys), .un, .un] S =
      .ok ⟨false, sharesD rows (List.zipWith (· + ·) xs ys)⟩ S := by
  have it : Pv.iZip (lcons (var 8) (lcons (var 9) lnil)) [e0, e1, e2, e3, e4, e5, e6, e7, .sh (sharesD rows xs), .sh (sharesD rows ys), .un, .un] S = .ok (rows.map fun row => D.tup [ratD (shareP row xs), ratD (shareP row ys)]) S := by
    rw [← zip_two]
    rfl
  refine e_1 (e_comp (out := rows.map fun row => ratD (shareP row (List.zipWith (· + ·) xs ys))) it (by rw [List.length_map, hr.len]; have := (sz15 hm).2; unfold line; omega) (comp_fn _ _ rows fun row hrow => ⟨_, rfl, rfl, false, ?_⟩)) rfl
  obtain ⟨h1, h2⟩ := hr.row row hrow
  have h15 := (sz15 hm).1
  rw [share_add (fun p hp => (h2 p hp).1.1) (by omega) (by omega)]
  exact x_call (a_val (r := ⟨true, .lst ([shareP row xs, shareP row ys].map ratD)⟩) (S1 := S) rfl rfl) (l_sum2 10 _ _ S (share_sm h2 (fun x hx => bd_of (zsmall hbx x hx)) (by omega) (by omega)) (share_sm h2 (fun x hx => bd_of (zsmall hby x hx)) (by omega) (by omega)))
theorem lawm (m : Nat) (hm : m = 2 ∨ m = 3 ∨ m = 4) (scr : Sl) (row : D) (r : RowOk row) (x : D) (hx : x ∈ NL) : ∃ row', t39_1 (call 12) [scr, .ref 0, .sh (.int (m : Int)), .sh x, .un, .un, .un, .un, .un, .un, .un, .un] [row] = .ok (.ret tt') [row'] := by
  obtain ⟨R0, h0, t0, t1⟩ := toldA m hm x hx [row]
  obtain ⟨rows, row1, hr, r1, e1⟩ := mixed m hm row r
  obtain ⟨xs, row2, lx, bx, r2, e2⟩ := game m hm row1 r1
  obtain ⟨ys, row3, ly, by_, r3, e3⟩ := game m hm row2 r2
  have h4 := (sz15 hm).2
  have h15 := (sz15 hm).1
  have bz : ∀ z ∈ List.zipWith (· + ·) xs ys, -1000 ≤ z ∧ z ≤ 1000 := fun z hz => by
    obtain ⟨k, hk, rfl⟩ := List.getElem_of_mem hz
    rw [List.length_zipWith] at hk
    rw [List.getElem_zipWith]
    have := bx _ (List.getElem_mem (show k < xs.length by omega))
    have := by_ _ (List.getElem_mem (show k < ys.length by omega))
    omega
  have lz : (List.zipWith (· + ·) xs ys).length = szOf m := by rw [List.length_zipWith, lx, ly, Nat.min_self]
  have bdz : ∀ {zs : List Int}, (∀ z ∈ zs, -1000 ≤ z ∧ z ≤ 1000) → ∀ z ∈ zs, Bd 11 z := fun h z hz => bd_of (h z hz)
  have n1 : op2 neD (callX (call 12) 21 anil) (op1 tupleD (callX (call 12) 36 anil)) [scr, .ref 0, .sh (.int (m : Int)), .sh x, .un, .un, .un, .un, .un, .un, .un, .un] [row] = .ok ff' [row] := by kernel_rfl
  have s0 := c_shares 6 m rows xs [row3] hm hr lx (zsmall bx)
  have s1 := c_shares 6 m rows ys [row3] hm hr ly (zsmall by_)
  have s2 := c_shares 6 m rows _ [row3] hm hr lz bz
  have q0 := l_shares 9 m rows xs [row3] hm hr lx (bdz (zsmall bx))
  have al : call 12 25 [.sh (ruleD R0), .sh (ruleD R0)] [row] = .ok tt' [row] := alike_rule (i := 25) (cf := call 11) (cf2 := call 10) (cf3 := call 9) (cf4 := call 8) rfl rfl rfl R0 (by rw [h0.len]; omega) (fun rw hrw => by rw [(h0.row rw hrw).1]; omega)
  have al2 : call 12 25 [.sh (sharesD rows xs), .sh (sharesD rows xs)] [row3] = .ok tt' [row3] := by
    have e : sharesD rows xs = .tup ((rows.map fun r => shareP r xs).map ratD) := by rw [sharesD, List.map_map]; rfl
    rw [e]
    exact alike_rats (i := 25) (cf := call 11) (cf2 := call 10) (cf3 := call 9) rfl rfl _ (by rw [List.length_map, hr.len]; omega)
  refine ⟨row3, s_nx (i_f (or_f n1 (not_t (x_call (a_val (x_call (a_sh rfl (a_sh rfl rfl)) t0) (a_val (x_call (a_sh rfl (a_sh rfl rfl)) t1) rfl)) al))) rfl)
    (s_nx (e_par3 (x_call (a_ref rfl (a_sh rfl rfl)) e1) (x_call (a_ref rfl (a_sh rfl rfl)) e2) (x_call (a_ref rfl (a_sh rfl rfl)) e3) rfl rfl rfl)
    (s_nx (i_f (not_t (x_call (a_val (x_call (a_sh rfl (a_sh rfl rfl)) s0) (a_val (x_call (a_sh rfl (a_sh rfl rfl)) q0) rfl)) al2)) rfl)
    (s_nx (e_set (both_ok (i := 5) (j := 6) (k := 10) (l := 11) (by decide) rfl rfl (by omega) (by omega) (show 10 < 12 by decide) (show 11 < 12 by decide)))
    (s_nx (e_par2 (x_call (a_sh rfl (a_sh rfl rfl)) s0) (x_call (a_sh rfl (a_sh rfl rfl)) s1) rfl rfl)
    (e_ret (e_2 (x_call (a_sh rfl (a_sh rfl rfl)) s2) (sum_step rows xs ys hm hr lx ly bx by_ _ _ _ _ _ _ _ _ _) (eq_same (good_share rows _) (by decide))))))))⟩
theorem law_ok (ns : List Int) : ∃ S, call (deep + 1) 39 [.sh (.ro (scrD ns))] [] = .ok ⟨false, .bl true⟩ S := by
  obtain ⟨v, row1, r1, v0, v1, ev⟩ := taken_ok (m := 3) (row_new ns 15661) (by decide) (by decide)
  obtain ⟨x, hx, row2, r2, ep⟩ := pick_ok (i := 23) (cf := call 11) rfl (d := row1) (l := NL) r1 (by decide) (by decide)
  have fin : ∀ (m : Nat) row3, (m : Int) = 2 + v → t39_1 (call 12) [.sh (.ro (scrD ns)), .ref 0, .sh (.int (m : Int)), .sh x, .un, .un, .un, .un, .un, .un, .un, .un] [row2] = .ok (.ret tt') [row3] → ∃ S, call (deep + 1) 39 [.sh (.ro (scrD ns))] [] = .ok ⟨false, .bl true⟩ S := fun m row3 hm h => by
    rw [hm] at h
    exact ⟨_, f_ret (a := cellS 1 (lstX (lcons (var 0) (lcons (con (.int 0)) (lcons (con (.int 15661)) (lcons (con (.int 0)) lnil))))) (t39_0 (call 12))) (m := 12) (as := [.sh (.ro (scrD ns))]) (e_cell (S1 := []) (d := .lst [.ro (scrD ns), .int 0, .int 15661, .int 0]) rfl rfl (s_nx (e_par2 (e_2 (S1 := [.lst [.ro (scrD ns), .int 0, .int 15661, .int 0]]) rfl (x_call (a_ref rfl (a_val rfl rfl)) ev) rfl) (x_call (a_ref rfl (a_val (r := ⟨true, .lst NL⟩) (S1 := [row1]) rfl rfl)) ep) rfl rfl) h))⟩
  have hv : v = 0 ∨ v = 1 ∨ v = 2 := by omega
  rcases hv with rfl | rfl | rfl
  · obtain ⟨row3, h⟩ := lawm 2 (.inl rfl) (.sh (.ro (scrD ns))) row2 r2 x hx
    exact fin 2 row3 rfl h
  · obtain ⟨row3, h⟩ := lawm 3 (.inr (.inl rfl)) (.sh (.ro (scrD ns))) row2 r2 x hx
    exact fin 3 row3 rfl h
  · obtain ⟨row3, h⟩ := lawm 4 (.inr (.inr rfl)) (.sh (.ro (scrD ns))) row2 r2 x hx
    exact fin 4 row3 rfl h
end Lk01
theorem PySem.Challenge.cw_worthshares_k01_whole_rules_holds : PySem.Challenge.rw_worthshares_k01_whole_rules.Holds :=
  holds_of fun ns _ => Lk01.law_ok ns
