import PyProof.Rows.All
import Wide.All
import OpenK.AllK
import Wide.FinOn
import HandS.ForMost
import HandS.Exc
import HandS.TryOnly
import HandS.ExcOwn
import HandS.WordsExc
import HandS.ExcInit
import HandS.Wide
import HandS.IsInst
import HandS.Walk
import HandS.Flow
import HandS.TupLen
import HandS.WordsDict
import PyProof.Draws
import HandS.ClsMeth
import HandS.ExcField
import KE.GoesRaise
import HandS.Comp
import HandS.HeadHook2
import HandS.Head2
import HandS.HeadNt
import HandS.HeadEnd
import HandS.Replace
import PyProof.StrBlock2
import HandS.Text
import KE.IntTextLaws
import HandS.Conv
import PyProof.ListStr
import HandS.Strs
import HandS.Style
import HandS.Deep
import PySem.Challenge.RW_joinranks_k82_the_fewest_counted
set_option Elab.async false
set_option linter.all false
set_option maxRecDepth 100000
set_option maxHeartbeats 0
/-! DL0: data as trees over the hand layer: what is known (G) and what is owned, the judgements of expressions, tests, statements. -/
namespace DL
open PySem L2

/-- data: values as trees -/
inductive D where
  | non | bl (b : Bool) | int (i : Int) | str (x : Str) | ty (n : String)
  | lst (xs : List D) | tup (xs : List D)
  | dK (kvs : List (Key × D)) | dT (kvs : List (List Key × D))
  | ins (C : Addr) (fs : List (Str × D))
  | memo (f : Str → Str → Bool)
  | ref (a : Addr)
  | scr (ns : List Int)
  | exn (a dd : Addr) (fs : List (Str × D))
  | adr (a : Addr) (d : D)

/-- what is known at an address -/
inductive GO where
  | ho (o : HO)
  | memo (f : Str → Str → Bool)
abbrev Gh := Addr → Option GO
def gupd (G : Gh) (a : Addr) (g : GO) : Gh := fun b => if b = a then some g else G b
theorem gupd_same {G : Gh} {a : Addr} {g : GO} : gupd G a g a = some g := by unfold gupd; rw [if_pos rfl]
theorem gupd_ne {G : Gh} {a b : Addr} {g : GO} (h : b ≠ a) : gupd G a g b = G b := by unfold gupd; rw [if_neg h]

def MemoOk (f : Str → Str → Bool) (kvs : List (List Key × V)) : Prop :=
  kvs.length ≤ 5000 ∧ ∀ kv ∈ kvs, ∃ l r, kv = ([Sum.inr l, Sum.inr r], V.bl (f l r))
def Holds1 (H : Hp) (a : Addr) : GO → Prop
  | .ho o => H a = some o
  | .memo f => ∃ kvs, H a = some (.dT kvs) ∧ MemoOk f kvs
/-- the heap holds what is known -/
def Ext (G : Gh) (H : Hp) : Prop := ∀ a g, G a = some g → Holds1 H a g
theorem Holds1.some {H : Hp} {a : Addr} {g : GO} (h : Holds1 H a g) : ∃ o, H a = some o := by
  cases g with
  | ho o => exact ⟨o, h⟩
  | memo f => obtain ⟨kvs, h, _⟩ := h; exact ⟨_, h⟩

/-- a list that is read alone: known and locked, or an object of the module -/
def SqG (K : PySem.W.Frag) (G : Gh) (p : Addr) (vs : List V) : Prop :=
  (∃ o, G p = some (.ho (.frz o (.lst vs)))) ∨
    ∃ (o : Obj) (its : Array Value) (n : Nat), K.lookup p = some o ∧ o.cls = .type "list" ∧ o.dict = none ∧ o.data = .seq its n ∧ its.size ≤ sizeLine ∧ Vals vs its.toList
theorem SqG.sq {K : PySem.W.Frag} {G : Gh} {H : Hp} {p : Addr} {vs : List V} (e : Ext G H) (h : SqG K G p vs) : SqL K H p vs := by
  rcases h with ⟨o, h⟩ | h
  · exact .inl (.inr ⟨o, e p _ h⟩)
  · exact .inr h
theorem SqG.mono {K : PySem.W.Frag} {G G' : Gh} {p : Addr} {vs : List V} (k : ∀ a g, G a = some g → G' a = some g) (h : SqG K G p vs) : SqG K G' p vs := by
  rcases h with ⟨o, h⟩ | h
  · exact .inl ⟨o, k _ _ h⟩
  · exact .inr h

mutual
inductive Rep (K : PySem.W.Frag) (G : Gh) : D → V → Prop
  | non : Rep K G .non .non
  | bl {b : Bool} : Rep K G (.bl b) (.bl b)
  | int {i : Int} : Rep K G (.int i) (.int i)
  | str {x : Str} : Rep K G (.str x) (.str x)
  | ty {n : String} : Rep K G (.ty n) (.ty n)
  | ref {a : Addr} : Rep K G (.ref a) (.ref a)
  | lst {xs : List D} {p : Addr} {vs : List V} : G p = some (.ho (.lst vs)) → Reps K G xs vs → Rep K G (.lst xs) (.ref p)
  | tup {xs : List D} {p : Addr} {vs : List V} : G p = some (.ho (.tup vs)) → Reps K G xs vs → Rep K G (.tup xs) (.ref p)
  | dK {xs : List (Key × D)} {p : Addr} {vs : List (Key × V)} : G p = some (.ho (.dK vs)) → RepK K G xs vs → Rep K G (.dK xs) (.ref p)
  | dT {xs : List (List Key × D)} {p : Addr} {vs : List (List Key × V)} : G p = some (.ho (.dT vs)) → RepT K G xs vs → Rep K G (.dT xs) (.ref p)
  | ins {C : Addr} {fs : List (Str × D)} {p dx : Addr} {vs : List (Str × V)} : G p = some (.ho (.ins C dx vs)) → RepF K G fs vs → Rep K G (.ins C fs) (.ref p)
  | memo {f : Str → Str → Bool} {p : Addr} : G p = some (.memo f) → Rep K G (.memo f) (.ref p)
  | scr {ns : List Int} {p : Addr} : SqG K G p (ns.map V.int) → Rep K G (.scr ns) (.ref p)
  | exn {a dd : Addr} {fs : List (Str × D)} {vs : List (Str × V)} : G dd = some (.ho (.xd vs)) → RepF K G fs vs → Rep K G (.exn a dd fs) (.ref a)
  | adr {a : Addr} {d : D} : Rep K G d (.ref a) → Rep K G (.adr a d) (.ref a)
inductive Reps (K : PySem.W.Frag) (G : Gh) : List D → List V → Prop
  | nil : Reps K G [] []
  | cons {x : D} {v : V} {xs : List D} {vs : List V} : Rep K G x v → Reps K G xs vs → Reps K G (x :: xs) (v :: vs)
inductive RepK (K : PySem.W.Frag) (G : Gh) : List (Key × D) → List (Key × V) → Prop
  | nil : RepK K G [] []
  | cons {k : Key} {x : D} {v : V} {xs : List (Key × D)} {vs : List (Key × V)} : Rep K G x v → RepK K G xs vs → RepK K G ((k, x) :: xs) ((k, v) :: vs)
inductive RepT (K : PySem.W.Frag) (G : Gh) : List (List Key × D) → List (List Key × V) → Prop
  | nil : RepT K G [] []
  | cons {k : List Key} {x : D} {v : V} {xs : List (List Key × D)} {vs : List (List Key × V)} : Rep K G x v → RepT K G xs vs → RepT K G ((k, x) :: xs) ((k, v) :: vs)
inductive RepF (K : PySem.W.Frag) (G : Gh) : List (Str × D) → List (Str × V) → Prop
  | nil : RepF K G [] []
  | cons {k : Str} {x : D} {v : V} {xs : List (Str × D)} {vs : List (Str × V)} : Rep K G x v → RepF K G xs vs → RepF K G ((k, x) :: xs) ((k, v) :: vs)
end

def Le (G G' : Gh) : Prop := ∀ a g, G a = some g → G' a = some g
theorem Le.refl (G : Gh) : Le G G := fun _ _ h => h
theorem Le.trans {A B C : Gh} (h : Le A B) (h' : Le B C) : Le A C := fun a g e => h' a g (h a g e)
theorem Le.gupd {G : Gh} {a : Addr} {g : GO} (h : G a = none) : Le G (gupd G a g) := fun b u e => by
  by_cases hb : b = a
  · subst hb; rw [h] at e; cases e
  · rw [gupd_ne hb]; exact e

mutual
theorem Rep.mono {K : PySem.W.Frag} {G G' : Gh} (k : Le G G') : ∀ {d : D} {v : V}, Rep K G d v → Rep K G' d v
  | _, _, .non => .non
  | _, _, .bl => .bl
  | _, _, .int => .int
  | _, _, .str => .str
  | _, _, .ty => .ty
  | _, _, .ref => .ref
  | _, _, .lst h r => .lst (k _ _ h) (Reps.mono k r)
  | _, _, .tup h r => .tup (k _ _ h) (Reps.mono k r)
  | _, _, .dK h r => .dK (k _ _ h) (RepK.mono k r)
  | _, _, .dT h r => .dT (k _ _ h) (RepT.mono k r)
  | _, _, .ins h r => .ins (k _ _ h) (RepF.mono k r)
  | _, _, .memo h => .memo (k _ _ h)
  | _, _, .scr h => .scr (h.mono k)
  | _, _, .exn h r => .exn (k _ _ h) (RepF.mono k r)
  | _, _, .adr h => .adr (Rep.mono k h)
theorem Reps.mono {K : PySem.W.Frag} {G G' : Gh} (k : Le G G') : ∀ {d : List D} {v : List V}, Reps K G d v → Reps K G' d v
  | _, _, .nil => .nil
  | _, _, .cons h r => .cons (Rep.mono k h) (Reps.mono k r)
theorem RepK.mono {K : PySem.W.Frag} {G G' : Gh} (k : Le G G') : ∀ {d : List (Key × D)} {v : List (Key × V)}, RepK K G d v → RepK K G' d v
  | _, _, .nil => .nil
  | _, _, .cons h r => .cons (Rep.mono k h) (RepK.mono k r)
theorem RepT.mono {K : PySem.W.Frag} {G G' : Gh} (k : Le G G') : ∀ {d : List (List Key × D)} {v : List (List Key × V)}, RepT K G d v → RepT K G' d v
  | _, _, .nil => .nil
  | _, _, .cons h r => .cons (Rep.mono k h) (RepT.mono k r)
theorem RepF.mono {K : PySem.W.Frag} {G G' : Gh} (k : Le G G') : ∀ {d : List (Str × D)} {v : List (Str × V)}, RepF K G d v → RepF K G' d v
  | _, _, .nil => .nil
  | _, _, .cons h r => .cons (Rep.mono k h) (RepF.mono k r)
end

/-- from (G, H) to (G', H'): what is known stays known; what is tracked and not known stays as it was, but for what B lends; news lie at free addresses -/
structure Step (B : Addr → Prop) (G : Gh) (H : Hp) (G' : Gh) (H' : Hp) : Prop where
  le : Le G G'
  kept : ∀ a o, H a = some o → G a = none → ¬ B a → H' a = some o
  new : ∀ a g, G' a = some g → G a = none → H a = none
  ext : Ext G' H'
  live : ∀ a o, H a = some o → ∃ o', H' a = some o'
abbrev Step0 := Step fun _ => False
theorem Step.refl {B : Addr → Prop} {G : Gh} {H : Hp} (e : Ext G H) : Step B G H G H :=
  ⟨Le.refl G, fun _ _ h _ _ => h, fun a g h n => (by rw [n] at h; cases h), e, fun _ o h => ⟨o, h⟩⟩
theorem Step.trans {B : Addr → Prop} {G G1 G2 : Gh} {H H1 H2 : Hp} (a : Step B G H G1 H1) (b : Step B G1 H1 G2 H2) : Step B G H G2 H2 where
  le := a.le.trans b.le
  kept := fun x o h n nb => b.kept x o (a.kept x o h n nb) (by
    cases q : G1 x with
    | none => rfl
    | some g => have := a.new x g q n; rw [h] at this; cases this) nb
  new := fun x g h n => by
    cases q : G1 x with
    | some g' => exact a.new x g' q n
    | none =>
      have h1 := b.new x g h q
      cases r : H x with
      | none => rfl
      | some o => obtain ⟨o', z⟩ := a.live x o r; rw [h1] at z; cases z
  ext := b.ext
  live := fun x o h => by
    obtain ⟨o1, h1⟩ := a.live x o h
    exact b.live x o1 h1
theorem Step.weak {B B' : Addr → Prop} {G G1 : Gh} {H H1 : Hp} (h : ∀ a, B a → B' a) (a : Step B G H G1 H1) : Step B' G H G1 H1 :=
  ⟨a.le, fun x o e n nb => a.kept x o e n fun z => nb (h x z), a.new, a.ext, a.live⟩
theorem Step.of0 {B : Addr → Prop} {G G1 : Gh} {H H1 : Hp} (a : Step0 G H G1 H1) : Step B G H G1 H1 := a.weak fun _ z => z.elim
theorem Step.free {B : Addr → Prop} {G G1 : Gh} {H H1 : Hp} (a : Step B G H G1 H1) {x : Addr} (h : H1 x = none) : H x = none := by
  cases r : H x with
  | none => rfl
  | some o => obtain ⟨o', z⟩ := a.live x o r; rw [h] at z; cases z
theorem Step.gfree {B : Addr → Prop} {G G1 : Gh} {H H1 : Hp} (a : Step B G H G1 H1) {x : Addr} {o : HO} (h : H x = some o) (n : G x = none) : G1 x = none := by
  cases q : G1 x with
  | none => rfl
  | some g => have := a.new x g q n; rw [h] at this; cases this
theorem Ext.gfree {G : Gh} {H : Hp} (e : Ext G H) {x : Addr} (h : H x = none) : G x = none := by
  cases q : G x with
  | none => rfl
  | some g => obtain ⟨o, z⟩ := (e x g q).some; rw [h] at z; cases z
/-- a new object at a free address, not known -/
theorem Step.alloc {G : Gh} {H : Hp} {p : Addr} {o : HO} (e : Ext G H) (h : H p = none) : Step0 G H G (upd H p o) where
  le := Le.refl G
  kept := fun a u q _ _ => by rw [upd_ne (ne_of_none q h)]; exact q
  new := fun a g q n => by rw [n] at q; cases q
  ext := fun a g q => by
    have z := e a g q
    obtain ⟨u, hu⟩ := z.some
    have ne : a ≠ p := ne_of_none hu h
    cases g with
    | ho v => show upd H p o a = some v; rw [upd_ne ne]; exact z
    | memo f => obtain ⟨kvs, z1, z2⟩ := z; exact ⟨kvs, by rw [upd_ne ne]; exact z1, z2⟩
  live := fun a u q => ⟨u, by rw [upd_ne (ne_of_none q h)]; exact q⟩
/-- an object that is there, not known as yet, free at H, becomes known -/
theorem Step.know {B : Addr → Prop} {G G1 : Gh} {H H1 : Hp} {p : Addr} {o : HO} (s : Step B G H G1 H1) (hn : H p = none) (h : H1 p = some o) (n : G1 p = none) : Step B G H (gupd G1 p (.ho o)) H1 where
  le := s.le.trans (Le.gupd n)
  kept := s.kept
  new := fun a g q m => by
    by_cases z : a = p
    · rw [z]; exact hn
    · rw [gupd_ne z] at q; exact s.new a g q m
  ext := fun a g q => by
    by_cases z : a = p
    · subst z; rw [gupd_same] at q; cases q; exact h
    · rw [gupd_ne z] at q; exact s.ext a g q
  live := s.live
/-- an own object is changed -/
theorem Ext.upd {G : Gh} {H : Hp} {p : Addr} {o : HO} (e : Ext G H) (n : G p = none) : Ext G (upd H p o) := fun a g q => by
  have ne : a ≠ p := fun z => by rw [z, n] at q; cases q
  have z := e a g q
  cases g with
  | ho v => show L2.upd H p o a = some v; rw [upd_ne ne]; exact z
  | memo f => obtain ⟨kvs, z1, z2⟩ := z; exact ⟨kvs, by rw [upd_ne ne]; exact z1, z2⟩
theorem Step.write {B : Addr → Prop} {G G1 : Gh} {H H1 : Hp} {p : Addr} {o : HO} (s : Step B G H G1 H1) (hp : H p = none ∨ B p) (n : G1 p = none) : Step B G H G1 (upd H1 p o) where
  le := s.le
  kept := fun a u q m nb => by
    have ne : a ≠ p := fun z => by
      rcases hp with hp | hp
      · rw [z, hp] at q; cases q
      · exact nb (z ▸ hp)
    rw [upd_ne ne]; exact s.kept a u q m nb
  new := s.new
  ext := s.ext.upd n
  live := fun a u q => by
    by_cases z : a = p
    · exact ⟨o, by rw [z, upd_same]⟩
    · rw [upd_ne z]; exact s.live a u q

/-- an own thing: its one object may be changed; what it holds is known -/
inductive OwnAt (K : PySem.W.Frag) (G : Gh) (H : Hp) : Addr → D → Prop
  | lst {p : Addr} {xs : List D} {vs : List V} : H p = some (.lst vs) → Reps K G xs vs → OwnAt K G H p (.lst xs)
  | dK {p : Addr} {xs : List (Key × D)} {vs : List (Key × V)} : H p = some (.dK vs) → RepK K G xs vs → OwnAt K G H p (.dK xs)
  | dT {p : Addr} {xs : List (List Key × D)} {vs : List (List Key × V)} : H p = some (.dT vs) → RepT K G xs vs → OwnAt K G H p (.dT xs)
  | ins {p dx C : Addr} {fs : List (Str × D)} {vs : List (Str × V)} : H p = some (.ins C dx vs) → RepF K G fs vs → OwnAt K G H p (.ins C fs)
  | adr {p : Addr} {d : D} : OwnAt K G H p d → OwnAt K G H p (.adr p d)
theorem OwnAt.there {K : PySem.W.Frag} {G : Gh} {H : Hp} : ∀ {p : Addr} {d : D}, OwnAt K G H p d → ∃ o, H p = some o
  | _, _, .lst h _ => ⟨_, h⟩
  | _, _, .dK h _ => ⟨_, h⟩
  | _, _, .dT h _ => ⟨_, h⟩
  | _, _, .ins h _ => ⟨_, h⟩
  | _, _, .adr h => OwnAt.there h
theorem OwnAt.mono {K : PySem.W.Frag} {G G' : Gh} {H H' : Hp} (k : Le G G') : ∀ {p : Addr} {d : D}, OwnAt K G H p d → (∀ o, H p = some o → H' p = some o) → OwnAt K G' H' p d
  | _, _, .lst h r, e => .lst (e _ h) (r.mono k)
  | _, _, .dK h r, e => .dK (e _ h) (r.mono k)
  | _, _, .dT h r, e => .dT (e _ h) (r.mono k)
  | _, _, .ins h r, e => .ins (e _ h) (r.mono k)
  | _, _, .adr h, e => .adr (OwnAt.mono k h e)
/-- what is owned becomes known -/
theorem OwnAt.rep {K : PySem.W.Frag} {G G' : Gh} {H : Hp} (k : Le G G') : ∀ {p : Addr} {d : D}, OwnAt K G H p d → G' p = (H p).map GO.ho → Rep K G' d (.ref p)
  | _, _, .lst h r, e => .lst (by rw [e, h]; rfl) (r.mono k)
  | _, _, .dK h r, e => .dK (by rw [e, h]; rfl) (r.mono k)
  | _, _, .dT h r, e => .dT (by rw [e, h]; rfl) (r.mono k)
  | _, _, .ins h r, e => .ins (by rw [e, h]; rfl) (r.mono k)
  | _, _, .adr h, e => .adr (OwnAt.rep k h e)
theorem OwnAt.know {K : PySem.W.Frag} {G : Gh} {H : Hp} {p : Addr} {d : D} (h : OwnAt K G H p d) (n : G p = none) : ∃ o, H p = some o ∧ Rep K (gupd G p (.ho o)) d (.ref p) := by
  obtain ⟨o, ho⟩ := h.there
  exact ⟨o, ho, h.rep (Le.gupd n) (by rw [gupd_same, ho]; rfl)⟩
theorem OwnAt.notx {K : PySem.W.Frag} {G : Gh} {H : Hp} {fvs : List (Str × V)} : ∀ {p : Addr} {d : D}, OwnAt K G H p d → H p = some (.xd fvs) → False
  | _, _, .lst h _, e => by rw [h] at e; cases e
  | _, _, .dK h _, e => by rw [h] at e; cases e
  | _, _, .dT h _, e => by rw [h] at e; cases e
  | _, _, .ins h _, e => by rw [h] at e; cases e
  | _, _, .adr h, e => OwnAt.notx h e

/-- a result: known (false) or new and owned (true), from the heap H on -/
def RepO (K : PySem.W.Frag) (H : Hp) (G' : Gh) (H' : Hp) : Bool → D → V → Prop
  | false, d, v => Rep K G' d v
  | true, d, v => ∃ p, v = .ref p ∧ H p = none ∧ G' p = none ∧ OwnAt K G' H' p d
/-- a result is known from now on -/
theorem RepO.known {K : PySem.W.Frag} {B : Addr → Prop} {G G1 : Gh} {H H1 : Hp} {o : Bool} {d : D} {v : V} (s : Step B G H G1 H1) (r : RepO K H G1 H1 o d v) : ∃ G2, Step B G H G2 H1 ∧ Rep K G2 d v ∧ Le G1 G2 := by
  cases o with
  | false => exact ⟨G1, s, r, Le.refl _⟩
  | true =>
    obtain ⟨p, rfl, hn, n, w⟩ := r
    obtain ⟨u, hu, rep⟩ := w.know n
    exact ⟨_, s.know hn hu n, rep, Le.gupd n⟩

/-- the slots: empty, known data (false), own data (true) -/
abbrev En := List (Option (Bool × D))
/-- the slots' values are as Γ tells -/
structure Loc (K : PySem.W.Frag) (G : Gh) (H : Hp) (σ : St) (Γ : En) : Prop where
  len : σ.length = Γ.length
  ext : Ext G H
  val : ∀ (i : Nat) (d : D), Γ[i]? = some (some (false, d)) → ∃ v, σ[i]? = some (some v) ∧ Rep K G d v
  own : ∀ (i : Nat) (d : D), Γ[i]? = some (some (true, d)) → ∃ p, σ[i]? = some (some (.ref p)) ∧ G p = none ∧ OwnAt K G H p d
  dis : ∀ (i j : Nat) (d e : D) (p : Addr), i ≠ j → Γ[i]? = some (some (true, d)) → Γ[j]? = some (some (true, e)) → σ[i]? = some (some (.ref p)) → σ[j]? = some (some (.ref p)) → False
theorem Loc.go {K : PySem.W.Frag} {G G' : Gh} {H H' : Hp} {σ : St} {Γ : En} (E : Loc K G H σ Γ) (s : Step0 G H G' H') : Loc K G' H' σ Γ where
  len := E.len
  ext := s.ext
  val := fun i d h => by
    obtain ⟨v, h1, h2⟩ := E.val i d h
    exact ⟨v, h1, h2.mono s.le⟩
  own := fun i d h => by
    obtain ⟨p, h1, h2, h4⟩ := E.own i d h
    obtain ⟨o, ho⟩ := h4.there
    exact ⟨p, h1, s.gfree ho h2, h4.mono s.le fun u hu => s.kept p u hu h2 id⟩
  dis := E.dis
/-- the frame of a body: what is lent to it, what was known and tracked at its entry -/
structure Fm where
  B : Addr → Prop
  G0 : Gh
  H0 : Hp
structure EnvOk (K : PySem.W.Frag) (F : Fm) (G : Gh) (H : Hp) (σ : St) (Γ : En) : Prop where
  loc : Loc K G H σ Γ
  step : Step F.B F.G0 F.H0 G H
  lent : ∀ (i : Nat) (d : D) (p : Addr), Γ[i]? = some (some (true, d)) → σ[i]? = some (some (.ref p)) → F.H0 p = none ∨ F.B p
theorem EnvOk.go {K : PySem.W.Frag} {F : Fm} {G G' : Gh} {H H' : Hp} {σ : St} {Γ : En} (E : EnvOk K F G H σ Γ) (s : Step0 G H G' H') : EnvOk K F G' H' σ Γ :=
  ⟨E.loc.go s, E.step.trans s.of0, E.lent⟩

/-- data told by the value alone -/
def flat : D → Bool
  | .non => true | .bl _ => true | .int _ => true | .str _ => true | .ty _ => true | .ref _ => true
  | _ => false
/-- an exception: its class, its fields -/
structure Exn where
  cls : Addr
  fs : List (Str × D)
/-- it lies in the heap: its own dict holds the fields; or it has no dict and no fields -/
def ExcAt (K : PySem.W.Frag) (H0 : Hp) (G : Gh) (H : Hp) (x : Exn) (c : Value) (d : Option Addr) : Prop :=
  c = .ref x.cls ∧ ((d = none ∧ x.fs = []) ∨ ∃ dd fvs, d = some dd ∧ H dd = some (.xd fvs) ∧ G dd = none ∧ H0 dd = none ∧ RepF K G x.fs fvs ∧ x.fs.all (fun p => flat p.2) = true)
theorem ExcAt.older {K : PySem.W.Frag} {B : Addr → Prop} {G0 G1 G : Gh} {H0 H1 H : Hp} {x : Exn} {c : Value} {d : Option Addr} (s : Step B G0 H0 G1 H1) (h : ExcAt K H1 G H x c d) : ExcAt K H0 G H x c d := by
  obtain ⟨h1, h2⟩ := h
  refine ⟨h1, ?_⟩
  rcases h2 with h2 | ⟨dd, fvs, a1, a2, a3, a4, a5⟩
  · exact .inl h2
  · exact .inr ⟨dd, fvs, a1, a2, a3, s.free a4, a5⟩
/-- the wish W serves the exceptions ex from here on -/
def ExAt (X : Cx) (ex : Exn → Prop) (W : WX) (σ : St) (G : Gh) (H : Hp) : Prop :=
  ∀ x c d G' H', ex x → Step0 G H G' H' → ExcAt X.K H G' H' x c d → W c d σ H'
theorem ExAt.go {X : Cx} {ex : Exn → Prop} {W : WX} {σ : St} {G G1 : Gh} {H H1 : Hp} (h : ExAt X ex W σ G H) (s : Step0 G H G1 H1) : ExAt X ex W σ G1 H1 :=
  fun x c d G' H' hx s' he => h x c d G' H' hx (s.trans s') (he.older s)
/-- the wish about exceptions, of statements -/
abbrev EX := Exn → En → Prop
def ExLk (X : Cx) (F : Fm) (G : Gh) (ex : EX) (W : WX) : Prop := ∀ x c d G' H σ Γ, ex x Γ → EnvOk X.K F G' H σ Γ → Le G G' → ExcAt X.K F.H0 G' H x c d → W c d σ H
theorem ExLk.at {X : Cx} {F : Fm} {ex : EX} {W : WX} {G0 : Gh} (h : ExLk X F G0 ex W) {G : Gh} {H : Hp} {σ : St} {Γ : En} (E : EnvOk X.K F G H σ Γ) (le : Le G0 G := by exact Le.refl _) : ExAt X (fun x => ex x Γ) W σ G H :=
  fun x c d G' H' hx s he => h x c d G' H' σ Γ hx (E.go s) (le.trans s.le) (he.older E.step)

/-- expressions on the machine itself, as a reading -/
def tW (X : Cx) (e : Expr) : TE := fun σ H Q => ∀ pins s, Inv X pins σ H s → wpAny (model X.prog X.w) X.A (eval e X.env) (EP X pins σ Q) X.xe s
theorem pe_W {X : Cx} {e : Expr} : PE X e (tW X e) := ⟨fun pins s _ _ _ I h => h pins s I⟩
def tWt (X : Cx) (e : Expr) : TT := fun σ H Q => ∀ pins s, Inv X pins σ H s → wpAny (model X.prog X.w) X.A (isTrue e X.env (eval e X.env)) (TP X pins σ Q) X.xe s
theorem pt_W {X : Cx} {e : Expr} : PT X e (tWt X e) := ⟨fun pins s _ _ _ I h => h pins s I⟩
def tWa (X : Cx) (es : List Expr) : TA := fun σ H Q => ∀ pos pins s, Inv X pins σ H s → wpAny (model X.prog X.w) X.A (spliced (backTo pos (starEach es X.env))) (AP X pins σ Q) X.xe s
theorem pa_W {X : Cx} {es : List Expr} : PA X es (tWa X es) := ⟨fun pos pins s _ _ _ I h => h pos pins s I⟩
def tWs (X : Cx) (st : List Stmt) : TS := fun D σ H => ∀ pins s, Inv X pins σ H s → wpAny (model X.prog X.w) X.A (execs st X.env) (SP X pins D) X.xe s
theorem pss_W {X : Cx} {st : List Stmt} : PSs X st (tWs X st) := ⟨fun pins s _ _ _ I h => h pins s I⟩
def tW1 (X : Cx) (st : Stmt) : TS := fun D σ H => ∀ pins s, Inv X pins σ H s → wpAny (model X.prog X.w) X.A (exec st X.env) (SP X pins D) X.xe s
theorem ps_W {X : Cx} {st : Stmt} : PS X st (tW1 X st) := ⟨fun pins s _ _ _ I h => h pins s I⟩
theorem tW_of {X : Cx} {e : Expr} {t : TE} (h : PE X e t) {σ : St} {H : Hp} {Q : VK} (q : t σ H Q) : tW X e σ H Q := fun pins s I => h.run pins s σ H Q I q
theorem tWt_of {X : Cx} {e : Expr} {t : TT} (h : PT X e t) {σ : St} {H : Hp} {Q : Bool → Hp → Prop} (q : t σ H Q) : tWt X e σ H Q := fun pins s I => h.run pins s σ H Q I q
theorem tWa_of {X : Cx} {e : List Expr} {t : TA} (h : PA X e t) {σ : St} {H : Hp} {Q : List V → Hp → Prop} (q : t σ H Q) : tWa X e σ H Q := fun pos pins s I => h.run pos pins s σ H Q I q
theorem tWs_of {X : Cx} {e : List Stmt} {t : TS} (h : PSs X e t) {σ : St} {H : Hp} {Q : Ends} (q : t Q σ H) : tWs X e Q σ H := fun pins s I => h.run pins s σ H Q I q
theorem tW1_of {X : Cx} {e : Stmt} {t : TS} (h : PS X e t) {σ : St} {H : Hp} {Q : Ends} (q : t Q σ H) : tW1 X e Q σ H := fun pins s I => h.run pins s σ H Q I q

def tWg (X : Cx) (tg : Expr) : TG := fun v σ H Q => ∀ pins s u, Inv X pins σ H s → RelV v u → wpAny (model X.prog X.w) X.A (assign tg X.env u) (fun _ s' => ∃ σ' H', Inv X pins σ' H' s' ∧ Q σ' H') X.xe s
theorem pg_W {X : Cx} {tg : Expr} : PG X tg (tWg X tg) := ⟨fun pins s σ H v u Q I r h => h pins s u I r⟩
theorem tWg_of {X : Cx} {tg : Expr} {t : TG} (h : PG X tg t) {v : V} {σ : St} {H : Hp} {Q : St → Hp → Prop} (q : t v σ H Q) : tWg X tg v σ H Q := fun pins s u I r => h.run pins s σ H v u Q I r q

/-- exceptions of calls are served; all, where the frame is the context's own -/
structure Tk (X : Cx) (W : WX) : Prop where
  call : ∀ σ, PassesAt (L2.CX X.prog X.w) X σ (WE W σ)
  held : X.env.frame = some X.env.locals → Takes X W
theorem Tk.of {X : Cx} {W : WX} (h : Takes X W) : Tk X W := ⟨passAt h, fun _ => h⟩

/-! ### the judgements -/
/-- e gives, at the slots Γ, data of which R holds (true: new and owned) -/
def ED (X : Cx) (ex : Exn → Prop) (e : Expr) (Γ : En) (R : Bool → D → Prop) : Prop :=
  ∀ σ G H, Loc X.K G H σ Γ → ∀ W, Tk X W → ExAt X ex W σ G H → ∀ Q : VK, (∀ o d v G' H', R o d → Step0 G H G' H' → RepO X.K H G' H' o d v → Q v H') → tW X e σ H Q
def ET (X : Cx) (ex : Exn → Prop) (e : Expr) (Γ : En) (R : Bool → Prop) : Prop :=
  ∀ σ G H, Loc X.K G H σ Γ → ∀ W, Tk X W → ExAt X ex W σ G H → ∀ Q : Bool → Hp → Prop, (∀ b G' H', R b → Step0 G H G' H' → Q b H') → tWt X e σ H Q
def EA (X : Cx) (ex : Exn → Prop) (es : List Expr) (Γ : En) (R : List D → Prop) : Prop :=
  ∀ σ G H, Loc X.K G H σ Γ → ∀ W, Tk X W → ExAt X ex W σ G H → ∀ Q : List V → Hp → Prop, (∀ ds vs G' H', R ds → Step0 G H G' H' → Reps X.K G' ds vs → Q vs H') → tWa X es σ H Q
/-- the target takes the data d -/
def TD (X : Cx) (tg : Expr) (d : D) (Γ : En) (R : En → Prop) : Prop :=
  ∀ F σ G H, EnvOk X.K F G H σ Γ → ∀ v, Rep X.K G d v → ∀ Q : St → Hp → Prop, (∀ Γ' σ' G' H', R Γ' → EnvOk X.K F G' H' σ' Γ' → Step0 G H G' H' → Q σ' H') → tWg X tg v σ H Q
/-- what is walked gives the data ds, one after another -/
structure SeqOk (K : PySem.W.Frag) (G1 : Gh) (J : It) (ds : List D) : Prop where
  go : ∀ i H, i < ds.length → Ext G1 H → J.go i H
  stop : ∀ H, Ext G1 H → J.stop ds.length H
  give : ∀ i G H x H', i < ds.length → Le G1 G → Ext G H → J.yld i H x H' → ∃ G' d, Step0 G H G' H' ∧ ds[i]? = some d ∧ Rep K G' d x
def EI (X : Cx) (ex : Exn → Prop) (tg it : Expr) (Γ : En) (R : List D → Prop) : Prop :=
  ∃ wi, PI X tg it wi ∧ ∀ σ G H, Loc X.K G H σ Γ → ∀ W, Tk X W → ExAt X ex W σ G H → ∀ Q : It → Hp → Prop, (∀ J ds G' H', R ds → Step0 G H G' H' → SeqOk X.K G' J ds → Q J H') → wi σ H Q
/-- what is wanted behind statements -/
structure Po where
  nx : En → Prop
  rt : Bool → D → En → Prop
  bk : En → Prop := fun _ => False
  ct : En → Prop := fun _ => False
  /-- what is lent to the body -/
  lb : List Addr := []
structure PoLk (K : PySem.W.Frag) (F : Fm) (G : Gh) (P : Po) (Dn : Ends) : Prop where
  nx : ∀ G' H σ Γ, P.nx Γ → EnvOk K F G' H σ Γ → Le G G' → Dn.nx σ H
  rt : ∀ o d v G' H σ Γ, P.rt o d Γ → EnvOk K F G' H σ Γ → RepO K F.H0 G' H o d v → Le G G' → Dn.rt v H
  bk : ∀ G' H σ Γ, P.bk Γ → EnvOk K F G' H σ Γ → Le G G' → Dn.bk σ H
  ct : ∀ G' H σ Γ, P.ct Γ → EnvOk K F G' H σ Γ → Le G G' → Dn.ct σ H
  nb : ∀ a, F.B a → a ∈ P.lb
/-- the context and the wish of a body of statements -/
structure XOk (X : Cx) (F : Fm) (G : Gh) (ex : EX) (W : WX) : Prop where
  tk : Takes X W
  po : PassesOwn (model X.prog X.w) X.A X.env X.xe
  lk : ExLk X F G ex W
theorem XOk.te {X : Cx} {F : Fm} {G : Gh} {ex : EX} {W : WX} (x : XOk X F G ex W) : Tk X W := .of x.tk
theorem XOk.go {X : Cx} {F : Fm} {G G1 : Gh} {ex : EX} {W : WX} (x : XOk X F G ex W) (le : Le G G1) : XOk X F G1 ex W :=
  ⟨x.tk, x.po, fun y c d G' H σ Γ a b l e => x.lk y c d G' H σ Γ a b (le.trans l) e⟩
def WD (X : Cx) (ex : EX) (st : List Stmt) (Γ : En) (P : Po) : Prop :=
  ∀ F σ G H, EnvOk X.K F G H σ Γ → ∀ W, XOk X F G ex W → ∀ Dn, PoLk X.K F G P Dn → tWs X st Dn σ H
def W1 (X : Cx) (ex : EX) (st : Stmt) (Γ : En) (P : Po) : Prop :=
  ∀ F σ G H, EnvOk X.K F G H σ Γ → ∀ W, XOk X F G ex W → ∀ Dn, PoLk X.K F G P Dn → tW1 X st Dn σ H
theorem PoLk.go {K : PySem.W.Frag} {F : Fm} {G G1 : Gh} {P : Po} {Dn : Ends} (lk : PoLk K F G P Dn) (le : Le G G1) : PoLk K F G1 P Dn :=
  ⟨fun G' H σ Γ h E l => lk.nx G' H σ Γ h E (le.trans l), fun o d v G' H σ Γ h E r l => lk.rt o d v G' H σ Γ h E r (le.trans l), fun G' H σ Γ h E l => lk.bk G' H σ Γ h E (le.trans l), fun G' H σ Γ h E l => lk.ct G' H σ Γ h E (le.trans l), lk.nb⟩
end DL

/-! DL1: the rules of the data logic: names, constants, operators, subscripts, statements, loops. -/
namespace DL
open PySem L2

/-! ### lists of data -/
section
variable {K : PySem.W.Frag} {G : Gh}
theorem Reps.length : ∀ {xs : List D} {vs : List V}, Reps K G xs vs → xs.length = vs.length
  | _, _, .nil => rfl
  | _, _, .cons _ t => congrArg (· + 1) (Reps.length t)
theorem Reps.get : ∀ {xs : List D} {vs : List V} {i : Nat} {d : D}, Reps K G xs vs → xs[i]? = some d → ∃ v, vs[i]? = some v ∧ Rep K G d v
  | _, _, _, _, .nil, e => by simp at e
  | _, _, 0, _, .cons r _, e => by simp at e; subst e; exact ⟨_, rfl, r⟩
  | _, _, i + 1, d, .cons r t, e => by
    obtain ⟨u, h1, h2⟩ := Reps.get (i := i) (d := d) t (by simpa using e)
    exact ⟨u, by simpa using h1, h2⟩
theorem Reps.getv {xs : List D} {vs : List V} {i : Nat} {v : V} (h : Reps K G xs vs) (e : vs[i]? = some v) : ∃ d, xs[i]? = some d ∧ Rep K G d v := by
  have hl := h.length
  have hi : i < xs.length := by rw [hl]; exact (List.getElem?_eq_some_iff.mp e).1
  obtain ⟨d, hd⟩ : ∃ d, xs[i]? = some d := ⟨xs[i], by simp [hi]⟩
  obtain ⟨u, h1, h2⟩ := h.get hd
  rw [e] at h1; cases h1
  exact ⟨d, hd, h2⟩
theorem Reps.append : ∀ {xs ys : List D} {vs ws : List V}, Reps K G xs vs → Reps K G ys ws → Reps K G (xs ++ ys) (vs ++ ws)
  | _, _, _, _, .nil, s => s
  | _, _, _, _, .cons r t, s => .cons r (Reps.append t s)
theorem Reps.take : ∀ {xs : List D} {vs : List V} (n : Nat), Reps K G xs vs → Reps K G (xs.take n) (vs.take n)
  | _, _, 0, _ => .nil
  | _, _, _ + 1, .nil => .nil
  | _, _, n + 1, .cons r t => .cons r (Reps.take n t)
theorem Reps.drop : ∀ {xs : List D} {vs : List V} (n : Nat), Reps K G xs vs → Reps K G (xs.drop n) (vs.drop n)
  | _, _, 0, r => r
  | _, _, _ + 1, .nil => .nil
  | _, _, n + 1, .cons _ t => Reps.drop n t
theorem Reps.set {d : D} {v : V} (r : Rep K G d v) : ∀ {xs : List D} {vs : List V} (i : Nat), Reps K G xs vs → Reps K G (xs.set i d) (vs.set i v)
  | _, _, _, .nil => .nil
  | _, _, 0, .cons _ t => .cons r t
  | _, _, i + 1, .cons q t => .cons q (Reps.set r i t)
theorem Reps.reverse : ∀ {xs : List D} {vs : List V}, Reps K G xs vs → Reps K G xs.reverse vs.reverse
  | _, _, .nil => .nil
  | _, _, .cons r t => by rw [List.reverse_cons, List.reverse_cons]; exact (Reps.reverse t).append (.cons r .nil)
theorem Reps.dropLast {xs : List D} {vs : List V} (h : Reps K G xs vs) : Reps K G xs.dropLast vs.dropLast := by
  rw [List.dropLast_eq_take, List.dropLast_eq_take, h.length]; exact h.take _
theorem Reps.ints : ∀ {ns : List Int} {vs : List V}, Reps K G (ns.map D.int) vs → vs = ns.map V.int
  | [], _, .nil => rfl
  | n :: ns, _, .cons r t => by cases r; rw [Reps.ints t]; rfl
theorem Reps.ofInts : ∀ (ns : List Int), Reps K G (ns.map D.int) (ns.map V.int)
  | [] => .nil
  | n :: ns => .cons .int (Reps.ofInts ns)
theorem Reps.strs : ∀ {ns : List Str} {vs : List V}, Reps K G (ns.map D.str) vs → vs = ns.map V.str
  | [], _, .nil => rfl
  | n :: ns, _, .cons r t => by cases r; rw [Reps.strs t]; rfl
theorem Reps.ofStrs : ∀ (ns : List Str), Reps K G (ns.map D.str) (ns.map V.str)
  | [] => .nil
  | n :: ns => .cons .str (Reps.ofStrs ns)
theorem Reps.bls : ∀ {ns : List Bool} {vs : List V}, Reps K G (ns.map D.bl) vs → vs = ns.map V.bl
  | [], _, .nil => rfl
  | n :: ns, _, .cons r t => by cases r; rw [Reps.bls t]; rfl
theorem Reps.atI {xs : List D} {vs : List V} {i : Int} {d : D} (h : Reps K G xs vs) (e : L2.atI xs i = some d) : ∃ v, L2.atI vs i = some v ∧ Rep K G d v := by
  unfold L2.atI at e ⊢
  rw [← h.length]
  cases q : ixN xs.length i with
  | none => rw [q] at e; cases e
  | some j => rw [q] at e; exact h.get e
end

/-! ### flat data: told by the value alone -/
theorem Rep.flat {K : PySem.W.Frag} {G G' : Gh} {d : D} {v : V} (h : Rep K G d v) (f : flat d = true) : Rep K G' d v := by
  cases h with
  | non => exact .non
  | bl => exact .bl
  | int => exact .int
  | str => exact .str
  | ty => exact .ty
  | ref => exact .ref
  | lst _ _ => cases f
  | tup _ _ => cases f
  | dK _ _ => cases f
  | dT _ _ => cases f
  | ins _ _ => cases f
  | memo _ => cases f
  | scr _ => cases f
  | exn _ _ => cases f
  | adr _ => cases f
theorem Reps.flat {K : PySem.W.Frag} {G G' : Gh} : ∀ {xs : List D} {vs : List V}, Reps K G xs vs → xs.all DL.flat = true → Reps K G' xs vs
  | _, _, .nil, _ => .nil
  | _, _, .cons h r, f => by
    rw [List.all_cons, Bool.and_eq_true] at f
    exact .cons (h.flat f.1) (Reps.flat r f.2)
theorem RepF.flat {K : PySem.W.Frag} {G G' : Gh} : ∀ {xs : List (Str × D)} {vs : List (Str × V)}, RepF K G xs vs → xs.all (fun p => DL.flat p.2) = true → RepF K G' xs vs
  | _, _, .nil, _ => .nil
  | _, _, .cons h r, f => by
    rw [List.all_cons, Bool.and_eq_true] at f
    exact .cons (h.flat f.1) (RepF.flat r f.2)
theorem ExcAt.back {K : PySem.W.Frag} {G G' : Gh} {H0 H : Hp} {x : Exn} {c : Value} {d : Option Addr} (k : Le G G') (h : ExcAt K H0 G' H x c d) : ExcAt K H0 G H x c d := by
  obtain ⟨h1, h2⟩ := h
  refine ⟨h1, ?_⟩
  rcases h2 with h2 | ⟨dd, fvs, a1, a2, a3, a0, a4, a5⟩
  · exact .inl h2
  · refine .inr ⟨dd, fvs, a1, a2, ?_, a0, a4.flat a5, a5⟩
    cases q : G dd with
    | none => rfl
    | some g => rw [k dd g q] at a3; cases a3
/-- every own slot known -/
def frz : En → En := List.map fun | some (_, d) => some (false, d) | none => none
theorem frz_get {Γ : En} {i : Nat} {o : Bool} {d : D} (h : (frz Γ)[i]? = some (some (o, d))) : o = false ∧ ∃ o', Γ[i]? = some (some (o', d)) := by
  unfold frz at h
  rw [List.getElem?_map] at h
  cases q : Γ[i]? with
  | none => rw [q] at h; cases h
  | some x =>
    rw [q] at h
    cases x with
    | none => cases h
    | some y =>
      obtain ⟨o', d'⟩ := y
      cases h
      exact ⟨rfl, o', rfl⟩
def OwnS (σ : St) (Γ : En) (a : Addr) : Prop := ∃ (i : Nat) (d : D), Γ[i]? = some (some (true, d)) ∧ σ[i]? = some (some (.ref a))
open Classical in
/-- all that stands at an own slot, known -/
noncomputable def gall (G : Gh) (H : Hp) (σ : St) (Γ : En) : Gh := fun a => if OwnS σ Γ a then (H a).map GO.ho else G a
section
variable {K : PySem.W.Frag} {F : Fm} {G : Gh} {H : Hp} {σ : St} {Γ : En}
theorem Loc.gnone (E : Loc K G H σ Γ) {a : Addr} (h : OwnS σ Γ a) : G a = none := by
  obtain ⟨i, d, h1, h2⟩ := h
  obtain ⟨p, q1, q2, _⟩ := E.own i d h1
  rw [h2] at q1; cases q1
  exact q2
theorem Loc.le_gall (E : Loc K G H σ Γ) : Le G (gall G H σ Γ) := fun a g h => by
  unfold gall
  rw [if_neg fun z => by rw [E.gnone z] at h; cases h]
  exact h
theorem Loc.ext_gall (E : Loc K G H σ Γ) : Ext (gall G H σ Γ) H := fun a g h => by
  unfold gall at h
  by_cases z : OwnS σ Γ a
  · rw [if_pos z] at h
    cases q : H a with
    | none => rw [q] at h; cases h
    | some o => rw [q] at h; cases h; exact q
  · rw [if_neg z] at h; exact E.ext a g h
theorem gall_at (h : OwnS σ Γ p) : gall G H σ Γ p = (H p).map GO.ho := by unfold gall; rw [if_pos h]
theorem Loc.all (E : Loc K G H σ Γ) : Loc K (gall G H σ Γ) H σ (frz Γ) where
  len := by rw [E.len]; unfold frz; rw [List.length_map]
  ext := E.ext_gall
  val := fun i d h => by
    obtain ⟨_, o', h'⟩ := frz_get h
    cases o' with
    | false =>
      obtain ⟨v, a, b⟩ := E.val i d h'
      exact ⟨v, a, b.mono E.le_gall⟩
    | true =>
      obtain ⟨p, a, b, c⟩ := E.own i d h'
      have hp : OwnS σ Γ p := ⟨i, d, h', a⟩
      refine ⟨.ref p, a, ?_⟩
      exact c.rep E.le_gall (gall_at hp)
  own := fun i d h => by cases (frz_get h).1
  dis := fun i j d e p _ h => by cases (frz_get h).1
/-- a step with all own things known is one without -/
theorem Loc.thaw (E : Loc K G H σ Γ) {G1 : Gh} {H1 : Hp} (s : Step0 (gall G H σ Γ) H G1 H1) : Step0 G H G H1 where
  le := Le.refl G
  kept := fun a o h n _ => by
    by_cases z : OwnS σ Γ a
    · have e : gall G H σ Γ a = some (.ho o) := by rw [gall_at z, h]; rfl
      have := s.ext a _ (s.le a _ e)
      exact this
    · exact s.kept a o h (by unfold gall; rw [if_neg z]; exact n) id
  new := fun a g h n => by rw [n] at h; cases h
  ext := fun a g h => s.ext a g (s.le a g (E.le_gall a g h))
  live := s.live
end
section
variable {X : Cx} {ex : Exn → Prop} {e : Expr} {Γ : En}
theorem ExAt.all {W : WX} {σ : St} {G : Gh} {H : Hp} (E : Loc X.K G H σ Γ) (h : ExAt X ex W σ G H) : ExAt X ex W σ (gall G H σ Γ) H :=
  fun x c d G' H' hx s he => h x c d G H' hx (E.thaw s) (he.back (E.le_gall.trans s.le))
/-- where the result is flat, own things may be read -/
theorem ed_flat {R : Bool → D → Prop} (h : ED X ex e (frz Γ) fun _ d => flat d = true ∧ R false d) : ED X ex e Γ R := by
  intro σ G H E W tk xa Q k
  refine h σ _ H E.all W tk (xa.all E) Q fun o d v G' H' hR s r => ?_
  obtain ⟨G2, s2, r2, _⟩ := r.known s
  exact k false d v G H' hR.2 (E.thaw s2) (r2.flat hR.1)
/-- a new list of flat things -/
theorem ed_flatL {R : Bool → D → Prop} (h : ED X ex e (frz Γ) fun o d => o = true ∧ ∃ xs, d = .lst xs ∧ xs.all flat = true ∧ R true d) : ED X ex e Γ R := by
  intro σ G H E W tk xa Q k
  refine h σ _ H E.all W tk (xa.all E) Q fun o d v G' H' hR s r => ?_
  obtain ⟨rfl, xs, rfl, hf, hR⟩ := hR
  obtain ⟨p, rfl, hn, n, w⟩ := r
  refine k true (.lst xs) _ G H' hR (E.thaw s) ⟨p, rfl, hn, E.ext.gfree hn, ?_⟩
  cases w with
  | lst h r => exact .lst h (r.flat hf)
theorem et_flat {R : Bool → Prop} (h : ET X ex e (frz Γ) R) : ET X ex e Γ R := by
  intro σ G H E W tk xa Q k
  exact h σ _ H E.all W tk (xa.all E) Q fun b G' H' hR s => k b G H' hR (E.thaw s)
end
end DL

/-! DL2: the rules of expressions. -/
namespace DL
open PySem L2

section
variable {X : Cx} {ex : Exn → Prop} {Γ : En} {R : Bool → D → Prop} {pos p : Pos}

/-! ### consequence -/
theorem ED.imp {e : Expr} {R' : Bool → D → Prop} (h : ED X ex e Γ R) (k : ∀ o d, R o d → R' o d) : ED X ex e Γ R' :=
  fun σ G H E W tk xa Q q => h σ G H E W tk xa Q fun o d v G' H' hR s r => q o d v G' H' (k o d hR) s r
theorem ET.imp {e : Expr} {R R' : Bool → Prop} (h : ET X ex e Γ R) (k : ∀ b, R b → R' b) : ET X ex e Γ R' :=
  fun σ G H E W tk xa Q q => h σ G H E W tk xa Q fun b G' H' hR s => q b G' H' (k b hR) s
theorem EA.imp {es : List Expr} {R R' : List D → Prop} (h : EA X ex es Γ R) (k : ∀ b, R b → R' b) : EA X ex es Γ R' :=
  fun σ G H E W tk xa Q q => h σ G H E W tk xa Q fun b vs G' H' hR s => q b vs G' H' (k b hR) s
/-- the value of e is known, whatever it was -/
theorem ED.use {e : Expr} (h : ED X ex e Γ fun _ d => R false d) {σ : St} {G : Gh} {H : Hp} (E : Loc X.K G H σ Γ) {W : WX} (tk : Tk X W) (xa : ExAt X ex W σ G H) {Q : VK}
    (q : ∀ d v G' H', R false d → Step0 G H G' H' → Rep X.K G' d v → Q v H') : tW X e σ H Q :=
  h σ G H E W tk xa Q fun o d v G' H' hR s r => by
    obtain ⟨G2, s2, r2, _⟩ := r.known s
    exact q d v G2 H' hR s2 r2

/-! ### names and constants -/
theorem ed_name {i : Nat} {x : Str} {d : D} (hΓ : Γ[i]? = some (some (false, d))) (hN : X.N[i]? = some x) (hv : Vis X.env.scope x) (h : R false d)
    (hd : (x == ("__debug__" : Str)) = false := by decide) (hcd : (x == ("__classdict__" : Str)) = false := by decide) : ED X ex (.Name x pos) Γ R := by
  intro σ G H E W tk xa Q k
  obtain ⟨v, e, r⟩ := E.val i d hΓ
  exact tW_of (pe_var hN hv hd hcd) ⟨v, e, k false d v G H h (.refl E.ext) r⟩
theorem ed_c {e : Expr} {v : V} {d : D} (hp : PE X e (tC v)) (hr : ∀ G, Rep X.K G d v) (h : R false d) : ED X ex e Γ R := by
  intro σ G H E W tk xa Q k
  exact tW_of hp (k false d v G H h (.refl E.ext) (hr G))
theorem ed_int {i j} (h : R false (.int i)) : ED X ex (.Constant (.int i) j pos) Γ R := ed_c pe_int (fun _ => .int) h
theorem ed_str {i j} (h : R false (.str i)) : ED X ex (.Constant (.str i) j pos) Γ R := ed_c pe_str (fun _ => .str) h
theorem ed_bl {i j} (h : R false (.bl i)) : ED X ex (.Constant (.bool i) j pos) Γ R := ed_c pe_bl (fun _ => .bl) h
theorem ed_non {j} (h : R false .non) : ED X ex (.Constant .none j pos) Γ R := ed_c pe_non (fun _ => .non) h
/-- a constant of the module -/
theorem ed_globS {x : Str} {s : Str} {t : Tok} (hm : X.mg x = some (.str s t)) (hg : Gl X x) (h : R false (.str s)) (hd : (x == ("__debug__" : Str)) = false := by decide) : ED X ex (.Name x pos) Γ R :=
  ed_c (pe_glob (v := .str s) hg hm ⟨t, rfl⟩ hd) (fun _ => .str) h
theorem ed_globI {x : Str} {s : Int} {t : Tok} (hm : X.mg x = some (.int s t)) (hg : Gl X x) (h : R false (.int s)) (hd : (x == ("__debug__" : Str)) = false := by decide) : ED X ex (.Name x pos) Γ R :=
  ed_c (pe_glob (v := .int s) hg hm ⟨t, rfl⟩ hd) (fun _ => .int) h

/-! ### operators -/
/-- what a two-place operator gives: by data -/
def BinR (X : Cx) (op : Operator) (d1 d2 : D) (R : Bool → D → Prop) : Prop :=
  ∀ G H x y, Ext G H → Rep X.K G d1 x → Rep X.K G d2 y → ∀ pins σ s u w, Inv X pins σ H s → RelV x u → RelV y w → ∀ Q : VK,
    (∀ o d v G' H', R o d → Step0 G H G' H' → RepO X.K H G' H' o d v → Q v H') → wpAny (model X.prog X.w) X.A (binaryOp op u w) (EP X pins σ Q) X.xe s
theorem ed_bin {a b : Expr} {op : Operator} (h : ED X ex a Γ fun _ d1 => ED X ex b Γ fun _ d2 => BinR X op d1 d2 R) : ED X ex (.BinOp a op b pos) Γ R := by
  intro σ G H E W tk xa Q k pins s I
  refine wpAny_BinOp ?_
  have h1 := (ED.use (R := fun _ d1 => ED X ex b Γ fun _ d2 => BinR X op d1 d2 R) h E tk xa
    (Q := fun x H1 => ∃ d1 G1, (ED X ex b Γ fun _ d2 => BinR X op d1 d2 R) ∧ Step0 G H G1 H1 ∧ Rep X.K G1 d1 x) fun d v G' H' a b c => ⟨d, G', a, b, c⟩) pins s I
  refine thn h1 fun u s1 ⟨x, H1, I1, r1, d1, G1, hb, st1, rep1⟩ => ?_
  have h2 := (ED.use (R := fun _ d2 => BinR X op d1 d2 R) hb (E.go st1) tk (xa.go st1)
    (Q := fun y H2 => ∃ d2 G2, BinR X op d1 d2 R ∧ Step0 G1 H1 G2 H2 ∧ Rep X.K G2 d2 y) fun d v G' H' a b c => ⟨d, G', a, b, c⟩) pins s1 I1
  refine thn h2 fun w s2 ⟨y, H2, I2, r2, d2, G2, hc, st2, rep2⟩ => ?_
  exact hc G2 H2 x y st2.ext (rep1.mono st2.le) rep2 pins σ s2 u w I2 r1 r2 Q fun o d v G' H' hR st3 rep => k o d v G' H' hR ((st1.trans st2).trans st3) (by
    cases o with
    | false => exact rep
    | true => obtain ⟨q, e, hn, z⟩ := rep; exact ⟨q, e, (st1.trans st2).free hn, z⟩)
/-- from a rule by values -/
theorem BinR.of {op : Operator} {r : R2} {d1 d2 : D} (ho : OpR X (binaryOp op) r) (h : ∀ G H x y, Ext G H → Rep X.K G d1 x → Rep X.K G d2 y → ∀ Q : VK,
    (∀ o d v G' H', R o d → Step0 G H G' H' → RepO X.K H G' H' o d v → Q v H') → r x y H Q) : BinR X op d1 d2 R :=
  fun G H x y E r1 r2 pins σ s u w I ru rw' Q k => ho pins s σ H x y u w Q I ru rw' (h G H x y E r1 r2 Q k)
theorem add_ii {i j : Int} (h : R false (.int (i + j))) : BinR X .Add (.int i) (.int j) R := .of op_add fun G H x y E r1 r2 Q k => by
  cases r1; cases r2
  exact ⟨i, j, rfl, rfl, k _ _ _ G H h (.refl E) .int⟩
theorem sub_ii {i j : Int} (h : R false (.int (i - j))) : BinR X .Sub (.int i) (.int j) R := .of op_sub fun G H x y E r1 r2 Q k => by
  cases r1; cases r2
  exact ⟨i, j, rfl, rfl, k _ _ _ G H h (.refl E) .int⟩
/-- one factor below 2^64 -/
theorem mul_ii {i j : Int} (hc : CMul i j) (h : R false (.int (i * j))) : BinR X .Mult (.int i) (.int j) R := .of op_mul fun G H x y E r1 r2 Q k => by
  cases r1; cases r2
  exact ⟨i, j, rfl, rfl, hc, k _ _ _ G H h (.refl E) .int⟩
theorem mulW_ii {i j : Int} (hc : CMulW i j) (h : R false (.int (i * j))) : BinR X .Mult (.int i) (.int j) R := .of op_mulW fun G H x y E r1 r2 Q k => by
  cases r1; cases r2
  exact ⟨i, j, rfl, rfl, hc, k _ _ _ G H h (.refl E) .int⟩
theorem mod_ii {i j : Int} (hc : 0 < j) (h : R false (.int (i % j))) : BinR X .Mod (.int i) (.int j) R := .of op_mod fun G H x y E r1 r2 Q k => by
  cases r1; cases r2
  exact ⟨i, j, rfl, rfl, hc, k _ _ _ G H h (.refl E) .int⟩
theorem fdiv_ii {i j : Int} (hc : CDivW i j) (h : R false (.int (i / j))) : BinR X .FloorDiv (.int i) (.int j) R := .of op_fdivW fun G H x y E r1 r2 Q k => by
  cases r1; cases r2
  exact ⟨i, j, rfl, rfl, hc, k _ _ _ G H h (.refl E) .int⟩
theorem pow_ii {i j : Int} (hc : CPow i j) (h : R false (.int (i ^ j.toNat))) : BinR X .Pow (.int i) (.int j) R := .of op_pow fun G H x y E r1 r2 Q k => by
  cases r1; cases r2
  exact ⟨i, j, rfl, rfl, hc, k _ _ _ G H h (.refl E) .int⟩
theorem add_ss {i j : Str} (hz : i.length + j.length ≤ sizeLine) (h : R false (.str (i ++ j))) : BinR X .Add (.str i) (.str j) R := .of op_add_str fun G H x y E r1 r2 Q k => by
  cases r1; cases r2
  exact ⟨i, j, rfl, rfl, hz, k _ _ _ G H h (.refl E) .str⟩
/-- a new list -/
theorem newL {G : Gh} {H : Hp} {xs : List D} {vs : List V} {Q : VK} (E : Ext G H) (r : Reps X.K G xs vs) (h : R true (.lst xs)) (k : ∀ o d v G' H', R o d → Step0 G H G' H' → RepO X.K H G' H' o d v → Q v H') :
    ∀ p, H p = none → Q (.ref p) (upd H p (.lst vs)) := fun p hp =>
  k true (.lst xs) (.ref p) G _ h (.alloc E hp) ⟨p, rfl, hp, E.gfree hp, .lst upd_same r⟩
/-- a new tuple -/
theorem newT {G : Gh} {H : Hp} {xs : List D} {vs : List V} {Q : VK} (E : Ext G H) (r : Reps X.K G xs vs) (h : R false (.tup xs)) (k : ∀ o d v G' H', R o d → Step0 G H G' H' → RepO X.K H G' H' o d v → Q v H') :
    ∀ p, H p = none → Q (.ref p) (upd H p (.tup vs)) := fun p hp =>
  k false (.tup xs) (.ref p) (gupd G p (.ho (.tup vs))) _ h ((Step.alloc E hp).know hp upd_same (E.gfree hp)) (.tup gupd_same (r.mono (Le.gupd (E.gfree hp))))
theorem add_ll {xs ys : List D} (hz : xs.length + ys.length ≤ sizeLine) (h : R true (.lst (xs ++ ys))) : BinR X .Add (.lst xs) (.lst ys) R := .of op_cat fun G H x y E r1 r2 Q k => by
  cases r1 with
  | lst h1 q1 =>
    cases r2 with
    | lst h2 q2 => exact ⟨_, _, _, _, rfl, rfl, E _ _ h1, E _ _ h2, by rw [← q1.length, ← q2.length]; exact hz, newL E (q1.append q2) h k⟩
theorem rep_flat_go {K : PySem.W.Frag} {G : Gh} {xs : List D} {vs : List V} (q : Reps K G xs vs) : ∀ n : Nat, Reps K G (List.replicate n xs).flatten (List.replicate n vs).flatten
  | 0 => .nil
  | n + 1 => by rw [List.replicate_succ, List.replicate_succ, List.flatten_cons, List.flatten_cons]; exact q.append (rep_flat_go q n)
theorem mul_li {xs : List D} {n : Int} (hz : xs.length * n.toNat ≤ sizeLine) (h0 : -(2 ^ 63) ≤ n) (h1 : n < 2 ^ 63) (h : R true (.lst (List.replicate n.toNat xs).flatten)) : BinR X .Mult (.lst xs) (.int n) R := .of op_rep fun G H x y E r1 r2 Q k => by
  cases r2
  cases r1 with
  | lst hp q1 => exact ⟨_, n, _, rfl, rfl, E _ _ hp, h0, h1, by rw [← q1.length]; exact hz, newL E (rep_flat_go q1 _) h k⟩

/-! ### displays, argument lists -/
theorem ea_nil {R : List D → Prop} (h : R []) : EA X ex [] Γ R := by
  intro σ G H E W tk xa Q k
  exact tWa_of pa_nil (k [] [] G H h (.refl E.ext) .nil)
theorem ea_cons {e : Expr} {es : List Expr} {R : List D → Prop} (h : ED X ex e Γ fun _ d => EA X ex es Γ fun ds => R (d :: ds)) (hs : starEach (e :: es) X.env = (false, eval e X.env) :: starEach es X.env := by rfl) : EA X ex (e :: es) Γ R := by
  intro σ G H E W tk xa Q k
  refine tWa_of (pa_cons (te := tW X e) (t := tWa X es) pe_W pa_W hs) ?_
  refine ED.use (R := fun _ d => EA X ex es Γ fun ds => R (d :: ds)) h E tk xa fun d v G1 H1 h1 s1 r1 => ?_
  refine h1 σ G1 H1 (E.go s1) W tk (xa.go s1) _ fun ds vs G2 H2 h2 s2 r2 => ?_
  exact k (d :: ds) (v :: vs) G2 H2 h2 (s1.trans s2) (.cons (r1.mono s2.le) r2)
theorem ed_lst {es : List Expr} (h : EA X ex es Γ fun ds => ds.length ≤ sizeLine ∧ R true (.lst ds)) : ED X ex (.List es pos) Γ R := by
  intro σ G H E W tk xa Q k
  refine tW_of (pe_lst (t := tWa X es) pa_W) ?_
  refine h σ G H E W tk xa _ fun ds vs G1 H1 h1 s1 r1 => ⟨by rw [← r1.length]; exact h1.1, ?_⟩
  exact newL s1.ext r1 h1.2 fun o d v G' H' hR st rep => k o d v G' H' hR (s1.trans st) (by
    cases o with
    | false => exact rep
    | true => obtain ⟨q, e, hn, z⟩ := rep; exact ⟨q, e, s1.free hn, z⟩)
theorem ed_tup {es : List Expr} {x1} (h : EA X ex es Γ fun ds => ds.length ≤ sizeLine ∧ R false (.tup ds)) : ED X ex (.Tuple es x1 pos) Γ R := by
  intro σ G H E W tk xa Q k
  refine tW_of (pe_tup (t := tWa X es) pa_W) ?_
  refine h σ G H E W tk xa _ fun ds vs G1 H1 h1 s1 r1 => ⟨by rw [← r1.length]; exact h1.1, ?_⟩
  exact newT s1.ext r1 h1.2 fun o d v G' H' hR st rep => k o d v G' H' hR (s1.trans st) (by
    cases o with
    | false => exact rep
    | true => obtain ⟨q, e, hn, z⟩ := rep; exact ⟨q, e, s1.free hn, z⟩)

/-! ### subscripts, slices -/
def IxD (R : Bool → D → Prop) : D → D → Prop
  | .lst xs, .int i => ∃ d, atI xs i = some d ∧ R false d
  | .tup xs, .int i => ∃ d, atI xs i = some d ∧ R false d
  | .scr ns, .int i => ∃ n, atI ns i = some n ∧ R false (.int n)
  | .str z, .int i => z.length ≤ sizeLine ∧ ∃ c, atI z.cps.toList i = some c ∧ R false (.str ⟨#[c]⟩)
  | _, _ => False
theorem atI_map {α β : Type} (f : α → β) {xs : List α} {i : Int} {a : α} (h : atI xs i = some a) : atI (xs.map f) i = some (f a) := by
  unfold atI at h ⊢
  rw [List.length_map]
  cases q : ixN xs.length i with
  | none => rw [q] at h; cases h
  | some j =>
    rw [q] at h
    show (xs.map f)[j]? = _
    rw [List.getElem?_map]
    have h' : xs[j]? = some a := h
    rw [h']; rfl
theorem ed_ix {a b : Expr} (h : ED X ex a Γ fun _ d1 => ED X ex b Γ fun _ d2 => IxD R d1 d2) (hs : PlainIx b := by exact fun _ _ => rfl) : ED X ex (.Subscript a b pos) Γ R := by
  intro σ G H E W tk xa Q k
  refine tW_of (pe_ix ix_seq (ta := tW X a) (tb := tW X b) pe_W pe_W hs) ?_
  refine ED.use (R := fun _ d1 => ED X ex b Γ fun _ d2 => IxD R d1 d2) h E tk xa fun d1 x G1 H1 h1 s1 r1 => ?_
  refine ED.use (R := fun _ d2 => IxD R d1 d2) h1 (E.go s1) tk (xa.go s1) fun d2 y G2 H2 h2 s2 r2 => ?_
  have r1' := r1.mono s2.le
  have st := s1.trans s2
  cases d2 with
  | int i =>
    cases r2
    cases d1 with
    | lst xs =>
      obtain ⟨d, e, hR⟩ := h2
      cases r1' with
      | lst hp q =>
        obtain ⟨v, ev, rv⟩ := q.atI e
        exact .inl ⟨_, _, i, v, rfl, rfl, SqL.of (s2.ext _ _ hp), ev, k _ _ _ G2 H2 hR st rv⟩
    | tup xs =>
      obtain ⟨d, e, hR⟩ := h2
      cases r1' with
      | tup hp q =>
        obtain ⟨v, ev, rv⟩ := q.atI e
        exact .inr (.inl ⟨_, _, i, v, rfl, rfl, SqT.of (s2.ext _ _ hp), ev, k _ _ _ G2 H2 hR st rv⟩)
    | scr ns =>
      obtain ⟨d, e, hR⟩ := h2
      cases r1' with
      | scr hp => exact .inl ⟨_, _, i, _, rfl, rfl, hp.sq s2.ext, atI_map V.int e, k _ _ _ G2 H2 hR st .int⟩
    | str z =>
      obtain ⟨hz, c, e, hR⟩ := h2
      cases r1'
      exact .inr (.inr ⟨z, i, c, rfl, rfl, hz, e, k _ _ _ G2 H2 hR st .str⟩)
    | _ => exact h2.elim
  | _ => cases d1 <;> exact h2.elim

/-- a part of a slice -/
def tWo (X : Cx) (o : Option Expr) : TO := fun σ H Q => ∀ pins s, Inv X pins σ H s → wpAny (model X.prog X.w) X.A (evalPart o X.env) (fun u s' => ∃ i H', Inv X pins σ H' s' ∧ IsPart u i ∧ Q i H') X.xe s
theorem po_W {o : Option Expr} : PO X o (tWo X o) := ⟨fun pins s _ _ _ I h => h pins s I⟩
def EO (X : Cx) (ex : Exn → Prop) (o : Option Expr) (Γ : En) (R : Option Int → Prop) : Prop :=
  ∀ σ G H, Loc X.K G H σ Γ → ∀ W, Tk X W → ExAt X ex W σ G H → ∀ Q : Option Int → Hp → Prop, (∀ i G' H', R i → Step0 G H G' H' → Q i H') → tWo X o σ H Q
theorem eo_none {R : Option Int → Prop} (h : R none) : EO X ex none Γ R :=
  fun σ G H E W tk xa Q k pins s I => po_none.run pins s σ H Q I (k none G H h (.refl E.ext))
theorem eo_some {e : Expr} {R : Option Int → Prop} (h : ED X ex e Γ fun _ d => ∃ i, d = .int i ∧ R (some i)) : EO X ex (some e) Γ R :=
  fun σ G H E W tk xa Q k pins s I => (po_some (te := tW X e) pe_W).run pins s σ H Q I (ED.use (R := fun _ d => ∃ i, d = .int i ∧ R (some i)) h E tk xa fun d v G' H' hR s r => by
    obtain ⟨i, rfl, hR⟩ := hR
    cases r
    exact ⟨i, rfl, k (some i) G' H' hR s⟩)
def cutD {α : Type} (xs : List α) (lo hi : Option Int) : List α := (xs.drop (HT.sIx xs.length 0 lo)).take (HT.sIx xs.length xs.length hi - HT.sIx xs.length 0 lo)
def SlD (R : Bool → D → Prop) (lo hi : Option Int) : D → Prop
  | .lst xs => R true (.lst (cutD xs lo hi))
  | .scr ns => R true (.lst ((cutD ns lo hi).map D.int))
  | .str z => z.length ≤ sizeLine ∧ R false (.str (cutS z lo hi))
  | _ => False
theorem Reps.cut {K : PySem.W.Frag} {G : Gh} {xs : List D} {vs : List V} (h : Reps K G xs vs) (lo hi : Option Int) : Reps K G (cutD xs lo hi) (cutV vs lo hi) := by
  unfold cutD cutV
  rw [h.length]
  exact (h.drop _).take _
theorem cut_map {ns : List Int} (lo hi : Option Int) : cutV (ns.map V.int) lo hi = (cutD ns lo hi).map V.int := by
  unfold cutD cutV
  rw [List.length_map, List.map_take, List.map_drop]
theorem RepO.back {B : Addr → Prop} {K : PySem.W.Frag} {G G1 G' : Gh} {H H1 H' : Hp} {o : Bool} {d : D} {v : V} (s : Step B G H G1 H1) (r : RepO K H1 G' H' o d v) : RepO K H G' H' o d v := by
  cases o with
  | false => exact r
  | true => obtain ⟨q, e, hn, z⟩ := r; exact ⟨q, e, s.free hn, z⟩
theorem ed_slice {e : Expr} {lo hi : Option Expr} {p2 : Pos} (h : ED X ex e Γ fun _ d => EO X ex lo Γ fun l => EO X ex hi Γ fun u => SlD R l u d) : ED X ex (.Subscript e (.Slice lo hi none p2) pos) Γ R := by
  intro σ G H E W tk xa Q k
  refine tW_of (pe_slice (SlR.or sl_list sl_str) (te := tW X e) (tl := tWo X lo) (th := tWo X hi) pe_W po_W po_W) ?_
  refine ED.use (R := fun _ d => EO X ex lo Γ fun l => EO X ex hi Γ fun u => SlD R l u d) h E tk xa fun d v G1 H1 h1 s1 r1 => ?_
  refine h1 σ G1 H1 (E.go s1) W tk (xa.go s1) _ fun l G2 H2 h2 s2 => ?_
  refine h2 σ G2 H2 ((E.go s1).go s2) W tk ((xa.go s1).go s2) _ fun u G3 H3 h3 s3 => ?_
  have st := (s1.trans s2).trans s3
  have r3 := r1.mono (s2.trans s3).le
  have kk : ∀ o d v G' H', R o d → Step0 G3 H3 G' H' → RepO X.K H3 G' H' o d v → Q v H' := fun o d v G' H' hR s r => k o d v G' H' hR (st.trans s) (r.back st)
  cases d with
  | lst xs => cases r3 with | lst hp q => exact .inl ⟨_, _, rfl, SqL.of (s3.ext _ _ hp), newL s3.ext (q.cut l u) h3 kk⟩
  | scr ns => cases r3 with | scr hp => exact .inl ⟨_, _, rfl, hp.sq s3.ext, by rw [cut_map]; exact newL s3.ext (Reps.ofInts _) h3 kk⟩
  | str z => cases r3; exact .inr ⟨z, rfl, h3.1, kk _ _ _ G3 H3 h3.2 (.refl s3.ext) .str⟩
  | _ => exact h3.elim

/-! ### comparisons -/
def CmpR (X : Cx) (op : CmpOp) (d1 d2 : D) (R : Bool → Prop) : Prop :=
  ∀ G H x y, Ext G H → Rep X.K G d1 x → Rep X.K G d2 y → ∀ pins σ s u w, Inv X pins σ H s → RelV x u → RelV y w → ∀ Q : VK,
    (∀ b G' H', R b → Step0 G H G' H' → Q (.bl b) H') → wpAny (model X.prog X.w) X.A (compareOp op u w) (EP X pins σ Q) X.xe s
theorem CmpR.of {op : CmpOp} {r : R2} {d1 d2 : D} {R : Bool → Prop} (ho : OpR X (compareOp op) r) (h : ∀ G H x y, Ext G H → Rep X.K G d1 x → Rep X.K G d2 y → ∀ Q : VK,
    (∀ b G' H', R b → Step0 G H G' H' → Q (.bl b) H') → r x y H Q) : CmpR X op d1 d2 R :=
  fun G H x y E r1 r2 pins σ s u w I ru rw' Q k => ho pins s σ H x y u w Q I ru rw' (h G H x y E r1 r2 Q k)
theorem cmp_go {a b : Expr} {op : CmpOp} {R : Bool → Prop} (h : ED X ex a Γ fun _ d1 => ED X ex b Γ fun _ d2 => CmpR X op d1 d2 R) {σ : St} {G : Gh} {H : Hp} (E : Loc X.K G H σ Γ) {W : WX} (tk : Tk X W) (xa : ExAt X ex W σ G H) {Q : VK}
    (k : ∀ b G' H', R b → Step0 G H G' H' → Q (.bl b) H') {pins : List (Addr × Obj)} {s : Shared} (I : Inv X pins σ H s) :
    wpAny (model X.prog X.w) X.A (eval a X.env) (fun v s₁ => wpAny (model X.prog X.w) X.A (eval b X.env) (fun u s₂ => wpAny (model X.prog X.w) X.A (compareOp op v u) (EP X pins σ Q) X.xe s₂) X.xe s₁) X.xe s := by
  have h1 := (ED.use (R := fun _ d1 => ED X ex b Γ fun _ d2 => CmpR X op d1 d2 R) h E tk xa
    (Q := fun x H1 => ∃ d1 G1, (ED X ex b Γ fun _ d2 => CmpR X op d1 d2 R) ∧ Step0 G H G1 H1 ∧ Rep X.K G1 d1 x) fun d v G' H' a b c => ⟨d, G', a, b, c⟩) pins s I
  refine thn h1 fun u s1 ⟨x, H1, I1, r1, d1, G1, hb, st1, rep1⟩ => ?_
  have h2 := (ED.use (R := fun _ d2 => CmpR X op d1 d2 R) hb (E.go st1) tk (xa.go st1)
    (Q := fun y H2 => ∃ d2 G2, CmpR X op d1 d2 R ∧ Step0 G1 H1 G2 H2 ∧ Rep X.K G2 d2 y) fun d v G' H' a b c => ⟨d, G', a, b, c⟩) pins s1 I1
  refine thn h2 fun w s2 ⟨y, H2, I2, r2, d2, G2, hc, st2, rep2⟩ => ?_
  exact hc G2 H2 x y st2.ext (rep1.mono st2.le) rep2 pins σ s2 u w I2 r1 r2 Q fun b G' H' hR st3 => k b G' H' hR ((st1.trans st2).trans st3)
theorem ed_cmp {a b : Expr} {op : CmpOp} (h : ED X ex a Γ fun _ d1 => ED X ex b Γ fun _ d2 => CmpR X op d1 d2 fun c => R false (.bl c)) (hm : behindInMarks op b = false := by first | exact nomark _ | rfl) : ED X ex (.Compare a [op] [b] pos) Γ R := by
  intro σ G H E W tk xa Q k pins s I
  exact wpAny_Compare1 (cmp_go h E tk xa (fun b G' H' hR s => k false (.bl b) _ G' H' hR s .bl) I) hm
theorem et_cmp {a b : Expr} {op : CmpOp} {R : Bool → Prop} (h : ED X ex a Γ fun _ d1 => ED X ex b Γ fun _ d2 => CmpR X op d1 d2 R) (hm : behindInMarks op b = false := by first | exact nomark _ | rfl) : ET X ex (.Compare a [op] [b] pos) Γ R := by
  intro σ G H E W tk xa Q k pins s I
  refine wpAny_isTrue_Compare1 (thn (cmp_go (Q := fun v H1 => ∃ b G1, R b ∧ Step0 G H G1 H1 ∧ v = .bl b) h E tk xa (fun b G' H' hR s => ⟨b, G', hR, s, rfl⟩) I) fun v s1 h1 => thn h1 fun u s2 h2 => thn h2 fun c s3 ⟨x, H1, I1, r1, q1⟩ => ?_) hm
  obtain ⟨d, G1, hR, st, rfl⟩ := q1
  cases r1
  exact wpAny_truthy_bool ⟨H1, I1, k d G1 H1 hR st⟩
theorem lt_ii {i j : Int} {R : Bool → Prop} (h : R (decide (i < j))) : CmpR X .Lt (.int i) (.int j) R := .of op_lt fun G H x y E r1 r2 Q k => by
  cases r1; cases r2; exact ⟨i, j, rfl, rfl, k _ G H h (.refl E)⟩
theorem le_ii {i j : Int} {R : Bool → Prop} (h : R (decide (i ≤ j))) : CmpR X .LtE (.int i) (.int j) R := .of op_le fun G H x y E r1 r2 Q k => by
  cases r1; cases r2; exact ⟨i, j, rfl, rfl, k _ G H h (.refl E)⟩
theorem gt_ii {i j : Int} {R : Bool → Prop} (h : R (decide (j < i))) : CmpR X .Gt (.int i) (.int j) R := .of op_gt fun G H x y E r1 r2 Q k => by
  cases r1; cases r2; exact ⟨i, j, rfl, rfl, k _ G H h (.refl E)⟩
theorem ge_ii {i j : Int} {R : Bool → Prop} (h : R (decide (j ≤ i))) : CmpR X .GtE (.int i) (.int j) R := .of op_ge fun G H x y E r1 r2 Q k => by
  cases r1; cases r2; exact ⟨i, j, rfl, rfl, k _ G H h (.refl E)⟩
theorem eq_ii {i j : Int} {R : Bool → Prop} (h : R (decide (i = j))) : CmpR X .Eq (.int i) (.int j) R := .of op_eq fun G H x y E r1 r2 Q k => by
  cases r1; cases r2
  exact ⟨rfl, by rw [dec_int, Bool.beq_eq_decide_eq]; exact k _ G H h (.refl E)⟩
theorem ne_ii {i j : Int} {R : Bool → Prop} (h : R (!decide (i = j))) : CmpR X .NotEq (.int i) (.int j) R := .of op_ne fun G H x y E r1 r2 Q k => by
  cases r1; cases r2
  exact ⟨rfl, by rw [dec_int, Bool.beq_eq_decide_eq]; exact k _ G H h (.refl E)⟩
theorem eq_ss {i j : Str} {R : Bool → Prop} (h : R (decide (i = j))) : CmpR X .Eq (.str i) (.str j) R := .of op_eq fun G H x y E r1 r2 Q k => by
  cases r1; cases r2
  have e : decide (V.str i = V.str j) = decide (i = j) := by simp
  exact ⟨rfl, by rw [e]; exact k _ G H h (.refl E)⟩
theorem ne_ss {i j : Str} {R : Bool → Prop} (h : R (!decide (i = j))) : CmpR X .NotEq (.str i) (.str j) R := .of op_ne fun G H x y E r1 r2 Q k => by
  cases r1; cases r2
  have e : decide (V.str i = V.str j) = decide (i = j) := by simp
  exact ⟨rfl, by rw [e]; exact k _ G H h (.refl E)⟩
theorem eq_bb {i j : Bool} {R : Bool → Prop} (h : R (decide (i = j))) : CmpR X .Eq (.bl i) (.bl j) R := .of op_eq fun G H x y E r1 r2 Q k => by
  cases r1; cases r2
  have e : decide (V.bl i = V.bl j) = decide (i = j) := by simp
  exact ⟨rfl, by rw [e]; exact k _ G H h (.refl E)⟩
theorem ne_bb {i j : Bool} {R : Bool → Prop} (h : R (!decide (i = j))) : CmpR X .NotEq (.bl i) (.bl j) R := .of op_ne fun G H x y E r1 r2 Q k => by
  cases r1; cases r2
  have e : decide (V.bl i = V.bl j) = decide (i = j) := by simp
  exact ⟨rfl, by rw [e]; exact k _ G H h (.refl E)⟩
end
/-! ### == at any depth -/
mutual
/-- the library's data -/
def toPy : D → PyData
  | .non => .none
  | .bl b => .bool b
  | .int i => .int i
  | .str s => .str s
  | .lst xs => .list (toPys xs)
  | .tup xs => .tuple (toPys xs)
  | .scr ns => .list (ns.map PyData.int)
  | _ => .none
def toPys : List D → List PyData
  | [] => []
  | x :: xs => toPy x :: toPys xs
end
mutual
/-- == looks through it -/
def isPy : D → Bool
  | .non => true
  | .bl _ => true
  | .int _ => true
  | .str _ => true
  | .lst xs => isPys xs
  | .tup xs => isPys xs
  | .scr _ => true
  | _ => false
def isPys : List D → Bool
  | [] => true
  | x :: xs => isPy x && isPys xs
end
theorem dp_ints {K : PySem.W.Frag} {H : Hp} : ∀ ns : List Int, DpAll K H (ns.map V.int) (ns.map PyData.int)
  | [] => .nil
  | n :: ns => .cons (.int n) (dp_ints ns)
mutual
theorem Rep.dp {K : PySem.W.Frag} {G : Gh} {H : Hp} (E : Ext G H) : ∀ {d : D} {v : V}, Rep K G d v → isPy d = true → Dp K H v (toPy d)
  | _, _, .non, _ => by unfold toPy; exact .non
  | _, _, .bl, _ => by unfold toPy; exact .bl _
  | _, _, .int, _ => by unfold toPy; exact .int _
  | _, _, .str, _ => by unfold toPy; exact .str _
  | _, _, .lst h r, p => by unfold toPy; unfold isPy at p; exact .lst (SqL.of (E _ _ h)) (Reps.dp E r p)
  | _, _, .tup h r, p => by unfold toPy; unfold isPy at p; exact .tup (SqT.of (E _ _ h)) (Reps.dp E r p)
  | _, _, .scr h, _ => by unfold toPy; exact .lst (h.sq E) (dp_ints _)
  | _, _, .ty, p => by cases p
  | _, _, .ref, p => by cases p
  | _, _, .dK _ _, p => by cases p
  | _, _, .dT _ _, p => by cases p
  | _, _, .ins _ _, p => by cases p
  | _, _, .memo _, p => by cases p
  | _, _, .exn _ _, p => by cases p
  | _, _, .adr _, p => by cases p
theorem Reps.dp {K : PySem.W.Frag} {G : Gh} {H : Hp} (E : Ext G H) : ∀ {d : List D} {v : List V}, Reps K G d v → isPys d = true → DpAll K H v (toPys d)
  | _, _, .nil, _ => by unfold toPys; exact .nil
  | _, _, .cons h r, p => by
    unfold toPys; unfold isPys at p
    rw [Bool.and_eq_true] at p
    exact .cons (Rep.dp E h p.1) (Reps.dp E r p.2)
end
/-- a shape that == serves -/
def eqOk (d : D) : Bool := isPy d && SeqAt.shaped (toPy d)
def eqD (d e : D) : Bool := PyData.eqv (toPy d) (toPy e)
section
variable {X : Cx} {ex : Exn → Prop} {Γ : En} {R : Bool → D → Prop} {pos p : Pos}
theorem eq_dd {d e : D} {R : Bool → Prop} (hu : X.A.units + 64 < cLine) (h1 : eqOk d = true) (h2 : eqOk e = true) (h : R (eqD d e)) : CmpR X .Eq d e R := .of (op_eqD hu) fun G H x y E r1 r2 Q k => by
  unfold eqOk at h1 h2
  rw [Bool.and_eq_true] at h1 h2
  exact ⟨toPy d, toPy e, r1.dp E h1.1, r2.dp E h2.1, h1.2, h2.2, k _ G H h (.refl E)⟩
theorem ne_dd {d e : D} {R : Bool → Prop} (hu : X.A.units + 64 < cLine) (h1 : eqOk d = true) (h2 : eqOk e = true) (h : R (!eqD d e)) : CmpR X .NotEq d e R := .of (op_neD hu) fun G H x y E r1 r2 Q k => by
  unfold eqOk at h1 h2
  rw [Bool.and_eq_true] at h1 h2
  exact ⟨toPy d, toPy e, r1.dp E h1.1, r2.dp E h2.1, h1.2, h2.2, k _ G H h (.refl E)⟩
/-- is None, is not None -/
def isNon : D → Bool
  | .non => true
  | _ => false
theorem Rep.non_iff {K : PySem.W.Frag} {G : Gh} {d : D} {v : V} (r : Rep K G d v) : decide (v = .non) = isNon d := by
  cases r <;> first | rfl | (unfold isNon; exact decide_eq_false (by intro z; cases z))
theorem is_non {d : D} {R : Bool → Prop} (h : R (isNon d)) : CmpR X .Is d .non R := .of op_isN fun G H x y E r1 r2 Q k => by
  cases r2
  exact ⟨rfl, by rw [r1.non_iff]; exact k _ G H h (.refl E)⟩
theorem not_non {d : D} {R : Bool → Prop} (h : R (!isNon d)) : CmpR X .IsNot d .non R := .of op_notN fun G H x y E r1 r2 Q k => by
  cases r2
  exact ⟨rfl, by rw [r1.non_iff]; exact k _ G H h (.refl E)⟩
/-- in, not in: a sign in a text -/
theorem in_ss {c : Nat} {z : Str} {R : Bool → Prop} (h : R (decide (c ∈ z.cps.toList))) : CmpR X .In (.str ⟨#[c]⟩) (.str z) R := .of op_in_sign fun G H x y E r1 r2 Q k => by
  cases r1; cases r2
  exact ⟨c, z, rfl, rfl, k _ G H h (.refl E)⟩
theorem nin_ss {c : Nat} {z : Str} {R : Bool → Prop} (h : R (!decide (c ∈ z.cps.toList))) : CmpR X .NotIn (.str ⟨#[c]⟩) (.str z) R := .of op_notIn_sign fun G H x y E r1 r2 Q k => by
  cases r1; cases r2
  exact ⟨c, z, rfl, rfl, k _ G H h (.refl E)⟩
/-- a text in a text -/
def subS (i j : Str) : Bool := !(Builtin.Str.occurrences j i 0 j.length 1).isEmpty
theorem in_tt {i j : Str} {R : Bool → Prop} (h : R (subS i j)) : CmpR X .In (.str i) (.str j) R := .of op_in_str fun G H x y E r1 r2 Q k => by
  cases r1; cases r2
  exact ⟨i, j, rfl, rfl, k _ G H h (.refl E)⟩
theorem nin_tt {i j : Str} {R : Bool → Prop} (h : R (!subS i j)) : CmpR X .NotIn (.str i) (.str j) R := .of op_notin_str fun G H x y E r1 r2 Q k => by
  cases r1; cases r2
  exact ⟨i, j, rfl, rfl, k _ G H h (.refl E)⟩
/-- flat data without classes and addresses -/
def flat4 : D → Bool
  | .non => true | .bl _ => true | .int _ => true | .str _ => true
  | _ => false
def eq4 : D → D → Bool
  | .non, .non => true
  | .bl a, .bl b => a == b
  | .bl a, .int b => (if a then 1 else 0) == b
  | .int a, .bl b => a == (if b then 1 else 0)
  | .int a, .int b => a == b
  | .str a, .str b => a == b
  | _, _ => false
def in4 (x : D) (xs : List D) : Bool := xs.any fun y => eq4 y x
theorem Rep.flat4 {K : PySem.W.Frag} {G : Gh} {d : D} {v : V} (r : Rep K G d v) (h : DL.flat4 d = true) : flatV v = true := by
  cases r <;> first | rfl | cases h
theorem Rep.eq4 {K : PySem.W.Frag} {G : Gh} {d e : D} {v w : V} (r : Rep K G d v) (r' : Rep K G e w) (h : DL.flat4 d = true) (h' : DL.flat4 e = true) : eqV v w = eq4 d e := by
  cases r <;> (try (cases h)) <;> cases r' <;> (try (cases h')) <;> rfl
theorem Reps.flat4 {K : PySem.W.Frag} {G : Gh} : ∀ {xs : List D} {vs : List V}, Reps K G xs vs → xs.all DL.flat4 = true → vs.all flatV = true
  | _, _, .nil, _ => rfl
  | _, _, .cons h r, f => by
    rw [List.all_cons, Bool.and_eq_true] at f ⊢
    exact ⟨h.flat4 f.1, Reps.flat4 r f.2⟩
theorem Reps.in4 {K : PySem.W.Frag} {G : Gh} {d : D} {v : V} (r : Rep K G d v) (h : DL.flat4 d = true) : ∀ {xs : List D} {vs : List V}, Reps K G xs vs → xs.all DL.flat4 = true → inV v vs = in4 d xs
  | _, _, .nil, _ => rfl
  | x :: xs, w :: vs, .cons hx q, f => by
    rw [List.all_cons, Bool.and_eq_true] at f
    show (eqV w v || inV v vs) = (DL.eq4 x d || DL.in4 d xs)
    rw [hx.eq4 r f.1 h, Reps.in4 r h q f.2]
theorem in_seq {neg : Bool} {op : CmpOp} (ho : OpR X (compareOp op) (rIn X.K neg)) {d : D} {xs : List D} {e : D} (he : e = .lst xs ∨ e = .tup xs) {R : Bool → Prop} (h1 : flat4 d = true) (h2 : xs.all flat4 = true) (h : R (if neg then !in4 d xs else in4 d xs)) : CmpR X op d e R := .of ho fun G H x y E r1 r2 Q k => by
  rcases he with rfl | rfl
  · cases r2 with
    | lst hp q => exact ⟨_, _, rfl, .inl (SqL.of (E _ _ hp)), r1.flat4 h1, q.flat4 h2, by rw [q.in4 r1 h1 h2]; exact k _ G H h (.refl E)⟩
  · cases r2 with
    | tup hp q => exact ⟨_, _, rfl, .inr (SqT.of (E _ _ hp)), r1.flat4 h1, q.flat4 h2, by rw [q.in4 r1 h1 h2]; exact k _ G H h (.refl E)⟩
theorem in_dl {d : D} {xs : List D} {R : Bool → Prop} (h1 : flat4 d = true) (h2 : xs.all flat4 = true) (h : R (in4 d xs)) : CmpR X .In d (.lst xs) R := in_seq op_in_seq (.inl rfl) h1 h2 h
theorem nin_dl {d : D} {xs : List D} {R : Bool → Prop} (h1 : flat4 d = true) (h2 : xs.all flat4 = true) (h : R (!in4 d xs)) : CmpR X .NotIn d (.lst xs) R := in_seq op_notIn_seq (.inl rfl) h1 h2 h
theorem in_dt {d : D} {xs : List D} {R : Bool → Prop} (h1 : flat4 d = true) (h2 : xs.all flat4 = true) (h : R (in4 d xs)) : CmpR X .In d (.tup xs) R := in_seq op_in_seq (.inr rfl) h1 h2 h
theorem nin_dt {d : D} {xs : List D} {R : Bool → Prop} (h1 : flat4 d = true) (h2 : xs.all flat4 = true) (h : R (!in4 d xs)) : CmpR X .NotIn d (.tup xs) R := in_seq op_notIn_seq (.inr rfl) h1 h2 h

/-! ### tests -/
theorem et_val {e : Expr} {R : Bool → Prop} (h : ED X ex e Γ fun _ d => ∃ b, d = .bl b ∧ R b) (he : ∀ whole, isTrue e X.env whole = (do let v ← whole; standAt e.pos; holding [v] (truthy v)) := by intro _; rfl) : ET X ex e Γ R := by
  intro σ G H E W tk xa Q k
  refine tWt_of (pt_val (t := tW X e) pe_W he) ?_
  refine ED.use (R := fun _ d => ∃ b, d = .bl b ∧ R b) h E tk xa fun d v G' H' hR s r => ?_
  obtain ⟨b, rfl, hR⟩ := hR
  cases r
  exact ⟨b, rfl, k b G' H' hR s⟩
theorem et_not {a : Expr} {R : Bool → Prop} (h : ET X ex a Γ fun b => R (!b)) : ET X ex (.UnaryOp .Not a pos) Γ R := by
  intro σ G H E W tk xa Q k
  exact tWt_of (pt_not (tA := tWt X a) pt_W) (h σ G H E W tk xa _ fun b G' H' hR s => k _ G' H' hR s)
/-- and, or as tests: their tests in turn -/
def ETw (X : Cx) (ex : Exn → Prop) (e : Expr) (Γ : En) (R : Bool → Prop) : Prop :=
  ∀ σ G H, Loc X.K G H σ Γ → ∀ W, Tk X W → ExAt X ex W σ G H → ∀ Q : Bool → Hp → Prop, (∀ b G' H', R b → Step0 G H G' H' → Q b H') → ∀ (whole : Sem Value) pins s, Inv X pins σ H s → wpAny (model X.prog X.w) X.A (isTrue e X.env whole) (TP X pins σ Q) X.xe s
theorem et_w {e : Expr} {R : Bool → Prop} (h : ETw X ex e Γ R) : ET X ex e Γ R := fun σ G H E W tk xa Q k pins s I => h σ G H E W tk xa Q k _ pins s I
def tWw (X : Cx) (e : Expr) : TT := fun σ H Q => ∀ (whole : Sem Value) pins s, Inv X pins σ H s → wpAny (model X.prog X.w) X.A (isTrue e X.env whole) (TP X pins σ Q) X.xe s
theorem pw_W {e : Expr} : PW X e (tWw X e) := ⟨fun wh pins s _ _ _ I h => h wh pins s I⟩
theorem ew_and1 {a : Expr} {R : Bool → Prop} (h : ET X ex a Γ R) : ETw X ex (.BoolOp .And [a] pos) Γ R := fun σ G H E W tk xa Q k wh pins s I =>
  (pw_and1 (tA := tWt X a) pt_W).run wh pins s σ H Q I (h σ G H E W tk xa Q k)
theorem ew_or1 {a : Expr} {R : Bool → Prop} (h : ET X ex a Γ R) : ETw X ex (.BoolOp .Or [a] pos) Γ R := fun σ G H E W tk xa Q k wh pins s I =>
  (pw_or1 (tA := tWt X a) pt_W).run wh pins s σ H Q I (h σ G H E W tk xa Q k)
theorem ew_and {a b : Expr} {rest : List Expr} {R : Bool → Prop} (h : ET X ex a Γ fun c => (c = true → ETw X ex (.BoolOp .And (b :: rest) pos) Γ R) ∧ (c = false → R false)) : ETw X ex (.BoolOp .And (a :: b :: rest) pos) Γ R := fun σ G H E W tk xa Q k wh pins s I => by
  refine (pw_and (tA := tWt X a) (tB' := tWw X (.BoolOp .And (b :: rest) pos)) pt_W pw_W).run wh pins s σ H Q I ?_
  refine h σ G H E W tk xa _ fun c G1 H1 hR s1 => ?_
  cases c with
  | true => exact iteT fun wh pins s I => hR.1 rfl σ G1 H1 (E.go s1) W tk (xa.go s1) Q (fun b G' H' hb s' => k b G' H' hb (s1.trans s')) wh pins s I
  | false => exact iteF (k false G1 H1 (hR.2 rfl) s1)
theorem ew_or {a b : Expr} {rest : List Expr} {R : Bool → Prop} (h : ET X ex a Γ fun c => (c = false → ETw X ex (.BoolOp .Or (b :: rest) pos) Γ R) ∧ (c = true → R true)) : ETw X ex (.BoolOp .Or (a :: b :: rest) pos) Γ R := fun σ G H E W tk xa Q k wh pins s I => by
  refine (pw_or (tA := tWt X a) (tB' := tWw X (.BoolOp .Or (b :: rest) pos)) pt_W pw_W).run wh pins s σ H Q I ?_
  refine h σ G H E W tk xa _ fun c G1 H1 hR s1 => ?_
  cases c with
  | false => exact iteF fun wh pins s I => hR.1 rfl σ G1 H1 (E.go s1) W tk (xa.go s1) Q (fun b G' H' hb s' => k b G' H' hb (s1.trans s')) wh pins s I
  | true => exact iteT (k true G1 H1 (hR.2 rfl) s1)
/-- and, or, not of truths, as values -/
theorem ed_one {op} {a : Expr} (h : ED X ex a Γ R) : ED X ex (.BoolOp op [a] pos) Γ R := by
  intro σ G H E W tk xa Q k
  exact tW_of (pe_one (t := tW X a) pe_W) (h σ G H E W tk xa Q k)
theorem ed_and {a b : Expr} {rest : List Expr} (h : ED X ex a Γ fun _ d => ∃ c, d = .bl c ∧ (c = true → ED X ex (.BoolOp .And (b :: rest) pos) Γ R) ∧ (c = false → R false (.bl false))) : ED X ex (.BoolOp .And (a :: b :: rest) pos) Γ R := by
  intro σ G H E W tk xa Q k
  refine tW_of (pe_and (ta := tW X a) (tb := tW X (.BoolOp .And (b :: rest) pos)) pe_W pe_W) ?_
  refine ED.use (R := fun _ d => ∃ c, d = .bl c ∧ (c = true → ED X ex (.BoolOp .And (b :: rest) pos) Γ R) ∧ (c = false → R false (.bl false))) h E tk xa fun d v G1 H1 hR s1 r1 => ?_
  obtain ⟨c, rfl, h1, h2⟩ := hR
  cases r1
  refine ⟨c, rfl, ?_⟩
  cases c with
  | true => exact iteT (h1 rfl σ G1 H1 (E.go s1) W tk (xa.go s1) Q fun o d v G' H' hR s r => k o d v G' H' hR (s1.trans s) (r.back s1))
  | false => exact iteF (k _ _ _ G1 H1 (h2 rfl) s1 .bl)
theorem ed_or {a b : Expr} {rest : List Expr} (h : ED X ex a Γ fun _ d => ∃ c, d = .bl c ∧ (c = false → ED X ex (.BoolOp .Or (b :: rest) pos) Γ R) ∧ (c = true → R false (.bl true))) : ED X ex (.BoolOp .Or (a :: b :: rest) pos) Γ R := by
  intro σ G H E W tk xa Q k
  refine tW_of (pe_or (ta := tW X a) (tb := tW X (.BoolOp .Or (b :: rest) pos)) pe_W pe_W) ?_
  refine ED.use (R := fun _ d => ∃ c, d = .bl c ∧ (c = false → ED X ex (.BoolOp .Or (b :: rest) pos) Γ R) ∧ (c = true → R false (.bl true))) h E tk xa fun d v G1 H1 hR s1 r1 => ?_
  obtain ⟨c, rfl, h1, h2⟩ := hR
  cases r1
  refine ⟨c, rfl, ?_⟩
  cases c with
  | false => exact iteF (h1 rfl σ G1 H1 (E.go s1) W tk (xa.go s1) Q fun o d v G' H' hR s r => k o d v G' H' hR (s1.trans s) (r.back s1))
  | true => exact iteT (k _ _ _ G1 H1 (h2 rfl) s1 .bl)
theorem ed_not {a : Expr} (h : ED X ex a Γ fun _ d => ∃ c, d = .bl c ∧ R false (.bl (!c))) : ED X ex (.UnaryOp .Not a pos) Γ R := by
  intro σ G H E W tk xa Q k
  refine tW_of (pe_not (ta := tW X a) pe_W) ?_
  refine ED.use (R := fun _ d => ∃ c, d = .bl c ∧ R false (.bl (!c))) h E tk xa fun d v G1 H1 hR s1 r1 => ?_
  obtain ⟨c, rfl, h1⟩ := hR
  cases r1
  exact ⟨c, rfl, k _ _ _ G1 H1 h1 s1 .bl⟩
theorem ed_ifx {c a b : Expr} (h : ET X ex c Γ fun t => (t = true → ED X ex a Γ R) ∧ (t = false → ED X ex b Γ R)) : ED X ex (.IfExp c a b pos) Γ R := by
  intro σ G H E W tk xa Q k
  refine tW_of (pe_ifExp (tA := tWt X c) (ta := tW X a) (tb := tW X b) pt_W pe_W pe_W) ?_
  refine h σ G H E W tk xa _ fun t G1 H1 hR s1 => ?_
  cases t with
  | true => exact iteT (hR.1 rfl σ G1 H1 (E.go s1) W tk (xa.go s1) Q fun o d v G' H' hR s r => k o d v G' H' hR (s1.trans s) (r.back s1))
  | false => exact iteF (hR.2 rfl σ G1 H1 (E.go s1) W tk (xa.go s1) Q fun o d v G' H' hR s r => k o d v G' H' hR (s1.trans s) (r.back s1))
/-- a < b < c -/
theorem chain_go {a b c : Expr} {r r' : R2} {R : Bool → Prop} {σ : St} {G : Gh} {H : Hp} (E : Loc X.K G H σ Γ) {W : WX} (tk : Tk X W) (xa : ExAt X ex W σ G H) {Q : VK}
    (h : ED X ex a Γ fun _ d1 => ED X ex b Γ fun _ d2 => ∃ t : Bool, (∀ G H x y (Q : VK), Ext G H → Rep X.K G d1 x → Rep X.K G d2 y → (∀ G' H', Step0 G H G' H' → Q (.bl t) H') → r x y H Q) ∧
      (t = true → ED X ex c Γ fun _ d3 => ∃ t' : Bool, (∀ G H x y (Q : VK), Ext G H → Rep X.K G d2 x → Rep X.K G d3 y → (∀ G' H', Step0 G H G' H' → Q (.bl t') H') → r' x y H Q) ∧ R t') ∧ (t = false → R false))
    (k : ∀ b G' H', R b → Step0 G H G' H' → Q (.bl b) H') : tChain r r' (tW X a) (tW X b) (tW X c) σ H Q := by
  refine ED.use (R := fun _ d1 => ED X ex b Γ fun _ d2 => ∃ t : Bool, (∀ G H x y (Q : VK), Ext G H → Rep X.K G d1 x → Rep X.K G d2 y → (∀ G' H', Step0 G H G' H' → Q (.bl t) H') → r x y H Q) ∧
      (t = true → ED X ex c Γ fun _ d3 => ∃ t' : Bool, (∀ G H x y (Q : VK), Ext G H → Rep X.K G d2 x → Rep X.K G d3 y → (∀ G' H', Step0 G H G' H' → Q (.bl t') H') → r' x y H Q) ∧ R t') ∧ (t = false → R false)) h E tk xa fun d1 x G1 H1 h1 s1 r1 => ?_
  refine ED.use (R := fun _ d2 => ∃ t : Bool, (∀ G H x y (Q : VK), Ext G H → Rep X.K G d1 x → Rep X.K G d2 y → (∀ G' H', Step0 G H G' H' → Q (.bl t) H') → r x y H Q) ∧
      (t = true → ED X ex c Γ fun _ d3 => ∃ t' : Bool, (∀ G H x y (Q : VK), Ext G H → Rep X.K G d2 x → Rep X.K G d3 y → (∀ G' H', Step0 G H G' H' → Q (.bl t') H') → r' x y H Q) ∧ R t') ∧ (t = false → R false)) h1 (E.go s1) tk (xa.go s1) fun d2 y G2 H2 h2 s2 r2 => ?_
  obtain ⟨t, hr, ht, hf⟩ := h2
  refine hr G2 H2 x y _ s2.ext (r1.mono s2.le) r2 fun G3 H3 s3 => ⟨t, rfl, ?_⟩
  have st := (s1.trans s2).trans s3
  cases t with
  | false => exact iteF (k false G3 H3 (hf rfl) st)
  | true =>
    refine iteT ?_
    refine ED.use (R := fun _ d3 => ∃ t' : Bool, (∀ G H x y (Q : VK), Ext G H → Rep X.K G d2 x → Rep X.K G d3 y → (∀ G' H', Step0 G H G' H' → Q (.bl t') H') → r' x y H Q) ∧ R t') (ht rfl) (E.go st) tk (xa.go st) fun d3 z G4 H4 h4 s4 r4 => ?_
    obtain ⟨t', hr', hR⟩ := h4
    exact hr' G4 H4 y z _ s4.ext ((r2.mono s3.le).mono s4.le) r4 fun G5 H5 s5 => k t' G5 H5 hR ((st.trans s4).trans s5)
/-- i <= j < k of ints: which comparisons -/
def CmpI : CmpOp → Int → Int → Bool
  | .Lt, i, j => decide (i < j)
  | .LtE, i, j => decide (i ≤ j)
  | .Gt, i, j => decide (j < i)
  | .GtE, i, j => decide (j ≤ i)
  | _, _, _ => false
def IsCmpI : CmpOp → Bool
  | .Lt => true | .LtE => true | .Gt => true | .GtE => true | _ => false
theorem opCmpI {op : CmpOp} (h : IsCmpI op = true) : OpR X (compareOp op) (rI0 fun i j => .bl (CmpI op i j)) := by
  cases op <;> first | exact op_lt | exact op_le | exact op_gt | exact op_ge | cases h
theorem rI0_go {op : CmpOp} {K : PySem.W.Frag} {i j : Int} : ∀ (G : Gh) (H : Hp) (x y : V) (Q : VK), Ext G H → Rep K G (.int i) x → Rep K G (.int j) y → (∀ G' H', Step0 G H G' H' → Q (.bl (CmpI op i j)) H') → rI0 (fun i j => .bl (CmpI op i j)) x y H Q := fun G H x y Q E r1 r2 k => by
  cases r1; cases r2; exact ⟨i, j, rfl, rfl, k G H (.refl E)⟩
theorem et_chainI {a b c : Expr} {op op' : CmpOp} {R : Bool → Prop} (h : ED X ex a Γ fun _ d1 => ED X ex b Γ fun _ d2 => ∃ i j, d1 = .int i ∧ d2 = .int j ∧ (CmpI op i j = true → ED X ex c Γ fun _ d3 => ∃ k, d3 = .int k ∧ R (CmpI op' j k)) ∧ (CmpI op i j = false → R false))
    (h1 : IsCmpI op = true := by rfl) (h2 : IsCmpI op' = true := by rfl) (hm : lastMarks [op, op'] [b, c] = false := by with_unfolding_all rfl) : ET X ex (.Compare a [op, op'] [b, c] pos) Γ R := by
  intro σ G H E W tk xa Q k
  refine tWt_of (pt_chain (opCmpI h1) (opCmpI h2) (ta := tW X a) (tb := tW X b) (tc := tW X c) pe_W pe_W pe_W hm) ?_
  refine chain_go (R := R) E tk xa (h.imp fun _ d1 h => h.imp fun _ d2 hh => ?_) fun b G' H' hR s => ⟨b, rfl, k b G' H' hR s⟩
  obtain ⟨i, j, rfl, rfl, ht, hf⟩ := hh
  refine ⟨CmpI op i j, rI0_go, fun e => (ht e).imp fun _ d3 h3 => ?_, hf⟩
  obtain ⟨k, rfl, hR⟩ := h3
  exact ⟨CmpI op' j k, rI0_go, hR⟩
end
end DL

/-! DL3: attributes, dicts, calls. -/
namespace DL
open PySem L2

section
variable {K : PySem.W.Frag} {G : Gh}
theorem RepF.get {f : Str} {d : D} : ∀ {fs : List (Str × D)} {vs : List (Str × V)}, RepF K G fs vs → fs.lookup f = some d → ∃ v, vs.lookup f = some v ∧ Rep K G d v
  | _, _, .nil, e => by cases e
  | _, _, .cons (k := k) (x := x) (v := v) (xs := xs) (vs := vs) r q, e => by
    by_cases h : f = k
    · subst h
      rw [List.lookup_cons, show (f == f) = true from by simp] at e
      cases e
      exact ⟨v, by rw [List.lookup_cons, show (f == f) = true from by simp], r⟩
    · have hb : (f == k) = false := by simpa using h
      rw [List.lookup_cons, hb] at e
      obtain ⟨v', e', r'⟩ := RepF.get (f := f) q e
      exact ⟨v', by rw [List.lookup_cons, hb]; exact e', r'⟩
theorem RepF.none {f : Str} : ∀ {fs : List (Str × D)} {vs : List (Str × V)}, RepF K G fs vs → fs.lookup f = Option.none → vs.lookup f = Option.none
  | _, _, .nil, e => rfl
  | _, _, .cons (k := k) (x := x) (v := v) (xs := xs) (vs := vs) r q, e => by
    by_cases h : f = k
    · subst h
      rw [List.lookup_cons, show (f == f) = true from by simp] at e
      cases e
    · have hb : (f == k) = false := by simpa using h
      rw [List.lookup_cons, hb] at e
      rw [List.lookup_cons, hb]
      exact RepF.none (f := f) q e
theorem RepF.length : ∀ {fs : List (Str × D)} {vs : List (Str × V)}, RepF K G fs vs → fs.length = vs.length
  | _, _, .nil => rfl
  | _, _, .cons _ q => congrArg (· + 1) (RepF.length q)
/-- a key as data -/
def kD : Key → D
  | .inl i => .int i
  | .inr x => .str x
theorem rep_kD {k : Key} {v : V} (r : Rep K G (kD k) v) : v = kV k := by
  cases k with
  | inl i => cases r; rfl
  | inr x => cases r; rfl
theorem rep_kDs : ∀ {ks : List Key} {vs : List V}, Reps K G (ks.map kD) vs → vs = ks.map kV
  | [], _, .nil => rfl
  | k :: ks, _, .cons r q => by rw [rep_kD r, rep_kDs q]; rfl
def valD {κ : Type} [DecidableEq κ] (kvs : List (κ × D)) (k : κ) : Option D := (kvs.find? fun kv => decide (kv.1 = k)).map (·.2)
def RepOp (K : PySem.W.Frag) (G : Gh) : Option D → Option V → Prop
  | none, none => True
  | some d, some v => Rep K G d v
  | _, _ => False
theorem RepK.val {k : Key} : ∀ {xs : List (Key × D)} {vs : List (Key × V)}, RepK K G xs vs → RepOp K G (valD xs k) (valV vs k)
  | _, _, .nil => trivial
  | _, _, .cons (k := k') (x := x) (v := v) (xs := xs) (vs := vs) r q => by
    unfold valD valV
    by_cases h : k' = k
    · rw [List.find?_cons_of_pos (by simpa using h), List.find?_cons_of_pos (by simpa using h)]; exact r
    · rw [List.find?_cons_of_neg (by simpa using h), List.find?_cons_of_neg (by simpa using h)]; exact RepK.val q
theorem RepT.val {k : List Key} : ∀ {xs : List (List Key × D)} {vs : List (List Key × V)}, RepT K G xs vs → RepOp K G (valD xs k) (valV vs k)
  | _, _, .nil => trivial
  | _, _, .cons (k := k') (x := x) (v := v) (xs := xs) (vs := vs) r q => by
    unfold valD valV
    by_cases h : k' = k
    · rw [List.find?_cons_of_pos (by simpa using h), List.find?_cons_of_pos (by simpa using h)]; exact r
    · rw [List.find?_cons_of_neg (by simpa using h), List.find?_cons_of_neg (by simpa using h)]; exact RepT.val q
theorem RepK.length : ∀ {xs : List (Key × D)} {vs : List (Key × V)}, RepK K G xs vs → xs.length = vs.length
  | _, _, .nil => rfl
  | _, _, .cons _ q => congrArg (· + 1) (RepK.length q)
theorem RepT.length : ∀ {xs : List (List Key × D)} {vs : List (List Key × V)}, RepT K G xs vs → xs.length = vs.length
  | _, _, .nil => rfl
  | _, _, .cons _ q => congrArg (· + 1) (RepT.length q)
/-- what a dict has at a key -/
inductive GetD : D → D → Option D → Prop
  | k {kvs : List (Key × D)} (k : Key) : GetD (.dK kvs) (kD k) (valD kvs k)
  | t {kvs : List (List Key × D)} (k : List Key) : GetD (.dT kvs) (.tup (k.map kD)) (valD kvs k)
theorem GetD.go {H : Hp} {d y : D} {o : Option D} {v w : V} (g : GetD d y o) (E : Ext G H) (r1 : Rep K G d v) (r2 : Rep K G y w) : ∃ a o', v = .ref a ∧ DGet H a w o' ∧ RepOp K G o o' := by
  cases g with
  | k k =>
    cases r1 with
    | dK hp q =>
      rw [rep_kD r2]
      exact ⟨_, _, rfl, DGet.k (E _ _ hp), q.val⟩
  | t k =>
    cases r1 with
    | dT hp q =>
      cases r2 with
      | tup ht qt =>
        rw [rep_kDs qt] at ht
        exact ⟨_, _, rfl, DGet.t (E _ _ hp) (E _ _ ht), q.val⟩
end

section
variable {X : Cx} {ex : Exn → Prop} {Γ : En} {R : Bool → D → Prop} {pos p apos : Pos}
/-! ### attributes -/
theorem ed_fld {e : Expr} {f : Str} (h : ED X ex e Γ fun _ d => ∃ C fs v, d = .ins C fs ∧ Cls X.K C ∧ NoAttr X.K C f ∧ fs.lookup f = some v ∧ R false v) (hb : attributeBase e f X.env (eval e X.env) = eval e X.env := by rfl) : ED X ex (.Attribute e f pos) Γ R := by
  intro σ G H E W tk xa Q k
  refine tW_of (pe_fld (ta := tW X e) pe_W hb) ?_
  refine ED.use (R := fun _ d => ∃ C fs v, d = .ins C fs ∧ Cls X.K C ∧ NoAttr X.K C f ∧ fs.lookup f = some v ∧ R false v) h E tk xa fun d x G1 H1 h1 s1 r1 => ?_
  obtain ⟨C, fs, v, rfl, hC, hn, hl, hR⟩ := h1
  cases r1 with
  | ins hp q =>
    obtain ⟨w, ew, rw'⟩ := q.get hl
    exact ⟨_, C, _, _, w, rfl, s1.ext _ _ hp, hC, hn, ew, k false v w G1 H1 hR s1 rw'⟩

/-! ### dicts -/
theorem ed_dget {o i : Expr} (h : ED X ex o Γ fun _ d => ED X ex i Γ fun _ y => ∃ v, GetD d y (some v) ∧ R false v) (hu : X.A.units + 1 < cLine) (hs : NoSl i := by exact fun _ _ => rfl) : ED X ex (.Subscript o i pos) Γ R := by
  intro σ G H E W tk xa Q k
  refine tW_of (pe_dget (td := tW X o) (ty := tW X i) hu pe_W pe_W hs) ?_
  refine ED.use (R := fun _ d => ED X ex i Γ fun _ y => ∃ v, GetD d y (some v) ∧ R false v) h E tk xa fun d x G1 H1 h1 s1 r1 => ?_
  refine ED.use (R := fun _ y => ∃ v, GetD d y (some v) ∧ R false v) h1 (E.go s1) tk (xa.go s1) fun y w G2 H2 h2 s2 r2 => ?_
  obtain ⟨v, g, hR⟩ := h2
  obtain ⟨a, o', rfl, dg, ro⟩ := g.go s2.ext (r1.mono s2.le) r2
  cases o' with
  | none => exact ro.elim
  | some v' => exact ⟨a, v', rfl, dg, k false v v' G2 H2 hR (s1.trans s2) ro⟩
def isDi : D → Bool
  | .dK _ => true
  | .dT _ => true
  | _ => false
theorem Rep.isD {K : PySem.W.Frag} {G : Gh} {H : Hp} {d : D} {v : V} (E : Ext G H) (r : Rep K G d v) (h : isDi d = true) : ∃ a, v = .ref a ∧ IsD H a := by
  cases r with
  | dK hp _ => exact ⟨_, rfl, .inl ⟨_, .inl (E _ _ hp)⟩⟩
  | dT hp _ => exact ⟨_, rfl, .inr ⟨_, .inl (E _ _ hp)⟩⟩
  | _ => cases h
theorem RepOp.getD {K : PySem.W.Frag} {G : Gh} {o : Option D} {o' : Option V} {d : D} {v : V} (r : RepOp K G o o') (r' : Rep K G d v) : Rep K G (o.getD d) (o'.getD v) := by
  cases o with
  | none => cases o' with
    | none => exact r'
    | some _ => exact r.elim
  | some x => cases o' with
    | none => exact r.elim
    | some _ => exact r
theorem ed_dget1 {o e : Expr} (h : ED X ex o Γ fun _ d => isDi d = true ∧ ED X ex e Γ fun _ y => ∃ v, GetD d y v ∧ R false (v.getD .non)) (hu : X.A.units + 1 < cLine) (m : M1 X o "get" apos e pos := by exact ⟨rfl, rfl, rfl, rfl⟩) : ED X ex (.Call (.Attribute o "get" apos) [e] [] pos) Γ R := by
  intro σ G H E W tk xa Q k
  refine tW_of (pe_dget1 (td := tW X o) (ty := tW X e) hu pe_W pe_W m) ?_
  refine ED.use (R := fun _ d => isDi d = true ∧ ED X ex e Γ fun _ y => ∃ v, GetD d y v ∧ R false (v.getD .non)) h E tk xa fun d x G1 H1 h1 s1 r1 => ?_
  obtain ⟨a, rfl, hd⟩ := r1.isD s1.ext h1.1
  refine ⟨a, rfl, hd, ?_⟩
  refine ED.use (R := fun _ y => ∃ v, GetD d y v ∧ R false (v.getD .non)) h1.2 (E.go s1) tk (xa.go s1) fun y w G2 H2 h2 s2 r2 => ?_
  obtain ⟨v, g, hR⟩ := h2
  obtain ⟨a', o', ea, dg, ro⟩ := g.go s2.ext (r1.mono s2.le) r2
  cases ea
  exact ⟨o', dg, k false _ _ G2 H2 hR (s1.trans s2) (ro.getD .non)⟩
theorem ed_dget2 {o e f : Expr} (h : ED X ex o Γ fun _ d => isDi d = true ∧ ED X ex e Γ fun _ y => ED X ex f Γ fun _ z => ∃ v, GetD d y v ∧ R false (v.getD z)) (hu : X.A.units + 1 < cLine) (m : M2 X o "get" apos e f pos := by exact ⟨rfl, rfl, rfl, rfl⟩) : ED X ex (.Call (.Attribute o "get" apos) [e, f] [] pos) Γ R := by
  intro σ G H E W tk xa Q k
  refine tW_of (pe_dget2 (td := tW X o) (ty := tW X e) (tx := tW X f) hu pe_W pe_W pe_W m) ?_
  refine ED.use (R := fun _ d => isDi d = true ∧ ED X ex e Γ fun _ y => ED X ex f Γ fun _ z => ∃ v, GetD d y v ∧ R false (v.getD z)) h E tk xa fun d x G1 H1 h1 s1 r1 => ?_
  obtain ⟨a, rfl, hd⟩ := r1.isD s1.ext h1.1
  refine ⟨a, rfl, hd, ?_⟩
  refine ED.use (R := fun _ y => ED X ex f Γ fun _ z => ∃ v, GetD d y v ∧ R false (v.getD z)) h1.2 (E.go s1) tk (xa.go s1) fun y w G2 H2 h2 s2 r2 => ?_
  refine ED.use (R := fun _ z => ∃ v, GetD d y v ∧ R false (v.getD z)) h2 ((E.go s1).go s2) tk ((xa.go s1).go s2) fun z u G3 H3 h3 s3 r3 => ?_
  obtain ⟨v, g, hR⟩ := h3
  obtain ⟨a', o', ea, dg, ro⟩ := g.go s3.ext (r1.mono (s2.trans s3).le) (r2.mono s3.le)
  cases ea
  exact ⟨o', dg, k false _ _ G3 H3 hR ((s1.trans s2).trans s3) (ro.getD r3)⟩
/-- y in d, y not in d -/
theorem RepOp.isSome {K : PySem.W.Frag} {G : Gh} {o : Option D} {o' : Option V} (r : RepOp K G o o') : o'.isSome = o.isSome := by
  cases o with
  | none => cases o' with
    | none => rfl
    | some _ => exact r.elim
  | some x => cases o' with
    | none => exact r.elim
    | some _ => rfl
theorem in_dict {d y : D} {o : Option D} {R : Bool → Prop} (hu : X.A.units + 1 < cLine) (g : GetD d y o) (h : R o.isSome) : CmpR X .In y d R := fun G H x z E r1 r2 pins σ s u w I ru rw' Q k => by
  obtain ⟨a, o', rfl, dg, ro⟩ := g.go E r2 r1
  obtain rfl : w = Value.ref a := rw'
  exact d_in hu I dg ru fun s' I' => ⟨.bl o.isSome, H, I', by rw [← ro.isSome]; rfl, k _ G H h (.refl E)⟩

/-! ### calls of the module's defs -/
/-- a def's promise by data: φ args what-is-returned what-is-raised -/
abbrev Ph := List D → (Bool → D → Prop) → (Exn → Prop) → Prop
def spD (K : PySem.W.Frag) (n : Nat) (φ : Ph) : Sp := fun vs H Q Ek => ∃ (G : Gh) (ds : List D) (rt : Bool → D → Prop) (xs : Exn → Prop), Ext G H ∧ Reps K G ds vs ∧ ds.length = n ∧ φ ds rt xs ∧
  (∀ o d v G' H', rt o d → Step0 G H G' H' → RepO K H G' H' o d v → Q v H') ∧ (∀ x c d G' H', xs x → Step0 G H G' H' → ExcAt K H G' H' x c d → Ek c d H')
theorem spD_len {K : PySem.W.Frag} {n : Nat} {φ : Ph} {vs : List V} {H : Hp} {Q : VK} {Ek : XK} (h : spD K n φ vs H Q Ek) : vs.length = n := by
  obtain ⟨G, ds, _, _, _, r, hl, _⟩ := h
  rw [← r.length, hl]
/-- what a def is, for its callers -/
structure FnD (P : Program) (w : World) (K : PySem.W.Frag) (mg : Str → Option Value) (base : Heap) (k : Nat) (f : Addr) (n : Nat) (φ : Ph) : Prop where
  ok : ∃ fd ps, FnOk P w K mg base (L2.CX P w) k f fd ps (spD K n φ) ∧ Binds K fd ps []
  kp : PySem.W.keepIn K (.ref f) = true
abbrev FnX (X : Cx) := FnD X.prog X.w X.K X.mg X.base
theorem ed_call {x : Str} {f : Addr} {k n : Nat} {φ : Ph} {e : Expr} {es : List Expr} (F : FnX X k f n φ) (hr : Room k X.A) (hm : X.mg x = some (.ref f)) (hg : Gl X x)
    (h : EA X ex (e :: es) Γ fun ds => ds.length = n ∧ φ ds R ex)
    (hdb : (x == ("__debug__" : Str)) = false := by decide) (he : starEach (e :: es) X.env = (false, eval e X.env) :: starEach es X.env := by rfl) (hpl : (backTo pos (starEach es X.env)).any (·.1) = false := by rfl) :
    ED X ex (.Call (.Name x p) (e :: es) [] pos) Γ R := by
  intro σ G H E W tk xa Q k
  obtain ⟨fd, ps, F1, F2⟩ := F.ok
  refine tW_of (pe_callS F1 hr hg hm F.kp F2 (E := WE W) tk.call (t := tWa X (e :: es)) pa_W hdb he hpl) ?_
  refine h σ G H E W tk xa _ fun ds vs G1 H1 h1 s1 r1 => ?_
  exact ⟨G1, ds, R, ex, s1.ext, r1, h1.1, h1.2, fun o d v G' H' hR s r => k o d v G' H' hR (s1.trans s) (r.back s1), fun x c d G' H' hx s hc => xa x c d G' H' hx (s1.trans s) (hc.older s1)⟩

/-! ### built-in functions -/
theorem ed_cb {x : Str} {id : String} {r : List V → Hp → VK → Prop} {e : Expr} {es : List Expr} (hc : CallR X (.builtin id) r) (hm : X.mg x = none) (hv : bootBuiltins x = some (.builtin id)) (hg : Gl X x)
    (h : EA X ex (e :: es) Γ fun ds => ∀ vs G H, Ext G H → Reps X.K G ds vs → ∀ Q : VK, (∀ o d v G' H', R o d → Step0 G H G' H' → RepO X.K H G' H' o d v → Q v H') → r vs H Q)
    (hn : x ≠ "__name__" := by decide) (hdb : (x == ("__debug__" : Str)) = false := by decide)
    (he : starEach (e :: es) X.env = (false, eval e X.env) :: starEach es X.env := by rfl) (hpl : (backTo pos (starEach es X.env)).any (·.1) = false := by rfl) : ED X ex (.Call (.Name x p) (e :: es) [] pos) Γ R := by
  intro σ G H E W tk xa Q k
  refine tW_of (pe_callB hc hg hm hv (t := tWa X (e :: es)) pa_W hn hdb he hpl) ?_
  refine h σ G H E W tk xa _ fun ds vs G1 H1 h1 s1 r1 => ?_
  exact h1 vs G1 H1 s1.ext r1 Q fun o d v G' H' hR s r => k o d v G' H' hR (s1.trans s) (r.back s1)
theorem ed_ct {x : Str} {T : String} {r : List V → Hp → VK → Prop} {e : Expr} {es : List Expr} (hc : CallR X (.type T) r) (hm : X.mg x = none) (hv : bootBuiltins x = some (.type T)) (hg : Gl X x)
    (h : EA X ex (e :: es) Γ fun ds => ∀ vs G H, Ext G H → Reps X.K G ds vs → ∀ Q : VK, (∀ o d v G' H', R o d → Step0 G H G' H' → RepO X.K H G' H' o d v → Q v H') → r vs H Q)
    (hn : x ≠ "__name__" := by decide) (hdb : (x == ("__debug__" : Str)) = false := by decide)
    (he : starEach (e :: es) X.env = (false, eval e X.env) :: starEach es X.env := by rfl) (hpl : (backTo pos (starEach es X.env)).any (·.1) = false := by rfl) : ED X ex (.Call (.Name x p) (e :: es) [] pos) Γ R := by
  intro σ G H E W tk xa Q k
  refine tW_of (pe_callTy hc hg hm hv (t := tWa X (e :: es)) pa_W hn hdb he hpl) ?_
  refine h σ G H E W tk xa _ fun ds vs G1 H1 h1 s1 r1 => ?_
  exact h1 vs G1 H1 s1.ext r1 Q fun o d v G' H' hR s r => k o d v G' H' hR (s1.trans s) (r.back s1)
end
end DL

/-! DL4: built-in functions and methods, by data. -/
namespace DL
open PySem L2
section
variable {X : Cx} {ex : Exn → Prop} {Γ : En} {R : Bool → D → Prop} {pos p apos : Pos}
/-! ### len -/
def lenD : D → Option Nat
  | .str x => if x.length ≤ sizeLine then some x.length else none
  | .lst xs => some xs.length
  | .tup xs => some xs.length
  | .scr ns => some ns.length
  | .dK kvs => some kvs.length
  | .dT kvs => some kvs.length
  | _ => none
theorem rep1 {K : PySem.W.Frag} {G : Gh} {d : D} {vs : List V} (r : Reps K G [d] vs) : ∃ v, vs = [v] ∧ Rep K G d v := by
  cases r with
  | cons h t => cases t; exact ⟨_, rfl, h⟩
theorem rep2 {K : PySem.W.Frag} {G : Gh} {d e : D} {vs : List V} (r : Reps K G [d, e] vs) : ∃ v w, vs = [v, w] ∧ Rep K G d v ∧ Rep K G e w := by
  cases r with
  | cons h t => obtain ⟨w, rfl, h'⟩ := rep1 t; exact ⟨_, w, rfl, h, h'⟩
theorem ed_len {e : Expr} (h : ED X ex e Γ fun _ d => ∃ n, lenD d = some n ∧ R false (.int n)) (hm : X.mg "len" = none) (hg : Gl X "len") 
    (he : starEach (e :: []) X.env = (false, eval e X.env) :: starEach [] X.env := by rfl) (hpl : (backTo pos (starEach [] X.env)).any (·.1) = false := by rfl) : ED X ex (.Call (.Name "len" p) [e] [] pos) Γ R := by
  refine ed_cb (CallR.or (CallR.or call_len call_lenD) call_len_dT) hm PySem.boot_len hg (ea_cons (h.imp fun _ d hd => ea_nil fun vs G H E r Q k => ?_) he) (by decide) (by decide) he hpl
  obtain ⟨v, rfl, rr⟩ := rep1 r
  obtain ⟨n, hl, hR⟩ := hd
  have fin := k false (.int n) (.int n) G H hR (.refl E) .int
  cases rr with
  | str =>
    rename_i x
    have hl : (if x.length ≤ sizeLine then some x.length else none) = some n := hl
    by_cases hz : x.length ≤ sizeLine
    · rw [if_pos hz] at hl; cases hl; exact .inl (.inl ⟨_, _, rfl, ⟨hz, rfl⟩, fin⟩)
    · rw [if_neg hz] at hl; cases hl
  | lst hp q => cases hl; rw [q.length] at fin; exact .inl (.inl ⟨_, _, rfl, .inl ⟨_, SqL.of (E _ _ hp), rfl⟩, fin⟩)
  | tup hp q => cases hl; rw [q.length] at fin; exact .inl (.inl ⟨_, _, rfl, .inr ⟨_, SqT.of (E _ _ hp), rfl⟩, fin⟩)
  | scr hp => cases hl; exact .inl (.inl ⟨_, _, rfl, .inl ⟨_, hp.sq E, by rw [List.length_map]⟩, fin⟩)
  | dK hp q => cases hl; rw [q.length] at fin; exact .inl (.inr ⟨_, _, rfl, E _ _ hp, fin⟩)
  | dT hp q => cases hl; rw [q.length] at fin; exact .inr ⟨_, _, rfl, E _ _ hp, fin⟩
  | _ => cases hl
/-! ### numbers -/
theorem ed_max2 {a b : Expr} (h : ED X ex a Γ fun _ d => ED X ex b Γ fun _ e => ∃ i j, d = .int i ∧ e = .int j ∧ R false (.int (max i j))) (hc : X.calm = true) (hm : X.mg "max" = none) (hg : Gl X "max")
    (h1 : starEach (a :: [b]) X.env = (false, eval a X.env) :: starEach [b] X.env := by rfl) (h2 : starEach (b :: []) X.env = (false, eval b X.env) :: starEach [] X.env := by rfl) (hpl : (backTo pos (starEach [b] X.env)).any (·.1) = false := by rfl) : ED X ex (.Call (.Name "max" p) [a, b] [] pos) Γ R := by
  refine ed_cb (call_max2 hc) hm (by decide +kernel) hg (ea_cons (h.imp fun _ d hd => ea_cons (hd.imp fun _ e he => ea_nil fun vs G H E r Q k => ?_) h2) h1) (by decide) (by decide) h1 hpl
  obtain ⟨i, j, rfl, rfl, hR⟩ := he
  obtain ⟨v, w, rfl, r1, r2⟩ := rep2 r
  cases r1; cases r2
  refine ⟨i, j, rfl, ?_⟩
  have e : (if j > i then j else i) = max i j := by omega
  rw [e]
  exact k false _ _ G H hR (.refl E) .int
theorem ed_min2 {a b : Expr} (h : ED X ex a Γ fun _ d => ED X ex b Γ fun _ e => ∃ i j, d = .int i ∧ e = .int j ∧ R false (.int (min i j))) (hc : X.calm = true) (hm : X.mg "min" = none) (hg : Gl X "min")
    (h1 : starEach (a :: [b]) X.env = (false, eval a X.env) :: starEach [b] X.env := by rfl) (h2 : starEach (b :: []) X.env = (false, eval b X.env) :: starEach [] X.env := by rfl) (hpl : (backTo pos (starEach [b] X.env)).any (·.1) = false := by rfl) : ED X ex (.Call (.Name "min" p) [a, b] [] pos) Γ R := by
  refine ed_cb (call_min2 hc) hm (by decide +kernel) hg (ea_cons (h.imp fun _ d hd => ea_cons (hd.imp fun _ e he => ea_nil fun vs G H E r Q k => ?_) h2) h1) (by decide) (by decide) h1 hpl
  obtain ⟨i, j, rfl, rfl, hR⟩ := he
  obtain ⟨v, w, rfl, r1, r2⟩ := rep2 r
  cases r1; cases r2
  refine ⟨i, j, rfl, ?_⟩
  have e : (if j < i then j else i) = min i j := by omega
  rw [e]
  exact k false _ _ G H hR (.refl E) .int
/-- max, min of one list of ints -/
theorem ed_maxL {a : Expr} (h : ED X ex a Γ fun _ d => ∃ ns : List Int, d = .lst (ns.map D.int) ∧ 0 < ns.length ∧ ∀ m, m ∈ ns → (∀ y ∈ ns, y ≤ m) → R false (.int m)) (hc : X.calm = true) (hm : X.mg "max" = none) (hg : Gl X "max")
    (h1 : starEach (a :: []) X.env = (false, eval a X.env) :: starEach [] X.env := by rfl) (hpl : (backTo pos (starEach [] X.env)).any (·.1) = false := by rfl) : ED X ex (.Call (.Name "max" p) [a] [] pos) Γ R := by
  refine ed_cb (cr_max hc) hm (by decide +kernel) hg (ea_cons (h.imp fun _ d hd => ea_nil fun vs G H E r Q k => ?_) h1) (by decide) (by decide) h1 hpl
  obtain ⟨ns, rfl, h0, hR⟩ := hd
  obtain ⟨v, rfl, rr⟩ := rep1 r
  cases rr with
  | lst hp q =>
    rw [q.ints] at hp
    exact ⟨_, ns, rfl, SqL.of (E _ _ hp), h0, fun m h1 h2 => k false _ _ G H (hR m h1 h2) (.refl E) .int⟩
theorem ed_minL {a : Expr} (h : ED X ex a Γ fun _ d => ∃ ns : List Int, d = .lst (ns.map D.int) ∧ 0 < ns.length ∧ ∀ m, m ∈ ns → (∀ y ∈ ns, m ≤ y) → R false (.int m)) (hc : X.calm = true) (hm : X.mg "min" = none) (hg : Gl X "min")
    (h1 : starEach (a :: []) X.env = (false, eval a X.env) :: starEach [] X.env := by rfl) (hpl : (backTo pos (starEach [] X.env)).any (·.1) = false := by rfl) : ED X ex (.Call (.Name "min" p) [a] [] pos) Γ R := by
  refine ed_cb (cr_min hc) hm (by decide +kernel) hg (ea_cons (h.imp fun _ d hd => ea_nil fun vs G H E r Q k => ?_) h1) (by decide) (by decide) h1 hpl
  obtain ⟨ns, rfl, h0, hR⟩ := hd
  obtain ⟨v, rfl, rr⟩ := rep1 r
  cases rr with
  | lst hp q =>
    rw [q.ints] at hp
    exact ⟨_, ns, rfl, SqL.of (E _ _ hp), h0, fun m h1 h2 => k false _ _ G H (hR m h1 h2) (.refl E) .int⟩
theorem ed_sum {a : Expr} (h : ED X ex a Γ fun _ d => ∃ ns : List Int, d = .lst (ns.map D.int) ∧ R false (.int ns.sum)) (hc : X.calm = true) (hm : X.mg "sum" = none) (hg : Gl X "sum")
    (h1 : starEach (a :: []) X.env = (false, eval a X.env) :: starEach [] X.env := by rfl) (hpl : (backTo pos (starEach [] X.env)).any (·.1) = false := by rfl) : ED X ex (.Call (.Name "sum" p) [a] [] pos) Γ R := by
  refine ed_cb (cr_sum hc) hm (by decide +kernel) hg (ea_cons (h.imp fun _ d hd => ea_nil fun vs G H E r Q k => ?_) h1) (by decide) (by decide) h1 hpl
  obtain ⟨ns, rfl, hR⟩ := hd
  obtain ⟨v, rfl, rr⟩ := rep1 r
  cases rr with
  | lst hp q =>
    rw [q.ints] at hp
    exact ⟨_, ns, rfl, SqL.of (E _ _ hp), k false _ _ G H hR (.refl E) .int⟩
/-- str(n) -/
theorem ed_strI {a : Expr} (h : ED X ex a Γ fun _ d => ∃ i : Int, d = .int i ∧ i.natAbs.log2 < 1920 ∧ R false (.str (toString i))) (hm : X.mg "str" = none) (hg : Gl X "str")
    (h1 : starEach (a :: []) X.env = (false, eval a X.env) :: starEach [] X.env := by rfl) (hpl : (backTo pos (starEach [] X.env)).any (·.1) = false := by rfl) : ED X ex (.Call (.Name "str" p) [a] [] pos) Γ R := by
  refine ed_ct call_str_int hm (by decide +kernel) hg (ea_cons (h.imp fun _ d hd => ea_nil fun vs G H E r Q k => ?_) h1) (by decide) (by decide) h1 hpl
  obtain ⟨i, rfl, h0, hR⟩ := hd
  obtain ⟨v, rfl, rr⟩ := rep1 r
  cases rr
  exact ⟨i, rfl, h0, k false _ _ G H hR (.refl E) .str⟩
/-- int(text), int(truth), int(n) -/
theorem ed_intS {a : Expr} (h : ED X ex a Γ fun _ d => ∃ (s : Str) (n : Int), d = .str s ∧ PySem.intText? s = some n ∧ s.length ≤ 640 ∧ R false (.int n)) (hm : X.mg "int" = none) (hg : Gl X "int")
    (h1 : starEach (a :: []) X.env = (false, eval a X.env) :: starEach [] X.env := by rfl) (hpl : (backTo pos (starEach [] X.env)).any (·.1) = false := by rfl) : ED X ex (.Call (.Name "int" p) [a] [] pos) Γ R := by
  refine ed_ct call_int_str hm (by decide +kernel) hg (ea_cons (h.imp fun _ d hd => ea_nil fun vs G H E r Q k => ?_) h1) (by decide) (by decide) h1 hpl
  obtain ⟨s, n, rfl, h0, hl, hR⟩ := hd
  obtain ⟨v, rfl, rr⟩ := rep1 r
  cases rr
  exact ⟨s, n, rfl, h0, hl, k false _ _ G H hR (.refl E) .int⟩
theorem ed_intB {a : Expr} (h : ED X ex a Γ fun _ d => ∃ b, d = .bl b ∧ R false (.int (if b then 1 else 0))) (hm : X.mg "int" = none) (hg : Gl X "int")
    (h1 : starEach (a :: []) X.env = (false, eval a X.env) :: starEach [] X.env := by rfl) (hpl : (backTo pos (starEach [] X.env)).any (·.1) = false := by rfl) : ED X ex (.Call (.Name "int" p) [a] [] pos) Γ R := by
  refine ed_ct call_int1 hm (by decide +kernel) hg (ea_cons (h.imp fun _ d hd => ea_nil fun vs G H E r Q k => ?_) h1) (by decide) (by decide) h1 hpl
  obtain ⟨b, rfl, hR⟩ := hd
  obtain ⟨v, rfl, rr⟩ := rep1 r
  cases rr
  exact .inr ⟨b, rfl, k false _ _ G H hR (.refl E) .int⟩

/-! ### list(xs), list(text) -/
theorem ed_listL {a : Expr} (h : ED X ex a Γ fun _ d => ∃ xs, (d = .lst xs ∨ d = .tup xs) ∧ R true (.lst xs)) (hm : X.mg "list" = none) (hg : Gl X "list")
    (h1 : starEach (a :: []) X.env = (false, eval a X.env) :: starEach [] X.env := by rfl) (hpl : (backTo pos (starEach [] X.env)).any (·.1) = false := by rfl) : ED X ex (.Call (.Name "list" p) [a] [] pos) Γ R := by
  refine ed_ct call_list_of hm (by decide +kernel) hg (ea_cons (h.imp fun _ d hd => ea_nil fun vs G H E r Q k => ?_) h1) (by decide) (by decide) h1 hpl
  obtain ⟨xs, hd, hR⟩ := hd
  obtain ⟨v, rfl, rr⟩ := rep1 r
  rcases hd with rfl | rfl
  · cases rr with
    | lst hp q => exact ⟨_, _, rfl, .inl (SqL.of (E _ _ hp)), newL E q hR k⟩
  · cases rr with
    | tup hp q => exact ⟨_, _, rfl, .inr (SqT.of (E _ _ hp)), newL E q hR k⟩

/-! ### isinstance with a built-in type -/
def isiD (T : String) : D → Option Bool
  | .non => some (T == "NoneType")
  | .bl _ => some (T == "bool" || T == "int")
  | .int _ => some (T == "int")
  | .str _ => some (T == "str")
  | .lst _ => some (T == "list")
  | .scr _ => some (T == "list")
  | .tup _ => some (T == "tuple")
  | .dK _ => some (T == "dict")
  | .dT _ => some (T == "dict")
  | _ => none
def tyOf : D → Option String
  | .non => some "NoneType"
  | .bl _ => some "bool"
  | .int _ => some "int"
  | .str _ => some "str"
  | .lst _ => some "list"
  | .scr _ => some "list"
  | .tup _ => some "tuple"
  | .dK _ => some "dict"
  | .dT _ => some "dict"
  | _ => none
theorem Rep.tyX {K : PySem.W.Frag} {G : Gh} {H : Hp} {d : D} {v : V} {t : String} (E : Ext G H) (r : Rep K G d v) (h : tyOf d = some t) : TyX K H v (.type t) := by
  cases r with
  | non => cases h; exact .base .non
  | bl => cases h; exact .base (.bl _)
  | int => cases h; exact .base (.int _)
  | str => cases h; exact .base (.str _)
  | lst hp _ => cases h; exact .base (.lst (E _ _ hp))
  | tup hp _ => cases h; exact .base (.tup (E _ _ hp))
  | dK hp _ => cases h; exact .base (.dK (E _ _ hp))
  | dT hp _ => cases h; exact .base (.dT (E _ _ hp))
  | scr hp =>
    cases h
    rcases hp with ⟨o, hp⟩ | ⟨o, its, n, h1, h2, _⟩
    · exact .base (.frz (E _ _ hp))
    · exact .kList h1 h2
  | _ => cases h
def T5 : List String := ["int", "bool", "str", "list", "tuple"]
theorem kit5 : ∀ t ∈ ["NoneType", "bool", "int", "str", "list", "tuple", "dict"], ∀ T ∈ T5, kitB t T = some (t == T || (t == "bool" && T == "int")) := by decide +kernel
theorem ed_isi {a : Expr} {T : String} {x2 : Str} {p2 : Pos} (h : ED X ex a Γ fun _ d => ∃ b, isiD T d = some b ∧ R false (.bl b)) (hT : T ∈ T5) (hm : X.mg "isinstance" = none) (hg : Gl X "isinstance")
    (hm2 : X.mg x2 = none) (hv2 : bootBuiltins x2 = some (.type T)) (hg2 : Gl X x2) (hn2 : x2 ≠ "__name__" := by decide) (hd2 : (x2 == ("__debug__" : Str)) = false := by decide)
    (h1 : starEach (a :: [.Name x2 p2]) X.env = (false, eval a X.env) :: starEach [.Name x2 p2] X.env := by rfl) (h2 : starEach (.Name x2 p2 :: []) X.env = (false, eval (.Name x2 p2) X.env) :: starEach [] X.env := by rfl)
    (hpl : (backTo pos (starEach [.Name x2 p2] X.env)).any (·.1) = false := by rfl) : ED X ex (.Call (.Name "isinstance" p) [a, .Name x2 p2] [] pos) Γ R := by
  refine ed_cb call_isi hm (by decide +kernel) hg (ea_cons (h.imp fun _ d hd => ea_cons (ed_c (pe_bltn hg2 hm2 hv2 (v := .ty T) rfl hn2 hd2) (fun _ => .ty) (ea_nil fun vs G H E r Q k => ?_)) h2) h1) (by decide) (by decide) h1 hpl
  obtain ⟨b, hb, hR⟩ := hd
  obtain ⟨v, w, rfl, r1, r2⟩ := rep2 r
  cases r2
  have fin := k false (.bl b) (.bl b) G H hR (.refl E) .bl
  have go : ∀ t, tyOf d = some t → t ∈ ["NoneType", "bool", "int", "str", "list", "tuple", "dict"] → (t == T || (t == "bool" && T == "int")) = b → rIsi X.K [v, .ty T] H Q := fun t ht hmem e =>
    ⟨v, .ty T, .type t, .type T, b, rfl, .ty T, r1.tyX E ht, kit_ty (by rw [kit5 t hmem T hT, e]), fin⟩
  have ne : ∀ {s u : String}, (s == u) = (u == s) := fun {s u} => by
    by_cases e : s = u
    · rw [e]
    · rw [beq_eq_false_iff_ne.mpr e, beq_eq_false_iff_ne.mpr (Ne.symm e)]
  cases r1 with
  | non => cases hb; exact go "NoneType" rfl (by decide) (by rw [ne]; simp)
  | bl => cases hb; exact go "bool" rfl (by decide) (by rw [ne]; simp)
  | int => cases hb; exact go "int" rfl (by decide) (by rw [ne]; simp)
  | str => cases hb; exact go "str" rfl (by decide) (by rw [ne]; simp)
  | lst hp q => cases hb; exact go "list" rfl (by decide) (by rw [ne]; simp)
  | scr hp => cases hb; exact go "list" rfl (by decide) (by rw [ne]; simp)
  | tup hp q => cases hb; exact go "tuple" rfl (by decide) (by rw [ne]; simp)
  | dK hp q => cases hb; exact go "dict" rfl (by decide) (by rw [ne]; simp)
  | dT hp q => cases hb; exact go "dict" rfl (by decide) (by rw [ne]; simp)
  | _ => cases hb

/-! ### methods of texts -/
theorem ed_m1 {id : String} {name : Str} {r : V → List V → Hp → VK → Prop} {o e : Expr} (slot : Slot "str" name id) (ty : typeOf (.builtin id) = pure (.type "method_descriptor")) (rule : MtR X id r)
    (h : ED X ex o Γ fun _ d => ∃ a, d = .str a ∧ ED X ex e Γ fun _ f => ∀ v G H, Ext G H → Rep X.K G f v → ∀ Q : VK, (∀ o d v G' H', R o d → Step0 G H G' H' → RepO X.K H G' H' o d v → Q v H') → r (.str a) [v] H Q)
    (hs : starEach [e] X.env = [(false, eval e X.env)] := by rfl) (hbase : attributeBase o name X.env (eval o X.env) = eval o X.env := by rfl) (hline : (apos.endLine == pos.line) = true := by rfl) : ED X ex (.Call (.Attribute o name apos) [e] [] pos) Γ R := by
  intro σ G H E W tk xa Q k
  refine tW_of (pe_m1 (to := tW X o) (te := tW X e) slot ty rule pe_W pe_W hs hbase hline) ?_
  refine ED.use (R := fun _ d => ∃ a, d = .str a ∧ ED X ex e Γ fun _ f => ∀ v G H, Ext G H → Rep X.K G f v → ∀ Q : VK, (∀ o d v G' H', R o d → Step0 G H G' H' → RepO X.K H G' H' o d v → Q v H') → r (.str a) [v] H Q) h E tk xa fun d v G1 H1 h1 s1 r1 => ?_
  obtain ⟨a, rfl, h1⟩ := h1
  cases r1
  refine ⟨⟨a, rfl⟩, ?_⟩
  refine ED.use (R := fun _ f => ∀ v G H, Ext G H → Rep X.K G f v → ∀ Q : VK, (∀ o d v G' H', R o d → Step0 G H G' H' → RepO X.K H G' H' o d v → Q v H') → r (.str a) [v] H Q) h1 (E.go s1) tk (xa.go s1) fun f w G2 H2 h2 s2 r2 => ?_
  exact h2 w G2 H2 s2.ext r2 Q fun o d v G' H' hR s r => k o d v G' H' hR ((s1.trans s2).trans s) (r.back (s1.trans s2))
theorem ed_join {o e : Expr} (h : ED X ex o Γ fun _ d => ∃ a : Str, d = .str a ∧ ED X ex e Γ fun _ f => ∃ ys : List Str, f = .lst (ys.map D.str) ∧ (ys.map (·.length)).sum + ys.length * a.length ≤ 16777216 ∧ R false (.str (Txt.join a ys)))
    (hs : starEach [e] X.env = [(false, eval e X.env)] := by rfl) (hbase : attributeBase o "join" X.env (eval o X.env) = eval o X.env := by rfl) (hline : (apos.endLine == pos.line) = true := by rfl) : ED X ex (.Call (.Attribute o "join" apos) [e] [] pos) Γ R :=
  ed_m1 PySem.F.slot_str_join PySem.F.type_str_join mt_join (h.imp fun _ d ⟨a, e, h1⟩ => ⟨a, e, h1.imp fun _ f ⟨ys, ef, hz, hR⟩ v G H E r Q k => by
    subst ef
    cases r with
    | lst hp q =>
      rw [q.strs] at hp
      exact ⟨a, _, ys, rfl, rfl, .inl (SqL.of (E _ _ hp)), hz, k _ _ _ G H hR (.refl E) .str⟩⟩) hs hbase hline
theorem ed_split {o e : Expr} (h : ED X ex o Γ fun _ d => ∃ a : Str, d = .str a ∧ ED X ex e Γ fun _ f => ∃ b : Str, f = .str b ∧ (b.length == 0) = false ∧ a.length + 2 ≤ sizeLine ∧ R true (.lst ((Txt.split a b).map D.str)))
    (hs : starEach [e] X.env = [(false, eval e X.env)] := by rfl) (hbase : attributeBase o "split" X.env (eval o X.env) = eval o X.env := by rfl) (hline : (apos.endLine == pos.line) = true := by rfl) : ED X ex (.Call (.Attribute o "split" apos) [e] [] pos) Γ R :=
  ed_m1 PySem.F.slot_str_split PySem.F.type_str_split mt_split (h.imp fun _ d ⟨a, e, h1⟩ => ⟨a, e, h1.imp fun _ f ⟨b, ef, hz, hl, hR⟩ v G H E r Q k => by
    subst ef
    cases r
    exact ⟨a, b, rfl, rfl, hz, hl, newL E (Reps.ofStrs _) hR k⟩⟩) hs hbase hline
theorem ed_startswith {o e : Expr} (h : ED X ex o Γ fun _ d => ∃ a : Str, d = .str a ∧ ED X ex e Γ fun _ f => ∃ b : Str, f = .str b ∧ R false (.bl (Txt.startswith a b)))
    (hs : starEach [e] X.env = [(false, eval e X.env)] := by rfl) (hbase : attributeBase o "startswith" X.env (eval o X.env) = eval o X.env := by rfl) (hline : (apos.endLine == pos.line) = true := by rfl) : ED X ex (.Call (.Attribute o "startswith" apos) [e] [] pos) Γ R :=
  ed_m1 PySem.F.slot_str_startswith PySem.F.type_str_startswith mt_startswith (h.imp fun _ d ⟨a, e, h1⟩ => ⟨a, e, h1.imp fun _ f ⟨b, ef, hR⟩ v G H E r Q k => by
    subst ef
    cases r
    exact ⟨a, b, rfl, rfl, k _ _ _ G H hR (.refl E) .bl⟩⟩) hs hbase hline
end
end DL

/-! DL5: statements, loops, comprehensions, by data. -/
namespace DL
open PySem L2

theorem set_get {α : Type} {l : List α} {i j : Nat} {a b : α} (h : (l.set i a)[j]? = some b) : (j = i ∧ b = a) ∨ (j ≠ i ∧ l[j]? = some b) := by
  by_cases e : j = i
  · subst e
    by_cases hl : j < l.length
    · rw [List.getElem?_set_self hl] at h
      cases h
      exact .inl ⟨rfl, rfl⟩
    · rw [List.getElem?_eq_none (by rw [List.length_set]; omega)] at h
      cases h
  · rw [List.getElem?_set_ne (Ne.symm e)] at h
    exact .inr ⟨e, h⟩

section
variable {K : PySem.W.Frag} {F : Fm} {G G1 : Gh} {H H1 : Hp} {σ : St} {Γ : En}
/-- slot i takes a known value -/
theorem Loc.setv {i : Nat} {d : D} {v : V} (E : Loc K G H σ Γ) (r : Rep K G d v) : Loc K G H (σ.set i (some v)) (Γ.set i (some (false, d))) where
  len := by rw [List.length_set, List.length_set]; exact E.len
  ext := E.ext
  val := fun j e h => by
    rcases set_get h with ⟨rfl, he⟩ | ⟨hj, h⟩
    · cases he
      have hl : j < σ.length := by
        rw [E.len]
        have := (List.getElem?_eq_some_iff.mp h).1
        rw [List.length_set] at this
        exact this
      exact ⟨v, by rw [List.getElem?_set_self hl], r⟩
    · obtain ⟨w, h1, h2⟩ := E.val j e h
      exact ⟨w, by rw [List.getElem?_set_ne (Ne.symm hj)]; exact h1, h2⟩
  own := fun j e h => by
    rcases set_get h with ⟨rfl, he⟩ | ⟨hj, h⟩
    · cases he
    · obtain ⟨p, h1, h2, h3⟩ := E.own j e h
      exact ⟨p, by rw [List.getElem?_set_ne (Ne.symm hj)]; exact h1, h2, h3⟩
  dis := fun j l d e p hjl h1 h2 h3 h4 => by
    rcases set_get h1 with ⟨rfl, he⟩ | ⟨hj, h1⟩
    · cases he
    · rcases set_get h2 with ⟨rfl, he⟩ | ⟨hl, h2⟩
      · cases he
      · rw [List.getElem?_set_ne (Ne.symm hj)] at h3
        rw [List.getElem?_set_ne (Ne.symm hl)] at h4
        exact E.dis j l d e p hjl h1 h2 h3 h4
/-- slot i takes a new own object -/
theorem Loc.seto {i : Nat} {d : D} {p : Addr} (E : Loc K G H σ Γ) (E1 : Loc K G1 H1 σ Γ) (hn : H p = none) (n : G1 p = none) (w : OwnAt K G1 H1 p d) : Loc K G1 H1 (σ.set i (some (.ref p))) (Γ.set i (some (true, d))) where
  len := by rw [List.length_set, List.length_set]; exact E.len
  ext := E1.ext
  val := fun j e h => by
    rcases set_get h with ⟨rfl, he⟩ | ⟨hj, h⟩
    · cases he
    · obtain ⟨w, h1, h2⟩ := E1.val j e h
      exact ⟨w, by rw [List.getElem?_set_ne (Ne.symm hj)]; exact h1, h2⟩
  own := fun j e h => by
    rcases set_get h with ⟨rfl, he⟩ | ⟨hj, h⟩
    · cases he
      have hl : j < σ.length := by
        rw [E.len]
        have := (List.getElem?_eq_some_iff.mp h).1
        rw [List.length_set] at this
        exact this
      exact ⟨p, by rw [List.getElem?_set_self hl], n, w⟩
    · obtain ⟨q, h1, h2, h3⟩ := E1.own j e h
      exact ⟨q, by rw [List.getElem?_set_ne (Ne.symm hj)]; exact h1, h2, h3⟩
  dis := fun j l d1 e q hjl h1 h2 h3 h4 => by
    have old : ∀ (m : Nat) (f : D), Γ[m]? = some (some (true, f)) → σ[m]? = some (some (.ref p)) → False := fun m f g1 g2 => by
      obtain ⟨q', a1, a2, a3⟩ := E.own m f g1
      rw [g2] at a1; cases a1
      obtain ⟨o, ho⟩ := a3.there
      rw [hn] at ho; cases ho
    have atI : ∀ (m : Nat) (q : Addr), m < σ.length → (σ.set m (some (V.ref p)))[m]? = some (some (.ref q)) → q = p := fun m q hm g => by
      rw [List.getElem?_set_self hm] at g; cases g; rfl
    have lt : ∀ (m : Nat) (f : D), (Γ.set i (some (true, d)))[m]? = some (some (true, f)) → m < σ.length := fun m f g => by
      have := (List.getElem?_eq_some_iff.mp g).1
      rw [List.length_set] at this
      rw [E.len]; exact this
    have hj' := lt j _ h1
    have hl' := lt l _ h2
    rcases set_get h1 with ⟨e1, _⟩ | ⟨hj, g1⟩
    · rcases set_get h2 with ⟨e2, _⟩ | ⟨hl, g2⟩
      · exact hjl (e1.trans e2.symm)
      · subst e1
        have := atI j q hj' h3; subst this
        rw [List.getElem?_set_ne (Ne.symm hl)] at h4
        exact old l e g2 h4
    · rcases set_get h2 with ⟨e2, _⟩ | ⟨hl, g2⟩
      · subst e2
        have := atI l q hl' h4; subst this
        rw [List.getElem?_set_ne (Ne.symm hj)] at h3
        exact old j _ g1 h3
      · rw [List.getElem?_set_ne (Ne.symm hj)] at h3
        rw [List.getElem?_set_ne (Ne.symm hl)] at h4
        exact E1.dis j l _ e q hjl g1 g2 h3 h4
theorem EnvOk.setv {i : Nat} {d : D} {v : V} (E : EnvOk K F G H σ Γ) (r : Rep K G d v) : EnvOk K F G H (σ.set i (some v)) (Γ.set i (some (false, d))) :=
  ⟨E.loc.setv r, E.step, fun j e p h1 h2 => by
    rcases set_get h1 with ⟨rfl, he⟩ | ⟨hj, h1⟩
    · cases he
    · rw [List.getElem?_set_ne (Ne.symm hj)] at h2
      exact E.lent j e p h1 h2⟩
theorem EnvOk.seto {i : Nat} {d : D} {p : Addr} (E : EnvOk K F G H σ Γ) (s : Step0 G H G1 H1) (hn : H p = none) (n : G1 p = none) (w : OwnAt K G1 H1 p d) : EnvOk K F G1 H1 (σ.set i (some (.ref p))) (Γ.set i (some (true, d))) :=
  ⟨E.loc.seto (E.loc.go s) hn n w, (E.go s).step, fun j e q h1 h2 => by
    rcases set_get h1 with ⟨rfl, he⟩ | ⟨hj, h1⟩
    · have hl : j < σ.length := by
        have := (List.getElem?_eq_some_iff.mp h2).1
        rw [List.length_set] at this
        exact this
      rw [List.getElem?_set_self hl] at h2
      cases h2
      exact .inl (E.step.free hn)
    · rw [List.getElem?_set_ne (Ne.symm hj)] at h2
      exact E.lent j e q h1 h2⟩
/-- a slot forgotten -/
theorem EnvOk.drop {i : Nat} (E : EnvOk K F G H σ Γ) : EnvOk K F G H σ (Γ.set i none) := by
  have g : ∀ {j : Nat} {b : Bool} {e : D}, (Γ.set i none)[j]? = some (some (b, e)) → Γ[j]? = some (some (b, e)) := fun {j b e} h => by
    rcases set_get h with ⟨rfl, he⟩ | ⟨_, h⟩
    · cases he
    · exact h
  exact ⟨⟨by rw [List.length_set]; exact E.loc.len, E.loc.ext, fun j e h => E.loc.val j e (g h), fun j e h => E.loc.own j e (g h), fun j l d e p hjl h1 h2 => E.loc.dis j l d e p hjl (g h1) (g h2)⟩, E.step, fun j e p h => E.lent j e p (g h)⟩
/-- an own slot becomes known (it must not be lent) -/
theorem EnvOk.know {i : Nat} {d : D} (E : EnvOk K F G H σ Γ) (hb : ∀ a, ¬ F.B a) (h : Γ[i]? = some (some (true, d))) : ∃ G', EnvOk K F G' H σ (Γ.set i (some (false, d))) ∧ Le G G' := by
  obtain ⟨p, h1, h2, h3⟩ := E.loc.own i d h
  obtain ⟨o, ho, r⟩ := h3.know h2
  have hf : F.H0 p = none := (E.lent i d p h h1).resolve_right (hb p)
  have hi : i < σ.length := (List.getElem?_eq_some_iff.mp h1).1
  have le : Le G (gupd G p (.ho o)) := Le.gupd h2
  have es : σ = σ.set i (some (.ref p)) := by
    apply List.ext_getElem? ; intro j
    by_cases e : j = i
    · subst e; rw [h1, List.getElem?_set_self hi]
    · rw [List.getElem?_set_ne (Ne.symm e)]
  have st : Step F.B F.G0 F.H0 (gupd G p (.ho o)) H := E.step.know hf ho h2
  have gn : ∀ {j : Nat} {e : D} {q : Addr}, j ≠ i → Γ[j]? = some (some (true, e)) → σ[j]? = some (some (.ref q)) → q ≠ p := fun {j e q} hj g1 g2 z => by
    subst z; exact E.loc.dis j i e d q hj g1 h g2 h1
  refine ⟨_, ⟨⟨by rw [List.length_set]; exact E.loc.len, st.ext, fun j e hj => ?_, fun j e hj => ?_, fun j l a b q hjl g1 g2 g3 g4 => ?_⟩, st, fun j e q g1 g2 => ?_⟩, le⟩
  · rcases set_get hj with ⟨rfl, he⟩ | ⟨_, hj⟩
    · cases he; exact ⟨_, h1, r⟩
    · obtain ⟨v, a1, a2⟩ := E.loc.val j e hj; exact ⟨v, a1, a2.mono le⟩
  · rcases set_get hj with ⟨rfl, he⟩ | ⟨hji, hj⟩
    · cases he
    · obtain ⟨q, a1, a2, a3⟩ := E.loc.own j e hj
      exact ⟨q, a1, by rw [gupd_ne (gn hji hj a1)]; exact a2, a3.mono le fun o h => h⟩
  · rcases set_get g1 with ⟨rfl, he⟩ | ⟨_, g1⟩
    · cases he
    · rcases set_get g2 with ⟨rfl, he⟩ | ⟨_, g2⟩
      · cases he
      · exact E.loc.dis j l a b q hjl g1 g2 g3 g4
  · rcases set_get g1 with ⟨rfl, he⟩ | ⟨_, g1⟩
    · cases he
    · exact E.lent j e q g1 g2
/-- an own object changed -/
theorem EnvOk.write {i : Nat} {d d' : D} {p : Addr} {o : HO} (E : EnvOk K F G H σ Γ) (h : Γ[i]? = some (some (true, d))) (hp : σ[i]? = some (some (.ref p))) (w : OwnAt K G (upd H p o) p d') : EnvOk K F G (upd H p o) σ (Γ.set i (some (true, d'))) := by
  obtain ⟨p', h1, h2, h3⟩ := E.loc.own i d h
  rw [hp] at h1; cases h1
  have gn : ∀ {j : Nat} {e : D} {q : Addr}, j ≠ i → Γ[j]? = some (some (true, e)) → σ[j]? = some (some (.ref q)) → q ≠ p := fun {j e q} hj g1 g2 z => by
    subst z; exact E.loc.dis j i e d q hj g1 h g2 hp
  have st : Step F.B F.G0 F.H0 G (upd H p o) := E.step.write (E.lent i d p h hp) h2
  refine ⟨⟨by rw [List.length_set]; exact E.loc.len, st.ext, fun j e hj => ?_, fun j e hj => ?_, fun j l a b q hjl g1 g2 g3 g4 => ?_⟩, st, fun j e q g1 g2 => ?_⟩
  · rcases set_get hj with ⟨rfl, he⟩ | ⟨_, hj⟩
    · cases he
    · exact E.loc.val j e hj
  · rcases set_get hj with ⟨rfl, he⟩ | ⟨hji, hj⟩
    · cases he; exact ⟨p, hp, h2, w⟩
    · obtain ⟨q, a1, a2, a3⟩ := E.loc.own j e hj
      exact ⟨q, a1, a2, a3.mono (Le.refl _) fun u hu => by rw [upd_ne (gn hji hj a1)]; exact hu⟩
  · have g1' : ∃ a', Γ[j]? = some (some (true, a')) := by
      rcases set_get g1 with ⟨rfl, _⟩ | ⟨_, g1⟩
      · exact ⟨d, h⟩
      · exact ⟨a, g1⟩
    have g2' : ∃ a', Γ[l]? = some (some (true, a')) := by
      rcases set_get g2 with ⟨rfl, _⟩ | ⟨_, g2⟩
      · exact ⟨d, h⟩
      · exact ⟨b, g2⟩
    obtain ⟨a', g1'⟩ := g1'
    obtain ⟨b', g2'⟩ := g2'
    exact E.loc.dis j l a' b' q hjl g1' g2' g3 g4
  · rcases set_get g1 with ⟨rfl, he⟩ | ⟨_, g1⟩
    · exact E.lent j d q h g2
    · exact E.lent j e q g1 g2
end

section
variable {X : Cx} {ex : EX} {Γ : En} {P : Po} {pos p apos : Pos}
/-! ### blocks -/
theorem wd_nil (h : P.nx Γ) : WD X ex [] Γ P := by
  intro F σ G H E W xk Dn lk
  exact tWs_of pss_nil (lk.nx G H σ Γ h E (Le.refl _))
theorem wd_cons {st : Stmt} {rest : List Stmt} (h : W1 X ex st Γ { P with nx := fun Γ' => WD X ex rest Γ' P }) : WD X ex (st :: rest) Γ P := by
  intro F σ G H E W xk Dn lk
  refine tWs_of (pss_cons (t := tW1 X st) (u := tWs X rest) ps_W pss_W) ?_
  exact h F σ G H E W xk { Dn with nx := fun σ' H' => tWs X rest Dn σ' H' } ⟨fun G' H' σ' Γ' h' E' l => h' F σ' G' H' E' W (xk.go l) Dn (lk.go l), lk.rt, lk.bk, lk.ct, lk.nb⟩
theorem wd_one {st : Stmt} (h : W1 X ex st Γ P) : WD X ex [st] Γ P := by
  intro F σ G H E W xk Dn lk
  exact tWs_of (pss_one (t := tW1 X st) ps_W) (h F σ G H E W xk Dn lk)
theorem WD.imp {st : List Stmt} {P' : Po} (h : WD X ex st Γ P) (k1 : ∀ Γ', P.nx Γ' → P'.nx Γ') (k2 : ∀ o d Γ', P.rt o d Γ' → P'.rt o d Γ') (k3 : ∀ Γ', P.bk Γ' → P'.bk Γ') (k4 : ∀ Γ', P.ct Γ' → P'.ct Γ') (k5 : P.lb = P'.lb) : WD X ex st Γ P' :=
  fun F σ G H E W xk Dn lk => h F σ G H E W xk Dn ⟨fun G' H' σ' Γ' h' => lk.nx G' H' σ' Γ' (k1 Γ' h'), fun o d v G' H' σ' Γ' h' => lk.rt o d v G' H' σ' Γ' (k2 o d Γ' h'), fun G' H' σ' Γ' h' => lk.bk G' H' σ' Γ' (k3 Γ' h'), fun G' H' σ' Γ' h' => lk.ct G' H' σ' Γ' (k4 Γ' h'), fun a h => by rw [k5]; exact lk.nb a h⟩
/-- a slot forgotten, ahead of statements -/
theorem wd_drop (i : Nat) {st : List Stmt} (h : WD X ex st (Γ.set i none) P) : WD X ex st Γ P := fun F σ G H E W xk Dn lk => h F σ G H E.drop W xk Dn lk

/-- an own slot known, ahead of statements -/
theorem wd_know (i : Nat) {d : D} {st : List Stmt} (hΓ : Γ[i]? = some (some (true, d))) (h : WD X ex st (Γ.set i (some (false, d))) P) (hB : P.lb = [] := by rfl) : WD X ex st Γ P := fun F σ G H E W xk Dn lk => by
  obtain ⟨G', E', le⟩ := E.know (fun a h => by have := lk.nb a h; rw [hB] at this; cases this) hΓ
  exact h F σ G' H E' W (xk.go le) Dn (lk.go le)

/-! ### small statements -/
theorem w_pass (h : P.nx Γ) : W1 X ex (.Pass pos) Γ P := fun F σ G H E W xk Dn lk => tW1_of ps_pass (lk.nx G H σ Γ h E (Le.refl _))
theorem w_break (h : P.bk Γ) : W1 X ex (.Break pos) Γ P := fun F σ G H E W xk Dn lk => tW1_of ps_break (lk.bk G H σ Γ h E (Le.refl _))
theorem w_continue (h : P.ct Γ) : W1 X ex (.Continue pos) Γ P := fun F σ G H E W xk Dn lk => tW1_of ps_continue (lk.ct G H σ Γ h E (Le.refl _))
/-- x = e -/
theorem w_asg {x : Str} {e : Expr} {i : Nat} {p' : Pos} (hN : X.N.Nodup) (hi : X.N[i]? = some x) (hx : L2.Loc X.env.scope x)
    (h : ED X (fun x => ex x Γ) e Γ fun o d => P.nx (Γ.set i (some (o, d)))) (hs : swapsWith e (some (.Name x p')) pos.line X.env = pure false := by rfl)
    (hf : X.fn x = true ∨ X.env.scope.names.lookup x = some .local := by first | exact .inl rfl | exact .inr rfl) : W1 X ex (.Assign [.Name x p'] e pos) Γ P := by
  intro F σ G H E W xk Dn lk
  refine tW1_of (ps_set hN hi hx (te := tW X e) pe_W hs hf) ?_
  refine h σ G H E.loc W xk.te (xk.lk.at E) _ fun o d v G1 H1 h1 s1 r1 => ?_
  cases o with
  | false => exact lk.nx G1 H1 _ _ h1 ((E.go s1).setv r1) s1.le
  | true =>
    obtain ⟨q, rfl, hn, n, w⟩ := r1
    exact lk.nx G1 H1 _ _ h1 (E.seto s1 hn n w) s1.le
/-- an expression alone -/
theorem w_expr {e : Expr} (h : ED X (fun x => ex x Γ) e Γ fun _ _ => P.nx Γ) (hs : swapsWith e none pos.line X.env = pure false := by rfl) : W1 X ex (.Expr e pos) Γ P := by
  intro F σ G H E W xk Dn lk
  refine tW1_of (ps_expr (te := tW X e) pe_W hs) ?_
  exact h σ G H E.loc W xk.te (xk.lk.at E) _ fun o d v G1 H1 h1 s1 r1 => lk.nx G1 H1 _ _ h1 (E.go s1) s1.le
theorem w_ret {e : Expr} (h : ED X (fun x => ex x Γ) e Γ fun o d => P.rt o d Γ) : W1 X ex (.Return (some e) pos) Γ P := by
  intro F σ G H E W xk Dn lk
  refine tW1_of (ps_ret (te := tW X e) pe_W) ?_
  exact h σ G H E.loc W xk.te (xk.lk.at E) _ fun o d v G1 H1 h1 s1 r1 => lk.rt o d v G1 H1 σ Γ h1 (E.go s1) (r1.back E.step) s1.le
theorem w_retN (h : P.rt false .non Γ) : W1 X ex (.Return none pos) Γ P := by
  intro F σ G H E W xk Dn lk
  exact tW1_of ps_retN (lk.rt false .non _ G H σ Γ h E .non (Le.refl _))
/-- an own list (dict) of the def's own is handed back: its slot is forgotten -/
theorem w_retO {x : Str} {i : Nat} {d : D} (hN : X.N[i]? = some x) (hv : Vis X.env.scope x) (hΓ : Γ[i]? = some (some (true, d))) (hB : P.lb = [])
    (h : P.rt true d (Γ.set i none)) (hd : (x == ("__debug__" : Str)) = false := by decide) (hcd : (x == ("__classdict__" : Str)) = false := by decide) : W1 X ex (.Return (some (.Name x p)) pos) Γ P := by
  intro F σ G H E W xk Dn lk
  refine tW1_of (ps_ret (pe_var hN hv hd hcd)) ?_
  obtain ⟨q, h1, h2, h3⟩ := E.loc.own i d hΓ
  exact ⟨_, h1, lk.rt true d _ G H σ _ h E.drop ⟨q, rfl, (E.lent i d q hΓ h1).resolve_right (fun h => by have := lk.nb q h; rw [hB] at this; cases this), h2, h3⟩ (Le.refl _)⟩
theorem w_if {c : Expr} {a b : List Stmt} (h : ET X (fun x => ex x Γ) c (frz Γ) fun t => (t = true → WD X ex a Γ P) ∧ (t = false → WD X ex b Γ P)) : W1 X ex (.If c a b pos) Γ P := by
  intro F σ G H E W xk Dn lk
  refine tW1_of (ps_if (tc := tWt X c) (t := tWs X a) (u := tWs X b) pt_W pss_W pss_W) ?_
  refine et_flat h σ G H E.loc W xk.te (xk.lk.at E) _ fun t G1 H1 h1 s1 => ?_
  cases t with
  | true => exact iteT (h1.1 rfl F σ G1 H1 (E.go s1) W (xk.go s1.le) Dn (lk.go s1.le))
  | false => exact iteF (h1.2 rfl F σ G1 H1 (E.go s1) W (xk.go s1.le) Dn (lk.go s1.le))
end
end DL

/-! DL6: changes of own things, targets, loops. -/
namespace DL
open PySem L2
section
variable {X : Cx} {ex : EX} {Γ : En} {P : Po} {pos p apos : Pos}
theorem ty_list {K : PySem.W.Frag} {H : Hp} {q : Addr} {vs : List V} (h : H q = some (.lst vs)) : tyV K "list" (.ref q) H := .inl ⟨rfl, _, SqL.of h⟩
/-- x.append(e) -/
theorem w_app {x : Str} {i : Nat} {xs : List D} {e : Expr} (hN : X.N[i]? = some x) (hv : Vis X.env.scope x) (hΓ : Γ[i]? = some (some (true, .lst xs)))
    (h : ED X (fun x => ex x Γ) e Γ fun _ d => xs.length < sizeLine ∧ P.nx (Γ.set i (some (true, .lst (xs ++ [d])))))
    (hs : swapsWith (.Call (.Attribute (.Name x p) "append" apos) [e] [] pos) none pos.line X.env = pure false := by rfl)
    (hbase : attributeBase (.Name x p) "append" X.env (eval (.Name x p) X.env) = eval (.Name x p) X.env := by rfl)
    (hfew : ((backTo pos (starEach [e] X.env)).all (fun x => !x.1) && (backToKw pos (keywordEach [] X.env)).all (fun x => x.1.isSome)
      && decide (([e] : List Expr).length + ([] : List Keyword).length + (if ([] : List Keyword).isEmpty then 0 else 1) < 30)) = true := by rfl)
    (hline : (apos.endLine == pos.line) = true := by rfl) (hs1 : starEach (e :: []) X.env = (false, eval e X.env) :: starEach [] X.env := by rfl) (hpl : (backTo pos (starEach [] X.env)).any (·.1) = false := by rfl)
    (hd : (x == ("__debug__" : Str)) = false := by decide) (hcd : (x == ("__classdict__" : Str)) = false := by decide) : W1 X ex (.Expr (.Call (.Attribute (.Name x p) "append" apos) [e] [] pos) pos) Γ P := by
  intro F σ G H E W xk Dn lk
  refine tW1_of (ps_expr (pe_bm PySem.F.plainAttrs_list PySem.F.slot_list_append PySem.F.type_list_append mt_append (pe_var hN hv hd hcd) (pa_cons (te := tW X e) (t := tWa X []) pe_W pa_W hs1) hbase hfew hline hs1 hpl) hs) ?_
  obtain ⟨q, h1, h2, h3⟩ := E.loc.own i _ hΓ
  cases h3 with
  | lst hp r =>
    refine ⟨_, h1, ty_list hp, ?_⟩
    refine ED.use (R := fun _ d => xs.length < sizeLine ∧ P.nx (Γ.set i (some (true, .lst (xs ++ [d]))))) (h.imp fun _ _ h => h) E.loc xk.te (xk.lk.at E) fun d v G1 H1 hR s1 r1 => ?_
    refine (ea_nil (ex := fun _ => False) (R := fun ds => ds = []) rfl) σ G1 H1 (E.loc.go s1) (fun _ _ _ _ => False) (.of takes0) (fun _ _ _ _ _ hx => hx.elim) _ fun ds vs G2 H2 e2 s2 r2 => ?_
    subst e2
    cases r2
    have E2 := (E.go s1).go s2
    have hp2 := s2.kept q _ (s1.kept q _ hp h2 id) (s1.gfree hp h2) id
    refine ⟨q, _, v, rfl, rfl, hp2, by rw [← r.length]; exact hR.1, ?_⟩
    refine lk.nx G2 _ σ _ hR.2 (E2.write hΓ h1 (.lst upd_same ?_)) (s1.trans s2).le
    exact ((r.mono (s1.trans s2).le)).append (.cons (r1.mono s2.le) .nil)

/-- x[i] = e, x an own list -/
theorem w_setI {x : Str} {i : Nat} {xs : List D} {e ix : Expr} {p2 : Pos} (hN : X.N[i]? = some x) (hv : Vis X.env.scope x) (hΓ : Γ[i]? = some (some (true, .lst xs)))
    (h : ED X (fun x => ex x Γ) e Γ fun _ d => ED X (fun x => ex x Γ) ix Γ fun _ y => ∃ n j, y = .int n ∧ ixN xs.length n = some j ∧ P.nx (Γ.set i (some (true, .lst (xs.set j d)))))
    (ha : ∀ v, assign (.Subscript (.Name x p) ix p2) X.env v = (do
      let ov ← holding [v] (eval (.Name x p) X.env)
      let iv ← holding [v, ov] (eval ix X.env)
      standAt p2
      holding [v, ov, iv] (setItem ov iv v)
      release [v, ov, iv] []) := by intro _; rfl)
    (hs : swapsWithSole [.Subscript (.Name x p) ix p2] e pos.line X.env = pure false := by rfl) (hw : swappedStores [.Subscript (.Name x p) ix p2] e X.env = pure none := by rfl)
    (h1 : (assignEach [.Subscript (.Name x p) ix p2] X.env).map (·.2) = [assign (.Subscript (.Name x p) ix p2) X.env] := by rfl)
    (hd : (x == ("__debug__" : Str)) = false := by decide) (hcd : (x == ("__classdict__" : Str)) = false := by decide) : W1 X ex (.Assign [.Subscript (.Name x p) ix p2] e pos) Γ P := by
  intro F σ G H E W xk Dn lk
  refine tW1_of (ps_asg (te := tW X e) pe_W (pg_sub (ti := tW X ix) (pe_var hN hv hd hcd) pe_W set_list ha) hs hw h1) ?_
  refine ED.use (R := fun _ d => ED X (fun x => ex x Γ) ix Γ fun _ y => ∃ n j, y = .int n ∧ ixN xs.length n = some j ∧ P.nx (Γ.set i (some (true, .lst (xs.set j d))))) (h.imp fun _ _ h => h) E.loc xk.te (xk.lk.at E) fun d v G1 H1 hR s1 r1 => ?_
  have E1 := E.go s1
  obtain ⟨q, h1, h2, h3⟩ := E1.loc.own i _ hΓ
  cases h3 with
  | lst hp r =>
    refine ⟨_, h1, ?_⟩
    refine ED.use (R := fun _ y => ∃ n j, y = .int n ∧ ixN xs.length n = some j ∧ P.nx (Γ.set i (some (true, .lst (xs.set j d))))) (hR.imp fun _ _ h => h) E1.loc xk.te (xk.lk.at E1 s1.le) fun y w G2 H2 hR2 s2 r2 => ?_
    obtain ⟨n, j, rfl, hj, hR2⟩ := hR2
    cases r2
    have E2 := E1.go s2
    have hp2 := s2.kept q _ hp h2 id
    refine ⟨q, _, n, j, rfl, rfl, hp2, by rw [← r.length]; exact hj, ?_⟩
    exact lk.nx G2 _ σ _ hR2 (E2.write hΓ h1 (.lst upd_same ((r.mono s2.le).set (r1.mono s2.le) j))) (s1.trans s2).le

def putD {κ : Type} [DecidableEq κ] (kvs : List (κ × D)) (k : κ) (v : D) : List (κ × D) :=
  if (kvs.any fun kv => decide (kv.1 = k)) = true then kvs.map (fun kv => if kv.1 = k then (kv.1, v) else kv) else kvs ++ [(k, v)]
theorem RepK.snoc {K : PySem.W.Frag} {G : Gh} {k : Key} {d : D} {v : V} (r : Rep K G d v) : ∀ {xs : List (Key × D)} {vs : List (Key × V)}, RepK K G xs vs → RepK K G (xs ++ [(k, d)]) (vs ++ [(k, v)])
  | _, _, .nil => .cons r .nil
  | _, _, .cons q t => .cons q (RepK.snoc r t)
theorem RepT.snoc {K : PySem.W.Frag} {G : Gh} {k : List Key} {d : D} {v : V} (r : Rep K G d v) : ∀ {xs : List (List Key × D)} {vs : List (List Key × V)}, RepT K G xs vs → RepT K G (xs ++ [(k, d)]) (vs ++ [(k, v)])
  | _, _, .nil => .cons r .nil
  | _, _, .cons q t => .cons q (RepT.snoc r t)
theorem RepK.any {K : PySem.W.Frag} {G : Gh} {k : Key} : ∀ {xs : List (Key × D)} {vs : List (Key × V)}, RepK K G xs vs → (xs.any fun kv => decide (kv.1 = k)) = (vs.any fun kv => decide (kv.1 = k))
  | _, _, .nil => rfl
  | _, _, .cons q t => by rw [List.any_cons, List.any_cons, RepK.any t]
theorem RepT.any {K : PySem.W.Frag} {G : Gh} {k : List Key} : ∀ {xs : List (List Key × D)} {vs : List (List Key × V)}, RepT K G xs vs → (xs.any fun kv => decide (kv.1 = k)) = (vs.any fun kv => decide (kv.1 = k))
  | _, _, .nil => rfl
  | _, _, .cons q t => by rw [List.any_cons, List.any_cons, RepT.any t]
theorem RepK.sets {K : PySem.W.Frag} {G : Gh} {k : Key} {d : D} {v : V} (r : Rep K G d v) : ∀ {xs : List (Key × D)} {vs : List (Key × V)}, RepK K G xs vs → RepK K G (xs.map (fun kv => if kv.1 = k then (kv.1, d) else kv)) (vs.map (fun kv => if kv.1 = k then (kv.1, v) else kv))
  | _, _, .nil => .nil
  | _, _, .cons (k := k') q t => by
    rw [List.map_cons, List.map_cons]
    by_cases e : k' = k
    · rw [if_pos e, if_pos e]; exact .cons r (RepK.sets r t)
    · rw [if_neg e, if_neg e]; exact .cons q (RepK.sets r t)
theorem RepT.sets {K : PySem.W.Frag} {G : Gh} {k : List Key} {d : D} {v : V} (r : Rep K G d v) : ∀ {xs : List (List Key × D)} {vs : List (List Key × V)}, RepT K G xs vs → RepT K G (xs.map (fun kv => if kv.1 = k then (kv.1, d) else kv)) (vs.map (fun kv => if kv.1 = k then (kv.1, v) else kv))
  | _, _, .nil => .nil
  | _, _, .cons (k := k') q t => by
    rw [List.map_cons, List.map_cons]
    by_cases e : k' = k
    · rw [if_pos e, if_pos e]; exact .cons r (RepT.sets r t)
    · rw [if_neg e, if_neg e]; exact .cons q (RepT.sets r t)
theorem RepK.put {K : PySem.W.Frag} {G : Gh} {k : Key} {d : D} {v : V} (r : Rep K G d v) {xs : List (Key × D)} {vs : List (Key × V)} (q : RepK K G xs vs) : RepK K G (putD xs k d) (putK vs k v) := by
  unfold putD putK
  rw [q.any]
  by_cases e : (vs.any fun kv => decide (kv.1 = k)) = true
  · rw [if_pos e, if_pos e]; exact q.sets r
  · rw [if_neg e, if_neg e]; exact q.snoc r
theorem RepT.put {K : PySem.W.Frag} {G : Gh} {k : List Key} {d : D} {v : V} (r : Rep K G d v) {xs : List (List Key × D)} {vs : List (List Key × V)} (q : RepT K G xs vs) : RepT K G (putD xs k d) (putK vs k v) := by
  unfold putD putK
  rw [q.any]
  by_cases e : (vs.any fun kv => decide (kv.1 = k)) = true
  · rw [if_pos e, if_pos e]; exact q.sets r
  · rw [if_neg e, if_neg e]; exact q.snoc r
/-- a dict with one more entry, or a changed one -/
inductive PutD : D → D → D → D → Prop
  | k {kvs : List (Key × D)} (k : Key) (v : D) : kvs.length < sizeLine → PutD (.dK kvs) (kD k) v (.dK (putD kvs k v))
  | t {kvs : List (List Key × D)} (k : List Key) (v : D) : kvs.length < sizeLine → PutD (.dT kvs) (.tup (k.map kD)) v (.dT (putD kvs k v))
/-- x[k] = e, x an own dict -/
theorem w_dput {x : Str} {i : Nat} {dd : D} {e ix : Expr} {p2 : Pos} (hN : X.N[i]? = some x) (hv : Vis X.env.scope x) (hΓ : Γ[i]? = some (some (true, dd)))
    (h : ED X (fun x => ex x Γ) e Γ fun _ d => ED X (fun x => ex x Γ) ix Γ fun _ y => ∃ dd', PutD dd y d dd' ∧ P.nx (Γ.set i (some (true, dd'))))
    (hu : X.A.units + 1 < cLine) (hs : swapsWith e (some (.Subscript (.Name x p) ix p2)) pos.line X.env = pure false := by rfl)
    (hd : (x == ("__debug__" : Str)) = false := by decide) (hcd : (x == ("__classdict__" : Str)) = false := by decide) : W1 X ex (.Assign [.Subscript (.Name x p) ix p2] e pos) Γ P := by
  intro F σ G H E W xk Dn lk
  refine tW1_of (ps_dput hu (tv := tW X e) (ty := tW X ix) (pe_var hN hv hd hcd) pe_W pe_W hs) ?_
  refine ED.use (R := fun _ d => ED X (fun x => ex x Γ) ix Γ fun _ y => ∃ dd', PutD dd y d dd' ∧ P.nx (Γ.set i (some (true, dd')))) (h.imp fun _ _ h => h) E.loc xk.te (xk.lk.at E) fun d v G1 H1 hR s1 r1 => ?_
  have E1 := E.go s1
  obtain ⟨q, h1, h2, h3⟩ := E1.loc.own i _ hΓ
  refine ⟨_, h1, ?_⟩
  refine ED.use (R := fun _ y => ∃ dd', PutD dd y d dd' ∧ P.nx (Γ.set i (some (true, dd')))) (hR.imp fun _ _ h => h) E1.loc xk.te (xk.lk.at E1 s1.le) fun y w G2 H2 hR2 s2 r2 => ?_
  obtain ⟨dd', hput, hR2⟩ := hR2
  have E2 := E1.go s2
  cases hput with
  | k k v' hl =>
    cases h3 with
    | dK hp r =>
      have hp2 := s2.kept q _ hp h2 id
      rw [rep_kD r2]
      refine ⟨q, _, rfl, DPut.k hp2 (by rw [← r.length]; exact hl), ?_⟩
      exact lk.nx G2 _ σ _ hR2 (E2.write hΓ h1 (.dK upd_same (RepK.put (r1.mono s2.le) (r.mono s2.le)))) (s1.trans s2).le
  | t k v' hl =>
    cases h3 with
    | dT hp r =>
      have hp2 := s2.kept q _ hp h2 id
      cases r2 with
      | tup ht qt =>
        rw [rep_kDs qt] at ht
        refine ⟨q, _, rfl, DPut.t hp2 (s2.ext _ _ ht) (by rw [← r.length]; exact hl), ?_⟩
        exact lk.nx G2 _ σ _ hR2 (E2.write hΓ h1 (.dT upd_same (RepT.put (r1.mono s2.le) (r.mono s2.le)))) (s1.trans s2).le
/-- {} -/
theorem ed_dnewK {ex : Exn → Prop} {R : Bool → D → Prop} (h : R true (.dK [])) : ED X ex (.Dict [] [] pos) Γ R := by
  intro σ G H E W tk xa Q k
  exact tW_of pe_dnewK fun q hq => k true _ _ G _ h (.alloc E.ext hq) ⟨q, rfl, hq, E.ext.gfree hq, .dK upd_same .nil⟩
theorem ed_dnewT {ex : Exn → Prop} {R : Bool → D → Prop} (h : R true (.dT [])) : ED X ex (.Dict [] [] pos) Γ R := by
  intro σ G H E W tk xa Q k
  exact tW_of pe_dnewT fun q hq => k true _ _ G _ h (.alloc E.ext hq) ⟨q, rfl, hq, E.ext.gfree hq, .dT upd_same .nil⟩
/-- x += e, ints -/
theorem w_augAdd {x : Str} {i : Nat} {a : Int} {e : Expr} {p' : Pos} (hN : X.N.Nodup) (hi : X.N[i]? = some x) (hx : L2.Loc X.env.scope x) (hΓ : Γ[i]? = some (some (false, .int a)))
    (h : ED X (fun x => ex x Γ) e Γ fun _ d => ∃ b, d = .int b ∧ P.nx (Γ.set i (some (false, .int (a + b)))))
    (hf : X.fn x = true ∨ X.env.scope.names.lookup x = some .local := by first | exact .inl rfl | exact .inr rfl) : W1 X ex (.AugAssign (.Name x p') .Add e pos) Γ P := by
  intro F σ G H E W xk Dn lk
  refine tW1_of (ps_aug hN hi hx (te := tW X e) pe_W ip_add hf) ?_
  obtain ⟨v, h1, h2⟩ := E.loc.val i _ hΓ
  cases h2
  refine ⟨_, h1, ?_⟩
  refine ED.use (R := fun _ d => ∃ b, d = .int b ∧ P.nx (Γ.set i (some (false, .int (a + b))))) (h.imp fun _ _ h => h) E.loc xk.te (xk.lk.at E) fun d v G1 H1 hR s1 r1 => ?_
  obtain ⟨b, rfl, hR⟩ := hR
  cases r1
  exact ⟨a, b, rfl, rfl, lk.nx G1 H1 _ _ hR ((E.go s1).setv .int) s1.le⟩
theorem w_augSub {x : Str} {i : Nat} {a : Int} {e : Expr} {p' : Pos} (hN : X.N.Nodup) (hi : X.N[i]? = some x) (hx : L2.Loc X.env.scope x) (hΓ : Γ[i]? = some (some (false, .int a)))
    (h : ED X (fun x => ex x Γ) e Γ fun _ d => ∃ b, d = .int b ∧ P.nx (Γ.set i (some (false, .int (a - b)))))
    (hf : X.fn x = true ∨ X.env.scope.names.lookup x = some .local := by first | exact .inl rfl | exact .inr rfl) : W1 X ex (.AugAssign (.Name x p') .Sub e pos) Γ P := by
  intro F σ G H E W xk Dn lk
  refine tW1_of (ps_aug hN hi hx (te := tW X e) pe_W ip_sub hf) ?_
  obtain ⟨v, h1, h2⟩ := E.loc.val i _ hΓ
  cases h2
  refine ⟨_, h1, ?_⟩
  refine ED.use (R := fun _ d => ∃ b, d = .int b ∧ P.nx (Γ.set i (some (false, .int (a - b))))) (h.imp fun _ _ h => h) E.loc xk.te (xk.lk.at E) fun d v G1 H1 hR s1 r1 => ?_
  obtain ⟨b, rfl, hR⟩ := hR
  cases r1
  exact ⟨a, b, rfl, rfl, lk.nx G1 H1 _ _ hR ((E.go s1).setv .int) s1.le⟩

/-! ### targets -/
theorem td_name {x : Str} {i : Nat} {d : D} {R : En → Prop} (hN : X.N.Nodup) (hi : X.N[i]? = some x) (hx : L2.Loc X.env.scope x) (h : R (Γ.set i (some (false, d)))) (hf : X.fn x = true ∨ X.env.scope.names.lookup x = some .local := by first | exact .inl rfl | exact .inr rfl) : TD X (.Name x pos) d Γ R := by
  intro F σ G H E v r Q k
  exact tWg_of (pg_name hN hi hx hf) (k _ _ G H h (E.setv r) (.refl E.loc.ext))
/-- two names -/
theorem td_two {t1 t2 : Expr} {k1 : Nat} {d1 d2 : D} {R : En → Prop} (hc : X.calm = true) (h : TD X t1 d1 Γ fun Γ' => TD X t2 d2 Γ' R)
    (hn : (assignEach [t1, t2] X.env).length = 2 := by rfl) (hst : (assignEach [t1, t2] X.env).findIdx? (·.1) = none := by rfl)
    (ha : (assignEach [t1, t2] X.env).map (·.2) = assign t1 X.env :: (assignEach [t2] X.env).map (·.2) := by rfl) (hb : (assignEach [t2] X.env).map (·.2) = assign t2 X.env :: (assignEach [] X.env).map (·.2) := by rfl) : TD X (.Tuple [t1, t2] k1 pos) (.tup [d1, d2]) Γ R := by
  intro F σ G H E v r Q k
  refine tWg_of (pg_tup hc (pgs_cons (t := tWg X t1) pg_W (pgs_cons (t := tWg X t2) pg_W pgs_nil hb) ha) hn hst) ?_
  cases r with
  | tup hp q =>
    obtain ⟨v1, v2, rfl, r1, r2⟩ := rep2 q
    refine ⟨_, _, rfl, SqT.of (E.loc.ext _ _ hp), rfl, v1, [v2], rfl, ?_⟩
    refine h F σ G H E v1 r1 _ fun Γ1 σ1 G1 H1 h1 E1 s1 => ?_
    refine ⟨v2, [], rfl, ?_⟩
    exact h1 F σ1 G1 H1 E1 v2 (r2.mono s1.le) _ fun Γ2 σ2 G2 H2 h2 E2 s2 => ⟨rfl, k Γ2 σ2 G2 H2 h2 E2 (s1.trans s2)⟩
theorem td_three {t1 t2 t3 : Expr} {k1 : Nat} {d1 d2 d3 : D} {R : En → Prop} (hc : X.calm = true) (h : TD X t1 d1 Γ fun Γ' => TD X t2 d2 Γ' fun Γ' => TD X t3 d3 Γ' R)
    (hn : (assignEach [t1, t2, t3] X.env).length = 3 := by rfl) (hst : (assignEach [t1, t2, t3] X.env).findIdx? (·.1) = none := by rfl)
    (ha : (assignEach [t1, t2, t3] X.env).map (·.2) = assign t1 X.env :: (assignEach [t2, t3] X.env).map (·.2) := by rfl) (hb : (assignEach [t2, t3] X.env).map (·.2) = assign t2 X.env :: (assignEach [t3] X.env).map (·.2) := by rfl)
    (hb3 : (assignEach [t3] X.env).map (·.2) = assign t3 X.env :: (assignEach [] X.env).map (·.2) := by rfl) : TD X (.Tuple [t1, t2, t3] k1 pos) (.tup [d1, d2, d3]) Γ R := by
  intro F σ G H E v r Q k
  refine tWg_of (pg_tup hc (pgs_cons (t := tWg X t1) pg_W (pgs_cons (t := tWg X t2) pg_W (pgs_cons (t := tWg X t3) pg_W pgs_nil hb3) hb) ha) hn hst) ?_
  cases r with
  | tup hp q =>
    cases q with
    | cons r1 q =>
      obtain ⟨v2, v3, rfl, r2, r3⟩ := rep2 q
      refine ⟨_, _, rfl, SqT.of (E.loc.ext _ _ hp), rfl, _, [v2, v3], rfl, ?_⟩
      refine h F σ G H E _ r1 _ fun Γ1 σ1 G1 H1 h1 E1 s1 => ?_
      refine ⟨v2, [v3], rfl, ?_⟩
      refine h1 F σ1 G1 H1 E1 v2 (r2.mono s1.le) _ fun Γ2 σ2 G2 H2 h2 E2 s2 => ⟨v3, [], rfl, ?_⟩
      exact h2 F σ2 G2 H2 E2 v3 (r3.mono (s1.trans s2).le) _ fun Γ3 σ3 G3 H3 h3 E3 s3 => ⟨rfl, k Γ3 σ3 G3 H3 h3 E3 ((s1.trans s2).trans s3)⟩
/-- target = e, any target -/
theorem w_asgT {tg e : Expr} (h : ED X (fun x => ex x Γ) e Γ fun _ d => TD X tg d Γ P.nx) (hs : swapsWithSole [tg] e pos.line X.env = pure false := by rfl) (hw : swappedStores [tg] e X.env = pure none := by rfl)
    (h1 : (assignEach [tg] X.env).map (·.2) = [assign tg X.env] := by rfl) : W1 X ex (.Assign [tg] e pos) Γ P := by
  intro F σ G H E W xk Dn lk
  refine tW1_of (ps_asg (te := tW X e) pe_W (g := tWg X tg) pg_W hs hw h1) ?_
  refine ED.use (R := fun _ d => TD X tg d Γ P.nx) (h.imp fun _ _ h => h) E.loc xk.te (xk.lk.at E) fun d v G1 H1 hR s1 r1 => ?_
  exact hR F σ G1 H1 (E.go s1) v r1 _ fun Γ' σ' G' H' hn E' s' => lk.nx G' H' σ' Γ' hn E' (s1.trans s').le

/-! ### loops -/
theorem w_for {tg it : Expr} {body : List Stmt} (hc : X.calm = true)
    (h : EI X (fun x => ex x Γ) tg it Γ fun ds => ∃ I : Nat → En → Prop, I 0 Γ ∧ (∀ i d Γ', ds[i]? = some d → I i Γ' → TD X tg d Γ' fun Γ'' => WD X ex body Γ'' { P with nx := I (i + 1), ct := I (i + 1), bk := P.nx }) ∧ ∀ Γ', I ds.length Γ' → P.nx Γ')
    (hs : ∀ x, foldedSetIterable it X.env x = pure x := by intro _; rfl) : W1 X ex (.For tg it body [] pos) Γ P := by
  intro F σ G H E W xk Dn lk
  obtain ⟨wi, hpi, hw⟩ := h
  refine tW1_of (ps_for xk.po hc hpi (g := tWg X tg) (tb := tWs X body) pg_W pss_W hs) ?_
  refine hw σ G H E.loc W xk.te (xk.lk.at E) _ fun J ds G1 H1 hR s1 sq => ?_
  obtain ⟨I, h0, hst, hend⟩ := hR
  refine ⟨fun i m σ' H' => m = ds.length - i ∧ i ≤ ds.length ∧ ∃ G' Γ', EnvOk X.K F G' H' σ' Γ' ∧ Le G1 G' ∧ I i Γ', ⟨ds.length, rfl, Nat.zero_le _, G1, Γ, E.go s1, Le.refl _, h0⟩, ?_⟩
  rintro i m σ' H' ⟨rfl, hi, G', Γ', E', le, hI⟩
  have e1 : Ext G1 H' := fun a g q => E'.loc.ext a g (le a g q)
  by_cases hlt : i < ds.length
  · refine .inr ⟨sq.go i H' hlt e1, fun σ2 H2 => ∃ G2 Γ2, EnvOk X.K F G2 H2 σ2 Γ2 ∧ Le G1 G2 ∧ I (i + 1) Γ2, fun σ2 H2 ⟨G2, Γ2, a, b, c⟩ => ⟨ds.length - (i + 1), by omega, rfl, hlt, G2, Γ2, a, b, c⟩, fun x H2 y => ?_⟩
    obtain ⟨G2, d, s2, hd, r⟩ := sq.give i G' H' x H2 hlt le E'.loc.ext y
    obtain ⟨d', ed', hd'⟩ : ∃ d', ds[i]? = some d' ∧ d' = d := ⟨d, hd, rfl⟩
    refine hst i d Γ' hd hI F σ' G2 H2 (E'.go s2) x r _ fun Γ3 σ3 G3 H3 h3 E3 s3 => ?_
    exact h3 F σ3 G3 H3 E3 W (xk.go (s1.le.trans (le.trans (s2.trans s3).le))) _ ⟨fun G4 H4 σ4 Γ4 h4 E4 l4 => ⟨G4, Γ4, E4, (le.trans (s2.trans s3).le).trans l4, h4⟩, fun o d v G4 H4 σ4 Γ4 h4 E4 r4 l4 => lk.rt o d v G4 H4 σ4 Γ4 h4 E4 r4 (s1.le.trans ((le.trans (s2.trans s3).le).trans l4)),
      fun G4 H4 σ4 Γ4 h4 E4 l4 => lk.nx G4 H4 σ4 Γ4 h4 E4 (s1.le.trans ((le.trans (s2.trans s3).le).trans l4)), fun G4 H4 σ4 Γ4 h4 E4 l4 => ⟨G4, Γ4, E4, (le.trans (s2.trans s3).le).trans l4, h4⟩, lk.nb⟩
  · have ei : i = ds.length := by omega
    subst ei
    exact .inl ⟨sq.stop H' e1, lk.nx G' H' σ' Γ' (hend Γ' hI) E' (s1.le.trans le)⟩
theorem w_while {c : Expr} {body : List Stmt} (h : ∃ I : Nat → En → Prop, (∃ m, I m Γ) ∧ ∀ m Γ', I m Γ' → ET X (fun x => ex x Γ') c (frz Γ') fun b => (b = true → WD X ex body Γ' { P with nx := fun Γ'' => ∃ m', m' < m ∧ I m' Γ'', ct := fun Γ'' => ∃ m', m' < m ∧ I m' Γ'', bk := P.nx }) ∧ (b = false → P.nx Γ')) : W1 X ex (.While c body [] pos) Γ P := by
  intro F σ G H E W xk Dn lk
  obtain ⟨I, ⟨m0, h0⟩, hst⟩ := h
  refine tW1_of (ps_while xk.po (tc := tWt X c) (tb := tWs X body) pt_W pss_W) ?_
  refine ⟨fun m σ' H' => ∃ G' Γ', EnvOk X.K F G' H' σ' Γ' ∧ Le G G' ∧ I m Γ', ⟨m0, G, Γ, E, Le.refl _, h0⟩, ?_⟩
  rintro m σ' H' ⟨G', Γ', E', le, hI⟩
  refine et_flat (hst m Γ' hI) σ' G' H' E'.loc W xk.te (xk.lk.at E' le) _ fun t G1 H1 h1 s1 => ?_
  have l1 := le.trans s1.le
  cases t with
  | false => exact iteF (lk.nx G1 H1 σ' Γ' (h1.2 rfl) (E'.go s1) l1)
  | true =>
    refine iteT ⟨fun σ2 H2 => ∃ m', m' < m ∧ ∃ G2 Γ2, EnvOk X.K F G2 H2 σ2 Γ2 ∧ Le G G2 ∧ I m' Γ2, fun σ2 H2 ⟨m', hm, z⟩ => ⟨m', hm, z⟩, ?_⟩
    exact h1.1 rfl F σ' G1 H1 (E'.go s1) W (xk.go l1) _ ⟨fun G4 H4 σ4 Γ4 ⟨m', hm, h4⟩ E4 l4 => ⟨m', hm, G4, Γ4, E4, l1.trans l4, h4⟩, fun o d v G4 H4 σ4 Γ4 h4 E4 r4 l4 => lk.rt o d v G4 H4 σ4 Γ4 h4 E4 r4 (l1.trans l4),
      fun G4 H4 σ4 Γ4 h4 E4 l4 => lk.nx G4 H4 σ4 Γ4 h4 E4 (l1.trans l4), fun G4 H4 σ4 Γ4 ⟨m', hm, h4⟩ E4 l4 => ⟨m', hm, G4, Γ4, E4, l1.trans l4, h4⟩, lk.nb⟩
end
end DL

/-! DL7: what is walked. -/
namespace DL
open PySem L2
theorem Le.ext {G G' : Gh} {H : Hp} (l : Le G G') (e : Ext G' H) : Ext G H := fun a g q => e a g (l a g q)
section
variable {K : PySem.W.Frag} {G : Gh}
theorem sq_list {p : Addr} {xs : List D} {vs : List V} (h : G p = some (.ho (.lst vs))) (r : Reps K G xs vs) : SeqOk K G (Itl K p) xs where
  go := fun i H hi e => walk_list.goes i H (by rw [← r.length]; exact hi) (SqL.of (e _ _ h))
  stop := fun H e => by rw [r.length]; exact walk_list.stops H (SqL.of (e _ _ h))
  give := fun i G' H x H' hi le e y => by
    obtain ⟨rfl, hx⟩ := walk_list.yields i H x H' (by rw [← r.length]; exact hi) (SqL.of (le.ext e _ _ h)) y
    obtain ⟨d, hd, rd⟩ := r.getv hx
    exact ⟨G', d, .refl e, hd, rd.mono le⟩
theorem sq_scr {p : Addr} {ns : List Int} (h : SqG K G p (ns.map V.int)) : SeqOk K G (Itl K p) (ns.map D.int) where
  go := fun i H hi e => walk_list.goes i H (by rw [List.length_map] at hi ⊢; exact hi) (h.sq e)
  stop := fun H e => by rw [List.length_map]; have := walk_list.stops H (h.sq e); rw [List.length_map] at this; exact this
  give := fun i G' H x H' hi le e y => by
    obtain ⟨rfl, hx⟩ := walk_list.yields i H x H' (by rw [List.length_map] at hi ⊢; exact hi) (h.sq (le.ext e)) y
    rw [List.getElem?_map] at hx
    cases q : ns[i]? with
    | none => rw [q] at hx; cases hx
    | some n => rw [q] at hx; cases hx; exact ⟨G', .int n, .refl e, by rw [List.getElem?_map, q]; rfl, .int⟩
theorem sq_tup {p : Addr} {xs : List D} {vs : List V} (h : G p = some (.ho (.tup vs))) (r : Reps K G xs vs) : SeqOk K G (Itt K p) xs where
  go := fun i H hi e => walk_tup.goes i H (by rw [← r.length]; exact hi) (SqT.of (e _ _ h))
  stop := fun H e => by rw [r.length]; exact walk_tup.stops H (SqT.of (e _ _ h))
  give := fun i G' H x H' hi le e y => by
    obtain ⟨rfl, hx⟩ := walk_tup.yields i H x H' (by rw [← r.length]; exact hi) (SqT.of (le.ext e _ _ h)) y
    obtain ⟨d, hd, rd⟩ := r.getv hx
    exact ⟨G', d, .refl e, hd, rd.mono le⟩
/-- the signs of a text, each a text -/
def signs (z : Str) : List Str := z.cps.toList.map fun c => ⟨#[c]⟩
theorem signs_length (z : Str) : (signs z).length = z.cps.size := by unfold signs; simp
theorem sq_str {z : Str} : SeqOk K G (Its z) ((signs z).map D.str) where
  go := fun i H hi e => walk_str.goes i H (by rw [List.length_map, signs_length] at hi; exact hi) trivial
  stop := fun H e => by rw [List.length_map, signs_length]; exact walk_str.stops H trivial
  give := fun i G' H x H' hi le e y => by
    rw [List.length_map, signs_length] at hi
    obtain ⟨rfl, c, hc, rfl⟩ := walk_str.yields i H x H' hi trivial y
    refine ⟨G', .str ⟨#[c]⟩, .refl e, ?_, .str⟩
    unfold signs
    rw [List.getElem?_map, List.getElem?_map, Array.getElem?_toList, hc]
    rfl
def rangeD (lo : Int) (n : Nat) : List D := (List.range n).map fun i => .int (lo + (i : Nat))
theorem rangeD_length (lo : Int) (n : Nat) : (rangeD lo n).length = n := by unfold rangeD; simp
theorem rangeD_get {lo : Int} {n i : Nat} {d : D} (h : (rangeD lo n)[i]? = some d) : i < n ∧ d = .int (lo + (i : Nat)) := by
  have hi : i < n := by have := (List.getElem?_eq_some_iff.mp h).1; rw [rangeD_length] at this; exact this
  unfold rangeD at h
  rw [List.getElem?_map, List.getElem?_range hi] at h
  cases h
  exact ⟨hi, rfl⟩
theorem sq_range {lo : Int} {n : Nat} : SeqOk K G (Itr lo n) (rangeD lo n) where
  go := fun i H hi e => walk_range.goes i H (by rw [rangeD_length] at hi; exact hi) trivial
  stop := fun H e => by rw [rangeD_length]; exact walk_range.stops H trivial
  give := fun i G' H x H' hi le e y => by
    rw [rangeD_length] at hi
    obtain ⟨rfl, rfl⟩ := (walk_range (lo := lo)).yields i H x H' hi trivial y
    refine ⟨G', .int (lo + (i : Nat)), .refl e, ?_, .int⟩
    unfold rangeD
    rw [List.getElem?_map, List.getElem?_range hi]
    rfl
def rangeCD (lo c : Int) (n : Nat) : List D := (List.range n).map fun i => .int (lo + (i : Nat) * c)
theorem rangeCD_length (lo c : Int) (n : Nat) : (rangeCD lo c n).length = n := by unfold rangeCD; simp
theorem rangeCD_get {lo c : Int} {n i : Nat} {d : D} (h : (rangeCD lo c n)[i]? = some d) : i < n ∧ d = .int (lo + (i : Nat) * c) := by
  have hi : i < n := by have := (List.getElem?_eq_some_iff.mp h).1; rw [rangeCD_length] at this; exact this
  unfold rangeCD at h
  rw [List.getElem?_map, List.getElem?_range hi] at h
  cases h
  exact ⟨hi, rfl⟩
theorem sq_rangeC {lo c : Int} {n : Nat} : SeqOk K G (Itc lo c n) (rangeCD lo c n) where
  go := fun i H hi e => walk_rangeC.goes i H (by rw [rangeCD_length] at hi; exact hi) trivial
  stop := fun H e => by rw [rangeCD_length]; exact walk_rangeC.stops H trivial
  give := fun i G' H x H' hi le e y => by
    rw [rangeCD_length] at hi
    obtain ⟨rfl, rfl⟩ := (walk_rangeC (lo := lo) (c := c)).yields i H x H' hi trivial y
    refine ⟨G', .int (lo + (i : Nat) * c), .refl e, ?_, .int⟩
    unfold rangeCD
    rw [List.getElem?_map, List.getElem?_range hi]
    rfl
/-- pairs of two rows, each a new tuple -/
def pairs (xs ys : List D) : List D := (xs.zip ys).map fun p => .tup [p.1, p.2]
theorem pairs_length (xs ys : List D) : (pairs xs ys).length = min xs.length ys.length := by unfold pairs; simp
theorem pairs_get {xs ys : List D} {i : Nat} {d : D} (h : (pairs xs ys)[i]? = some d) : ∃ a b, xs[i]? = some a ∧ ys[i]? = some b ∧ d = .tup [a, b] := by
  unfold pairs at h
  rw [List.getElem?_map] at h
  cases q : (xs.zip ys)[i]? with
  | none => rw [q] at h; cases h
  | some p =>
    rw [q] at h; cases h
    have := List.getElem?_zip_eq_some.mp q
    exact ⟨p.1, p.2, this.1, this.2, rfl⟩
theorem pairs_of {xs ys : List D} {i : Nat} {a b : D} (h1 : xs[i]? = some a) (h2 : ys[i]? = some b) : (pairs xs ys)[i]? = some (.tup [a, b]) := by
  unfold pairs
  rw [List.getElem?_map, List.getElem?_zip_eq_some (z := (a, b)) |>.mpr ⟨h1, h2⟩]
  rfl
theorem give_pair {G' : Gh} {H H' : Hp} {x : V} {a b : D} {v w : V} {T : Addr} (e : Ext G' H) (ra : Rep K G' a v) (rb : Rep K G' b w) (hx : x = .ref T) (hT : H T = none) (hH : H' = upd H T (.tup [v, w])) :
    ∃ G2 d, Step0 G' H G2 H' ∧ d = D.tup [a, b] ∧ Rep K G2 d x := by
  subst hx hH
  exact ⟨gupd G' T (.ho (.tup [v, w])), _, (Step.alloc e hT).know hT upd_same (e.gfree hT), rfl, .tup gupd_same (.cons (ra.mono (Le.gupd (e.gfree hT))) (.cons (rb.mono (Le.gupd (e.gfree hT))) .nil))⟩
theorem sq_enum {p : Addr} {xs : List D} {vs : List V} (h : G p = some (.ho (.lst vs))) (r : Reps K G xs vs) : SeqOk K G (Ite K p) (pairs (rangeD 0 xs.length) xs) where
  go := fun i H hi e => walk_enum.goes i H (by rw [pairs_length, rangeD_length, Nat.min_self, r.length] at hi; exact hi) (SqL.of (e _ _ h))
  stop := fun H e => by rw [pairs_length, rangeD_length, Nat.min_self, r.length]; exact walk_enum.stops H (SqL.of (e _ _ h))
  give := fun i G' H x H' hi le e y => by
    have hi' := hi
    rw [pairs_length, rangeD_length, Nat.min_self] at hi'
    obtain ⟨T, v, w, h1, h2, h3, h4, h5⟩ := walk_enum.yields i H x H' (by rw [← r.length]; exact hi') (SqL.of (le.ext e _ _ h)) y
    cases h4
    obtain ⟨d, hd, rd⟩ := r.getv h5
    obtain ⟨G2, d2, s, e2, r2⟩ := give_pair (K := K) (a := .int (i : Nat)) (b := d) e .int (rd.mono le) h1 h2 h3
    refine ⟨G2, d2, s, ?_, r2⟩
    rw [e2]
    refine pairs_of ?_ hd
    unfold rangeD
    rw [List.getElem?_map, List.getElem?_range hi']
    simp
theorem sq_zip {p q : Addr} {xs ys : List D} {vs ws : List V} (h : G p = some (.ho (.lst vs))) (r : Reps K G xs vs) (h' : G q = some (.ho (.lst ws))) (r' : Reps K G ys ws) : SeqOk K G (Itz K p q) (pairs xs ys) where
  go := fun i H hi e => (walk_zip rfl).goes i H (by rw [pairs_length, r.length, r'.length] at hi; exact hi) ⟨SqL.of (e _ _ h), SqL.of (e _ _ h')⟩
  stop := fun H e => by rw [pairs_length, r.length, r'.length]; exact (walk_zip rfl).stops H ⟨SqL.of (e _ _ h), SqL.of (e _ _ h')⟩
  give := fun i G' H x H' hi le e y => by
    rw [pairs_length, r.length, r'.length] at hi
    obtain ⟨T, v, w, h1, h2, h3, h4, h5⟩ := (walk_zip rfl).yields i H x H' hi ⟨SqL.of (le.ext e _ _ h), SqL.of (le.ext e _ _ h')⟩ y
    obtain ⟨d, hd, rd⟩ := r.getv h4
    obtain ⟨d', hd', rd'⟩ := r'.getv h5
    obtain ⟨G2, d2, s, e2, r2⟩ := give_pair (K := K) (a := d) (b := d') e (rd.mono le) (rd'.mono le) h1 h2 h3
    exact ⟨G2, d2, s, by rw [e2]; exact pairs_of hd hd', r2⟩
end
section
variable {X : Cx} {ex : Exn → Prop} {Γ : En} {pos p : Pos} {tg e : Expr} {R : List D → Prop}
/-- over a list -/
theorem ei_list (h : ED X ex e Γ fun _ d => (∃ xs, d = .lst xs ∧ R xs) ∨ ∃ ns, d = .scr ns ∧ R (ns.map D.int)) : EI X ex tg e Γ R := by
  refine ⟨_, pi_list (tl := tW X e) pe_W, fun σ G H E W tk xa Q k => ?_⟩
  refine ED.use (R := fun _ d => (∃ xs, d = .lst xs ∧ R xs) ∨ ∃ ns, d = .scr ns ∧ R (ns.map D.int)) h E tk xa fun d v G1 H1 h1 s1 r1 => ?_
  rcases h1 with ⟨xs, rfl, hR⟩ | ⟨ns, rfl, hR⟩
  · cases r1 with
    | lst hp q => exact ⟨_, rfl, ⟨_, SqL.of (s1.ext _ _ hp)⟩, k _ _ G1 H1 hR s1 (sq_list hp q)⟩
  · cases r1 with
    | scr hp => exact ⟨_, rfl, ⟨_, hp.sq s1.ext⟩, k _ _ G1 H1 hR s1 (sq_scr hp)⟩
theorem ei_tup (h : ED X ex e Γ fun _ d => ∃ xs, d = .tup xs ∧ R xs) : EI X ex tg e Γ R := by
  refine ⟨_, pi_tup (tl := tW X e) pe_W, fun σ G H E W tk xa Q k => ?_⟩
  refine ED.use (R := fun _ d => ∃ xs, d = .tup xs ∧ R xs) h E tk xa fun d v G1 H1 h1 s1 r1 => ?_
  obtain ⟨xs, rfl, hR⟩ := h1
  cases r1 with
  | tup hp q => exact ⟨_, rfl, ⟨_, SqT.of (s1.ext _ _ hp)⟩, k _ _ G1 H1 hR s1 (sq_tup hp q)⟩
theorem ei_str (h : ED X ex e Γ fun _ d => ∃ z, d = .str z ∧ R ((signs z).map D.str)) : EI X ex tg e Γ R := by
  refine ⟨_, pi_str (te := tW X e) pe_W, fun σ G H E W tk xa Q k => ?_⟩
  refine ED.use (R := fun _ d => ∃ z, d = .str z ∧ R ((signs z).map D.str)) h E tk xa fun d v G1 H1 h1 s1 r1 => ?_
  obtain ⟨z, rfl, hR⟩ := h1
  cases r1
  exact ⟨z, rfl, k _ _ G1 H1 hR s1 sq_str⟩
theorem ei_range1 {a : Expr} (h : ED X ex a Γ fun _ d => ∃ j : Int, d = .int j ∧ -(2 ^ 62) ≤ j ∧ j < 2 ^ 62 ∧ R (rangeD 0 j.toNat)) (hm : X.mg "range" = none) (hg : Gl X "range")
    (h1 : starEach [a] X.env = [(false, eval a X.env)] := by rfl) : EI X ex tg (.Call (.Name "range" p) [a] [] pos) Γ R := by
  refine ⟨_, pi_range1 hg hm (ta := tWa X [a]) pa_W (hs := h1), fun σ G H E W tk xa Q k => ?_⟩
  refine (ea_cons (R := fun ds => ∃ j : Int, ds = [.int j] ∧ -(2 ^ 62) ≤ j ∧ j < 2 ^ 62 ∧ R (rangeD 0 j.toNat)) (h.imp fun _ d ⟨j, e, z⟩ => ea_nil ⟨j, by rw [e], z⟩) (by rw [h1]; rfl)) σ G H E W tk xa _ fun ds vs G1 H1 hR s1 r1 => ?_
  obtain ⟨j, rfl, h2, h3, hR⟩ := hR
  obtain ⟨v, rfl, r⟩ := rep1 r1
  cases r
  exact ⟨j, rfl, h2, h3, k _ _ G1 H1 hR s1 sq_range⟩
theorem ei_range2 {a b : Expr} (h : ED X ex a Γ fun _ d => ED X ex b Γ fun _ e => ∃ i j : Int, d = .int i ∧ e = .int j ∧ (-(2 ^ 62) ≤ i ∧ i < 2 ^ 62 ∧ -(2 ^ 62) ≤ j ∧ j < 2 ^ 62) ∧ R (rangeD i (j - i).toNat)) (hm : X.mg "range" = none) (hg : Gl X "range")
    (h1 : starEach [a, b] X.env = [(false, eval a X.env), (false, eval b X.env)] := by rfl) (h2 : starEach [b] X.env = [(false, eval b X.env)] := by rfl) : EI X ex tg (.Call (.Name "range" p) [a, b] [] pos) Γ R := by
  refine ⟨_, pi_range2 hg hm (ta := tWa X [a, b]) pa_W (hs := h1) (hs2 := h2), fun σ G H E W tk xa Q k => ?_⟩
  refine (ea_cons (R := fun ds => ∃ i j : Int, ds = [.int i, .int j] ∧ (-(2 ^ 62) ≤ i ∧ i < 2 ^ 62 ∧ -(2 ^ 62) ≤ j ∧ j < 2 ^ 62) ∧ R (rangeD i (j - i).toNat)) (h.imp fun _ d hd => ea_cons (hd.imp fun _ e ⟨i, j, e1, e2, z⟩ => ea_nil ⟨i, j, by rw [e1, e2], z⟩) (by rw [h2]; rfl)) (by rw [h1, h2])) σ G H E W tk xa _ fun ds vs G1 H1 hR s1 r1 => ?_
  obtain ⟨i, j, rfl, h3, hR⟩ := hR
  obtain ⟨v, w, rfl, r, r'⟩ := rep2 r1
  cases r; cases r'
  exact ⟨i, j, rfl, h3, k _ _ G1 H1 hR s1 sq_range⟩
theorem ei_range3 {a b c : Expr} (h : ED X ex a Γ fun _ d => ED X ex b Γ fun _ e => ED X ex c Γ fun _ f => ∃ (i j l : Int) (n : Nat), d = .int i ∧ e = .int j ∧ f = .int l ∧ RgC i j l n ∧ R (rangeCD i l n)) (hm : X.mg "range" = none) (hg : Gl X "range")
    (h1 : starEach (a :: [b, c]) X.env = (false, eval a X.env) :: starEach [b, c] X.env := by rfl) (h2 : starEach (b :: [c]) X.env = (false, eval b X.env) :: starEach [c] X.env := by rfl) (h3 : starEach (c :: []) X.env = (false, eval c X.env) :: starEach [] X.env := by rfl) (hpl : (backTo pos (starEach [b, c] X.env)).any (·.1) = false := by rfl) :
    EI X ex tg (.Call (.Name "range" p) [a, b, c] [] pos) Γ R := by
  refine ⟨_, pi_range3 hg hm (ta := tWa X [a, b, c]) pa_W (hs := h1) (hpl := hpl), fun σ G H E W tk xa Q k => ?_⟩
  refine (ea_cons (R := fun ds => ∃ (i j l : Int) (n : Nat), ds = [.int i, .int j, .int l] ∧ RgC i j l n ∧ R (rangeCD i l n)) (h.imp fun _ d hd => ea_cons (hd.imp fun _ e he => ea_cons (he.imp fun _ f ⟨i, j, l, n, e1, e2, e3, z⟩ => ea_nil ⟨i, j, l, n, by rw [e1, e2, e3], z⟩) h3) h2) h1) σ G H E W tk xa _ fun ds vs G1 H1 hR s1 r1 => ?_
  obtain ⟨i, j, l, n, rfl, h4, hR⟩ := hR
  cases r1 with
  | cons r rr =>
    obtain ⟨v, w, rfl, r', r''⟩ := rep2 rr
    cases r; cases r'; cases r''
    exact ⟨i, j, l, n, rfl, h4, k _ _ G1 H1 hR s1 sq_rangeC⟩
/-- enumerate(list) -/
theorem ei_enumL {a : Expr} {elts : List Expr} {kk : Nat} {tpos : Pos} (h : ED X ex a Γ fun _ d => ∃ xs, d = .lst xs ∧ R (pairs (rangeD 0 xs.length) xs)) (hm : X.mg "enumerate" = none) (hg : Gl X "enumerate")
    (hs : starEach [a] X.env = [(false, eval a X.env)] := by rfl) : EI X ex (.Tuple elts kk tpos) (.Call (.Name "enumerate" p) [a] [] pos) Γ R := by
  refine ⟨_, pi_enum hg hm (ta := tWa X [a]) pa_W hs, fun σ G H E W tk xa Q k => ?_⟩
  refine (ea_cons (R := fun ds => ∃ xs, ds = [.lst xs] ∧ R (pairs (rangeD 0 xs.length) xs)) (h.imp fun _ d ⟨j, e, z⟩ => ea_nil ⟨j, by rw [e], z⟩) (by rw [hs]; rfl)) σ G H E W tk xa _ fun ds vs G1 H1 hR s1 r1 => ?_
  obtain ⟨xs, rfl, hR⟩ := hR
  obtain ⟨v, rfl, r⟩ := rep1 r1
  cases r with
  | lst hp q => exact ⟨_, _, rfl, SqL.of (s1.ext _ _ hp), k _ _ G1 H1 hR s1 (sq_enum hp q)⟩
theorem ei_zip {a b : Expr} {elts : List Expr} {kk : Nat} {tpos : Pos} (h : ED X ex a Γ fun _ d => ED X ex b Γ fun _ e => ∃ xs ys, d = .lst xs ∧ e = .lst ys ∧ R (pairs xs ys)) (hm : X.mg "zip" = none) (hg : Gl X "zip")
    (h1 : starEach (a :: [b]) X.env = (false, eval a X.env) :: starEach [b] X.env := by rfl) (h2 : starEach (b :: []) X.env = (false, eval b X.env) :: starEach [] X.env := by rfl) (hpl : (backTo pos (starEach [b] X.env)).any (·.1) = false := by rfl) : EI X ex (.Tuple elts kk tpos) (.Call (.Name "zip" p) [a, b] [] pos) Γ R := by
  refine ⟨_, pi_zip hg hm (ta := tWa X [a, b]) pa_W (hs := h1) (hpl := hpl), fun σ G H E W tk xa Q k => ?_⟩
  refine (ea_cons (R := fun ds => ∃ xs ys, ds = [.lst xs, .lst ys] ∧ R (pairs xs ys)) (h.imp fun _ d hd => ea_cons (hd.imp fun _ e ⟨i, j, e1, e2, z⟩ => ea_nil ⟨i, j, by rw [e1, e2], z⟩) h2) h1) σ G H E W tk xa _ fun ds vs G1 H1 hR s1 r1 => ?_
  obtain ⟨xs, ys, rfl, hR⟩ := hR
  obtain ⟨v, w, rfl, r, r'⟩ := rep2 r1
  cases r with
  | lst hp q =>
    cases r' with
    | lst hp' q' => exact ⟨_, _, _, _, rfl, SqL.of (s1.ext _ _ hp), SqL.of (s1.ext _ _ hp'), k _ _ G1 H1 hR s1 (sq_zip hp q hp' q')⟩
end
end DL

/-! DL8: enumerate(text). -/
namespace DL
open PySem L2 PySem.Spec PyProof.Rows
/-- enumerate over the signs of x -/
def Ites (x : Str) : It :=
  ⟨fun i _ => i < x.cps.size, fun i H v H' => ∃ T c, v = .ref T ∧ H T = none ∧ x.cps[i]? = some c ∧ H' = upd H T (.tup [.int (i : Nat), .str ⟨#[c]⟩]), fun i _ => i = x.cps.size⟩
theorem strIter_or (x : Str) : strIterType x = "str_ascii_iterator" ∨ strIterType x = "str_iterator" := by
  unfold strIterType
  split
  · exact .inl rfl
  · exact .inr rfl
theorem drawsS {prog : Program} {w : World} {A : Around} (hh : A.handled = none) (it : Addr) (x : Str) (t : Tok) :
    Draws prog w A it [it] x.cps.size (fun i v => ∃ c u, x.cps[i]? = some c ∧ v = .str ⟨#[c]⟩ u) (fun i h => h.IsStrIter it (strIterType x) x t i) := by
  rcases strIter_or x with e | e
  · rw [e]; exact Draws.strAscii hh it x t
  · rw [e]; exact Draws.strWide hh it x t
theorem turn_enumS {P : Program} {w : World} {K : PySem.W.Frag} {elts : List Expr} {kk : Nat} {tpos : Pos} (x : Str) (t : Tok) (e it : Addr) :
    Turn P w K (.Tuple elts kk tpos) (Ites x) [e, it] e (fun i h => (∃ old, IsEnum h e it ((i : Nat) : Int) old) ∧ h.IsStrIter it (strIterType x) x t i ∧ e ≠ it) where
  mem := by simp
  obj := fun i h st b hb => by
    obtain ⟨⟨old, he⟩, ⟨o, ho, hc, hd⟩, _⟩ := st
    have e' : b = e ∨ b = it := by simpa using hb
    rcases e' with z | z
    · rw [z]; exact ⟨_, he, fun v q => nomatch q⟩
    · rw [z]; exact ⟨o, ho, fun v q => by rw [hd] at q; cases q⟩
  keep := fun i h h' st k => let ⟨⟨old, he⟩, ⟨o, ho, hr⟩, hne⟩ := st; ⟨⟨old, k e (by simp) _ he⟩, ⟨o, k it (by simp) o ho, hr⟩, hne⟩
  item := by
    intro X hP hw hK hc i pins s σ H E I hf st hg
    subst hP hw hK
    obtain ⟨⟨old, he⟩, hit, hne⟩ := st
    have hel : e < s.heap.objs.size := Heap.lt_size he
    have hil : it < s.heap.objs.size := by obtain ⟨_, q, _⟩ := hit; exact Heap.lt_size q
    refine wpAny_pyNext_enum_itemD (drawsS (show X.A.in1.handled = none from I.ok.hd hc) it x t) he hit hg hne (by simpa using hne) fun v h' tk hv ho hit' hT hsz hk => ?_
    obtain ⟨c, u, hcx, rfl⟩ := hv
    refine ⟨_, rfl, wpAny_letOwnedTupleGo_enum (s := { s with heap := h', toks := tk + 1 }) ho fun h'' he' sb => ?_⟩
    have hT2 : h''.get? s.heap.objs.size = some { cls := .type "tuple", data := .seq #[.int i tk, .str ⟨#[c]⟩ u] } := (sb.2 _ (Nat.ne_of_gt hel)).trans hT
    have new : ObjOk X.prog X.w (upd H s.heap.objs.size (.tup [.int (i : Nat), .str ⟨#[c]⟩])) h'' s.heap.objs.size (.tup [.int (i : Nat), .str ⟨#[c]⟩]) :=
      ⟨by show 2 ≤ sizeLine; decide, [.int i tk, .str ⟨#[c]⟩ u], .cons ⟨_, rfl⟩ (.cons ⟨_, rfl⟩ .nil), ⟨_, hT2, rfl, _, rfl⟩⟩
    have I1 : Inv X pins σ (upd H s.heap.objs.size (.tup [.int (i : Nat), .str ⟨#[c]⟩])) { s with heap := h'', toks := tk + 1 } :=
      I.turnedNew (ch := [e, it]) (fun b ob hb q => (sb.2 b (fun z => hb (by simp [z]))).trans (hk b ob (fun z => hb (by simp [z])) (fun z => hb (by simp [z])) q)) hf (Nat.le_refl _) new
    refine ⟨.ref s.heap.objs.size, _, I1, rfl, ⟨_, c, rfl, I.hok.fresh (Nat.le_refl _), hcx, rfl⟩, ⟨⟨.str ⟨#[c]⟩ u, ?_⟩, ?_, hne⟩, fun b hb => ?_⟩
    · have e1 : ((i + 1 : Nat) : Int) = (i : Int) + 1 := by omega
      rw [e1]; exact he'
    · obtain ⟨o, ho', hr⟩ := hit'
      exact ⟨o, (sb.2 it (Ne.symm hne)).trans ho', hr⟩
    · have hb' : b < s.heap.objs.size := by
        have e' : b = e ∨ b = it := by simpa using hb
        rcases e' with z | z
        · rw [z]; exact hel
        · rw [z]; exact hil
      rw [upd_ne (Nat.ne_of_lt hb')]
      exact (hf b hb).1
  done := by
    intro X hP hw hK hc i pins s σ H E I hf st hg
    subst hP hw hK
    obtain ⟨⟨old, he⟩, hit, hne⟩ := st
    obtain ⟨f0, f1, f2, f3, f4, f5⟩ := hf it (by simp)
    have hg : i = x.cps.size := hg
    subst hg
    exact wpAny_pyNext_enum_endD (drawsS (show X.A.in1.handled = none from I.ok.hd hc) it x t) he hit fun h' eb => ⟨rfl, I.turned (t' := s.toks) (fun b o hb q => eb b o hb q) f0 f1 f3 f4 f5⟩
  self := fun A i s Q E st h => let ⟨⟨_, he⟩, _⟩ := st; wpAny_pyIter_enum he h
def iEnumS (ta : TA) : TI := fun σ H R => ta σ H fun vs H1 => ∃ x, vs = [.str x] ∧ R (Ites x) H1
theorem pi_enumS {X : Cx} {e : Expr} {ta : TA} {p pos tpos : Pos} {elts : List Expr} {kk : Nat} (hg : Gl X "enumerate") (hm : X.mg "enumerate" = none) (ha : PA X [e] ta) (hs : starEach [e] X.env = [(false, eval e X.env)] := by rfl) :
    PI X (.Tuple elts kk tpos) (.Call (.Name "enumerate" p) [e] [] pos) (iEnumS ta) := by
  refine ⟨fun pins s σ H R I h => ?_⟩
  refine Call_ (ld_blt I hg hm boot_enumerate (PyProof.Rows.callWith_type1 (thn (ha.run pos pins s σ H _ I h) fun us s1 ⟨vs, H1, I1, r1, q1⟩ => ?_) hs rfl))
  obtain ⟨x, ex, q⟩ := q1
  subst ex
  cases r1 with
  | cons r rr =>
    cases rr
    obtain ⟨t, rfl⟩ := r
    refine call_enumerate_str fun h' he hit hsz hk => wpAny_pyIter_enum he ?_
    have I2 : Inv X pins σ H1 { s1 with heap := h' } := I1.kept (t' := s1.toks) hk
    refine ⟨s1.heap.objs.size + 1, [s1.heap.objs.size + 1, s1.heap.objs.size], _, _, H1, rfl, I2, turn_enumS x t (s1.heap.objs.size + 1) s1.heap.objs.size, ⟨⟨.none, he⟩, hit, Nat.succ_ne_self _⟩, fun b hb => ?_, q⟩
    have e' : b = s1.heap.objs.size + 1 ∨ b = s1.heap.objs.size := by simpa using hb
    have hle : s1.heap.objs.size ≤ b := by
      rcases e' with z | z
      · rw [z]; exact Nat.le_add_right _ _
      · rw [z]; exact Nat.le_refl _
    exact I1.fpOk hle (I1.hok.fresh hle)
theorem sq_enumS {K : PySem.W.Frag} {G : Gh} {z : Str} : SeqOk K G (Ites z) (pairs (rangeD 0 (signs z).length) ((signs z).map D.str)) where
  go := fun i H hi e => by rw [pairs_length, rangeD_length, List.length_map, Nat.min_self, signs_length] at hi; exact hi
  stop := fun H e => by rw [pairs_length, rangeD_length, List.length_map, Nat.min_self, signs_length]; rfl
  give := fun i G' H x H' hi le e y => by
    have hi' := hi
    rw [pairs_length, rangeD_length, List.length_map, Nat.min_self] at hi'
    obtain ⟨T, c, h1, h2, h3, h4⟩ := y
    obtain ⟨G2, d2, s, e2, r2⟩ := give_pair (K := K) (a := .int (i : Nat)) (b := .str ⟨#[c]⟩) e .int .str h1 h2 h4
    refine ⟨G2, d2, s, ?_, r2⟩
    rw [e2]
    refine pairs_of ?_ ?_
    · unfold rangeD
      rw [List.getElem?_map, List.getElem?_range hi']
      simp
    · unfold signs
      rw [List.getElem?_map, List.getElem?_map, Array.getElem?_toList, h3]
      rfl
theorem ei_enumS {X : Cx} {ex : Exn → Prop} {Γ : En} {pos p : Pos} {R : List D → Prop} {a : Expr} {elts : List Expr} {kk : Nat} {tpos : Pos} (h : ED X ex a Γ fun _ d => ∃ z, d = .str z ∧ R (pairs (rangeD 0 (signs z).length) ((signs z).map D.str))) (hm : X.mg "enumerate" = none) (hg : Gl X "enumerate")
    (hs : starEach [a] X.env = [(false, eval a X.env)] := by rfl) : EI X ex (.Tuple elts kk tpos) (.Call (.Name "enumerate" p) [a] [] pos) Γ R := by
  refine ⟨_, pi_enumS hg hm (ta := tWa X [a]) pa_W hs, fun σ G H E W tk xa Q k => ?_⟩
  refine (ea_cons (R := fun ds => ∃ z, ds = [.str z] ∧ R (pairs (rangeD 0 (signs z).length) ((signs z).map D.str))) (h.imp fun _ d ⟨j, e, z⟩ => ea_nil ⟨j, by rw [e], z⟩) (by rw [hs]; rfl)) σ G H E W tk xa _ fun ds vs G1 H1 hR s1 r1 => ?_
  obtain ⟨xs, rfl, hR⟩ := hR
  obtain ⟨v, rfl, r⟩ := rep1 r1
  cases r
  exact ⟨_, rfl, k _ _ G1 H1 hR s1 sq_enumS⟩
end DL

/-! DL9: defs, comprehensions, exceptions. -/
namespace DL
open PySem L2
section
variable {P : Program} {w : World} {K : PySem.W.Frag} {mg : Str → Option Value} {base : Heap}
/-- the slots at the entry -/
def env0 (N : List Str) (ds : List D) : En := ds.map (fun d => some (false, d)) ++ List.replicate (N.length - ds.length) none
theorem loc_start {G : Gh} {H : Hp} {N : List Str} {ds : List D} {vs : List V} (e : Ext G H) (r : Reps K G ds vs) : Loc K G H (L2.start N vs) (env0 N ds) where
  len := by
    unfold L2.start env0
    rw [List.length_append, List.length_append, List.length_map, List.length_map, List.length_replicate, List.length_replicate, r.length]
  ext := e
  val := fun i d h => by
    unfold env0 at h
    unfold L2.start
    by_cases hi : i < ds.length
    · rw [List.getElem?_append_left (by simpa using hi), List.getElem?_map] at h
      cases q : ds[i]? with
      | none => rw [q] at h; cases h
      | some d' =>
        rw [q] at h; cases h
        obtain ⟨v, hv, rv⟩ := r.get q
        refine ⟨v, ?_, rv⟩
        rw [List.getElem?_append_left (by rw [List.length_map, ← r.length]; exact hi), List.getElem?_map, hv]
        rfl
    · rw [List.getElem?_append_right (by simpa using hi), List.getElem?_replicate] at h
      split at h <;> cases h
  own := fun i d h => by
    unfold env0 at h
    by_cases hi : i < ds.length
    · rw [List.getElem?_append_left (by simpa using hi), List.getElem?_map] at h
      cases q : ds[i]? with
      | none => rw [q] at h; cases h
      | some d' => rw [q] at h; cases h
    · rw [List.getElem?_append_right (by simpa using hi), List.getElem?_replicate] at h
      split at h <;> cases h
  dis := fun i j d e p _ h => by
    unfold env0 at h
    by_cases hi : i < ds.length
    · rw [List.getElem?_append_left (by simpa using hi), List.getElem?_map] at h
      cases q : ds[i]? with
      | none => rw [q] at h; cases h
      | some d' => rw [q] at h; cases h
    · rw [List.getElem?_append_right (by simpa using hi), List.getElem?_replicate] at h
      split at h <;> cases h
/-- the context of a def's body -/
abbrev bodyX (P : Program) (w : World) (K : PySem.W.Frag) (mg : Str → Option Value) (base : Heap) (N : List Str) (qual : Str) (st : Stmt) (f : Addr) (cdv : Value) (A : Around) (outer : List Env) (s : Shared) (H : Hp) (E : XK) : Cx :=
  cxOf (L2.CX P w) P w K mg base N qual (defScope st) f cdv A outer s H E
/-- THE RULE of a def -/
theorem fn_OK {x qual : Str} {st : Stmt} {f : Addr} {fd : FuncData} {N ps : List Str} {k : Nat} {φ : Ph} (F : Fun K x qual st f fd) (S : FnScope N ps (defScope st))
    (hbody : ∀ (cdv : Value) (A : Around) (outer : List Env) (s : Shared) (H : Hp) (E : XK), Room k (bodyX P w K mg base N qual st f cdv A outer s H E).A → ∀ ds rt xs, φ ds rt xs → ds.length = ps.length →
      WD (bodyX P w K mg base N qual st f cdv A outer s H E) (fun x _ => xs x) (defBody st) (env0 N ds) { nx := fun _ => rt false .non, rt := fun o d _ => rt o d }) :
    FnOk P w K mg base (L2.CX P w) (k + 1) f fd ps (spD K ps.length φ) := by
  refine F.okX S (fun vs H Q E h => spD_len h) (fun cdv A outer s H vs Q E hr h => ⟨_, pss_W, ?_⟩)
  obtain ⟨G, ds, rt, xs, e, r, hl, hφ, hrt, hxs⟩ := h
  refine hbody cdv A outer s H E hr ds rt xs hφ hl { B := fun _ => False, G0 := G, H0 := H } _ G H ⟨loc_start e r, .refl e, fun i d p h => ?_⟩ (fun c d _ H' => E c d H') ⟨takes_of rfl rfl rfl rfl, passes_of rfl, fun x c d G' H' σ' Γ' hx E' _ hc => hxs x c d G' H' hx E'.step hc⟩ _
    ⟨fun G' H' σ' Γ' h E' _ => hrt _ _ _ G' H' h E'.step .non, fun o d v G' H' σ' Γ' h E' r' _ => hrt o d v G' H' h E'.step r', fun _ _ _ _ h => h.elim, fun _ _ _ _ h => h.elim, fun a h => h.elim⟩
  unfold env0 at h
  by_cases hi : i < ds.length
  · rw [List.getElem?_append_left (by simpa using hi), List.getElem?_map] at h
    cases q : ds[i]? with
    | none => rw [q] at h; cases h
    | some d' => rw [q] at h; cases h
  · rw [List.getElem?_append_right (by simpa using hi), List.getElem?_replicate] at h
    split at h <;> cases h
theorem fn_D {x qual : Str} {st : Stmt} {f : Addr} {fd : FuncData} {N ps : List Str} {k : Nat} {φ : Ph} (F : Fun K x qual st f fd) (S : FnScope N ps (defScope st)) (b : Binds K fd ps [])
    (hbody : ∀ (cdv : Value) (A : Around) (outer : List Env) (s : Shared) (H : Hp) (E : XK), Room k (bodyX P w K mg base N qual st f cdv A outer s H E).A → ∀ ds rt xs, φ ds rt xs → ds.length = ps.length →
      WD (bodyX P w K mg base N qual st f cdv A outer s H E) (fun x _ => xs x) (defBody st) (env0 N ds) { nx := fun _ => rt false .non, rt := fun o d _ => rt o d }) :
    FnD P w K mg base (k + 1) f ps.length φ := ⟨⟨fd, ps, fn_OK F S hbody, b⟩, F.kp⟩
end
end DL

/-! DL10: exceptions made, raised, caught. -/
namespace DL
open PySem L2 PySem.Spec PyProof.Rows
/-- what the written part says of the class whose __init__ is called by the subclasses: it is ValueError's -/
structure JIn (K : PySem.W.Frag) (C : Addr) : Prop where
  rd : PySem.W.readsIn K C (.type "type") = true
  ga : PySem.W.specialIn K (.ref C) "__getattribute__" = some (some (.builtin "type.__getattribute__"))
  at_ : PySem.W.findCls K (.ref C) (.type "type") "__init__" = some (.val (.builtin "ValueError.__init__"))
section
variable {X : Cx} {e : Expr} {es : List Expr} {ta : TA} {x : Str} {p1 p2 pos : Pos} {CJ : Addr}
/-- J.__init__(self, ..) -/
theorem pe_jinit {pl : Sem Bool} (hg : Gl X x) (hm : X.mg x = some (.ref CJ)) (J : JIn X.K CJ) (ha : PA X (e :: es) ta)
    (hdb : (x == ("__debug__" : Str)) = false := by decide)
    (hc : eval (.Call (.Attribute (.Name x p1) "__init__" p2) (e :: es) [] pos) X.env = (do
      let ov ← eval (.Name x p1) X.env
      standAt p2.atName
      let (f, first) ← holding [ov] (getMethod ov "__init__" pl)
      callWith pos f first (backTo pos (starEach (e :: es) X.env)) (backToKw pos (keywordEach [] X.env))) := by rfl)
    (he : starEach (e :: es) X.env = (false, eval e X.env) :: starEach es X.env := by rfl) (hpl : (backTo pos (starEach es X.env)).any (·.1) = false := by rfl) :
    PE X (.Call (.Attribute (.Name x p1) "__init__" p2) (e :: es) [] pos) (tVeI X.K ta) := by
  refine ⟨fun pins s σ H Q I h => ?_⟩
  refine PySem.W.methodCall_KW (ld_glob I hg hm ?_ hdb) hc
  refine PySem.W.method_cls I.kIn J.ga (PySem.W.cls_value I.kIn J.rd J.at_ (by decide +kernel) ?_)
  show wpAny _ _ (callWith pos (Value.builtin "ValueError.__init__") [] (backTo pos (starEach (e :: es) X.env)) []) _ _ _
  refine PyProof.Rows.callWith_method1 (thn (ha.run pos pins _ σ H _ (I.tok _) h) fun us s1 ⟨vs, H1, I1, r1, a, C, ws, ev, hl, T, ea, q⟩ => ?_) he hpl
  subst ev
  cases r1 with
  | @cons _ u0 _ ur ra rw' =>
    obtain rfl : u0 = Value.ref a := ra
    have hlen : ur.length ≤ sizeLine := by
      rw [← Paired.length rw', sizeLine_eq]
      omega
    exact oinit_ok T I1 ea hlen fun s' J => ⟨.non, H1, J, rfl, q⟩
end
/-- an error class's __init__: its fields in order -/
def spE (C : Addr) (names : List Str) : Sp := fun vs H Q _ => ∃ a ys, vs = .ref a :: ys ∧ ys.length = names.length ∧ H a = some (exo a C none) ∧
  ∀ d, H d = none → d ≠ a → Q .non (upd (upd H d (exd d (names.zip ys).reverse)) a (exo a C (some d)))
theorem upd_swap {H : Hp} {a b : Addr} {o u : HO} (h : a ≠ b) : upd (upd H a o) b u = upd (upd H b u) a o := by
  funext c
  unfold upd
  by_cases h1 : c = b
  · by_cases h2 : c = a
    · exact absurd (h2.symm.trans h1) h
    · rw [if_pos h1, if_neg h2, if_pos h1]
  · by_cases h2 : c = a
    · rw [if_neg h1, if_pos h2, if_pos h2]
    · rw [if_neg h1, if_neg h2, if_neg h2, if_neg h1]
/-- an error class: where it stands, its fields -/
structure ErrC (P : Program) (w : World) (K : PySem.W.Frag) (mg : Str → Option Value) (base : Heap) (x : Str) (C : Addr) (names : List Str) : Prop where
  gC : mg x = some (.ref C)
  T : OexC K C
  init : ∃ fI fd ps, PySem.W.findIn K (.ref C) "__init__" = some (some (.ref fI)) ∧ PySem.W.typeIn K (.ref fI) = some (.type "function") ∧ FnOk P w K mg base CX0 1 fI fd ps (spE C names) ∧ Binds K fd ps []
/-- the readings of the two shapes of __init__ end so -/
theorem err_fin1 {K : PySem.W.Frag} {C a : Addr} {f1 : Str} {m : Str} {y : V} {H : Hp} {Q : VK} {D : Ends} {σ : L2.St} (T : OexC K C) (ha : H a = some (exo a C none)) (h1 : PySem.W.findIn K (.ref C) f1 = some none) (hD : D.nx σ = fun H' => Q .non H')
    (k : ∀ d, H d = none → d ≠ a → Q .non (upd (upd H d (exd d (([f1] : List Str).zip [y]).reverse)) a (exo a C (some d)))) (hσ0 : σ[0]? = some (some (.ref a))) (hσ1 : σ[1]? = some (some y)) :
    tSeq (tDrop (tVeI K (tCons (tVar 0) (tCons (tC (.str m)) tNil)))) (tOst K f1 (tVar 0) (tVar 1)) D σ H :=
  ⟨_, hσ0, a, C, [.str m], rfl, (by show 1 ≤ 1000; decide), T, ha, _, hσ1, _, hσ0, a, C, rfl, T, h1, .inl ⟨ha, fun d e1 e2 => by rw [hD]; exact k d e1 e2⟩⟩
theorem err_fin2 {K : PySem.W.Frag} {C a : Addr} {f1 f2 : Str} {m : Str} {y z : V} {H : Hp} {Q : VK} {D : Ends} {σ : L2.St} (T : OexC K C) (ha : H a = some (exo a C none)) (h1 : PySem.W.findIn K (.ref C) f1 = some none) (h2 : PySem.W.findIn K (.ref C) f2 = some none) (hD : D.nx σ = fun H' => Q .non H')
    (k : ∀ d, H d = none → d ≠ a → Q .non (upd (upd H d (exd d (([f1, f2] : List Str).zip [y, z]).reverse)) a (exo a C (some d)))) (hσ0 : σ[0]? = some (some (.ref a))) (hσ1 : σ[1]? = some (some y)) (hσ2 : σ[2]? = some (some z)) :
    tSeq (tDrop (tVeI K (tCons (tVar 0) (tCons (tC (.str m)) tNil)))) (tSeq (tOst K f1 (tVar 0) (tVar 1)) (tOst K f2 (tVar 0) (tVar 2))) D σ H := by
  refine ⟨_, hσ0, a, C, [.str m], rfl, (by show 1 ≤ 1000; decide), T, ha, _, hσ1, _, hσ0, a, C, rfl, T, h1, .inl ⟨ha, fun d e1 e2 => ?_⟩⟩
  refine ⟨_, hσ2, _, hσ0, a, C, rfl, T, h2, .inr ⟨d, _, upd_same, by rw [upd_ne e2, upd_same], (by show 1 ≤ 900; decide), ?_⟩⟩
  have hD' : D.nx σ = fun H' => Q .non H' := hD
  rw [hD']
  have e := k d e1 e2
  have e3 : upd (upd (upd H d (exd d [(f1, y)])) a (exo a C (some d))) d (exd d ((f2, z) :: [(f1, y)])) = upd (upd H d (exd d (([f1, f2] : List Str).zip [y, z]).reverse)) a (exo a C (some d)) := by
    rw [upd_swap (Ne.symm e2), upd_upd]; rfl
  rw [e3]
  exact e
section
variable {X : Cx} {ex : EX} {Γ : En} {P : Po} {pos p pos2 : Pos}
theorem zip_rep {K : PySem.W.Frag} {G : Gh} : ∀ {ns : List Str} {ds : List D} {vs : List V}, Reps K G ds vs → RepF K G (ns.zip ds) (ns.zip vs)
  | [], _, _, _ => .nil
  | _ :: _, _, _, .nil => .nil
  | n :: ns, _, _, .cons r q => .cons r (zip_rep q)
theorem RepF.append {K : PySem.W.Frag} {G : Gh} : ∀ {xs ys : List (Str × D)} {vs ws : List (Str × V)}, RepF K G xs vs → RepF K G ys ws → RepF K G (xs ++ ys) (vs ++ ws)
  | _, _, _, _, .nil, s => s
  | _, _, _, _, .cons r t, s => .cons r (RepF.append t s)
theorem RepF.reverse {K : PySem.W.Frag} {G : Gh} : ∀ {xs : List (Str × D)} {vs : List (Str × V)}, RepF K G xs vs → RepF K G xs.reverse vs.reverse
  | _, _, .nil => .nil
  | _, _, .cons r t => by rw [List.reverse_cons, List.reverse_cons]; exact (RepF.reverse t).append (.cons r .nil)
/-- raise C(e, ..), an error class with its own fields -/
theorem w_raise {x : Str} {C : Addr} {names : List Str} {e : Expr} {es : List Expr} (T : ErrC X.prog X.w X.K X.mg X.base x C names) (hc : X.calm = true) (hr : Room 2 X.A) (hg : Gl X x)
    (h : EA X (fun x => ex x Γ) (e :: es) Γ fun ds => ds.length = names.length ∧ ds.all flat = true ∧ ex ⟨C, (names.zip ds).reverse⟩ Γ) (hn : names.length ≤ 10)
    (hdb : (x == ("__debug__" : Str)) = false := by decide) (he : starEach (e :: es) X.env = (false, eval e X.env) :: starEach es X.env := by rfl) (hpl : (backTo pos (starEach es X.env)).any (·.1) = false := by rfl) :
    W1 X ex (.Raise (some (.Call (.Name x p) (e :: es) [] pos)) none pos2) Γ P := by
  intro F σ G H E W xk Dn lk
  obtain ⟨fI, fd, ps, iC, tI, F1, b⟩ := T.init
  refine tW1_of (ps_raise hc xk.tk (pmk_oex T.T iC tI F1 hr b .nil pass0 hg T.gC (ta := tWa X (e :: es)) pa_W hdb he hpl)) ?_
  refine h σ G H E.loc W xk.te (xk.lk.at E) _ fun ds vs G1 H1 h1 s1 r1 => ?_
  refine ⟨by rw [← r1.length, h1.1]; omega, fun a hna => ⟨a, vs, by rw [List.append_nil], by rw [← r1.length]; exact h1.1, upd_same, fun d hnd hda => ⟨rfl, d, _, upd_same, by rw [upd_ne hda, upd_same], ?_, ?_⟩⟩⟩
  · rw [upd_ne hda] at hnd; exact hnd
  · have hnd' : H1 d = none := by rw [upd_ne hda] at hnd; exact hnd
    have eH : upd (del (upd (upd (upd H1 a (exo a C none)) d (exd d (names.zip vs).reverse)) a (exo a C (some d))) a) d (.xd (names.zip vs).reverse) = upd H1 d (.xd (names.zip vs).reverse) := by
      funext b
      by_cases hb : b = d
      · rw [hb, upd_same, upd_same]
      · rw [upd_ne hb, upd_ne hb]
        by_cases ha : b = a
        · rw [ha, del_same, hna]
        · rw [del_ne ha, upd_ne ha, upd_ne hb, upd_ne ha]
    rw [eH]
    have s2 : Step0 G1 H1 G1 (upd H1 d (.xd (names.zip vs).reverse)) := .alloc s1.ext hnd'
    refine xk.lk ⟨C, (names.zip ds).reverse⟩ _ _ G1 _ σ Γ h1.2.2 (E.go (s1.trans s2)) (s1.trans s2).le ⟨rfl, .inr ⟨d, _, rfl, upd_same, s1.ext.gfree hnd', E.step.free (s1.free hnd'), (zip_rep r1).reverse, ?_⟩⟩
    show ((names.zip ds).reverse).all (fun p => flat p.2) = true
    rw [List.all_reverse, List.all_eq_true]
    intro q hq
    exact List.all_eq_true.mp h1.2.1 q.2 (List.of_mem_zip hq).2
/-- an error class without fields, made with a text -/
structure ErrT (K : PySem.W.Frag) (mg : Str → Option Value) (x : Str) (C : Addr) : Prop where
  gC : mg x = some (.ref C)
  exI : PySem.W.excIn K C [.type "ValueError", .type "Exception", .type "BaseException", .type "object"] "ValueError.__new__" = true
  kC : PySem.W.keepIn K (.ref C) = true
  exC : PySem.W.subIn K (.ref C) (.type "BaseException") = some true
  tyC : PySem.W.typeIn K (.ref C) = some (.type "type")
theorem w_raiseT {x m : Str} {C : Addr} {j : Nat} {p2 : Pos} (T : ErrT X.K X.mg x C) (hc : X.calm = true) (hg : Gl X x) (h : ex ⟨C, []⟩ Γ) (hdb : (x == ("__debug__" : Str)) = false := by decide) :
    W1 X ex (.Raise (some (.Call (.Name x p) [.Constant (.str m) j p2] [] pos)) none pos2) Γ P := by
  intro F σ G H E W xk Dn lk
  refine tW1_of (ps_raise hc xk.tk (pmk_own PySem.F.excBase_ValueError T.exI T.gC T.kC (raises_own T.exC T.tyC) hg hdb)) ?_
  exact xk.lk ⟨C, []⟩ _ _ G H σ Γ h E (Le.refl _) ⟨rfl, .inl ⟨rfl, rfl⟩⟩
/-! ### try .. except -/
/-- nothing leaves -/
abbrev noEx : EX := fun _ _ => False
theorem xok_suite {F : Fm} {X : Cx} {G : Gh} (h : X.xe = fun _ _ => False) : XOk X F G noEx (fun _ _ _ _ => False) :=
  ⟨takes0, by rw [h]; exact PassesOwn.never, fun _ _ _ _ _ _ _ hx => hx.elim⟩
/-- try: body except x: suite (no name) -/
theorem w_try {x : Str} {c : Value} {body suite : List Stmt} {b₀ : Stmt} {np pos' : Pos} (hs : X.stack = X.env :: X.outer) (hf : X.env.frame = some X.env.locals) (hc : Names X x c)
    (h : ∀ (pn : List (Addr × Obj)) (xe : Value → Shared → Prop), WD (X.tr pn xe) (fun y Γ' => ∃ b, PySem.W.exmOne X.K (.ref y.cls) c = some b ∧ (b = true → ∀ a q pn, WD (X.suite a (q :: pn)) noEx (b₀ :: suite) Γ' P) ∧ (b = false → ex y Γ')) body Γ P) :
    W1 X ex (.Try body [.ExceptHandler (some (.Name x np)) none (b₀ :: suite) pos'] [] [] pos) Γ P := by
  intro F σ G H E W xk Dn lk
  refine tW1_of (ps_try_only (tb := fun W' D σ H => ∀ (pn : List (Addr × Obj)) (xe : Value → Shared → Prop), Takes (X.tr pn xe) W' → PassesOwn (model X.prog X.w) X.A X.env xe → tWs (X.tr pn xe) body D σ H)
    (ts := fun a cls d D σ H => ∀ (oe : Obj) (pn : List (Addr × Obj)), tWs (X.suite a ((a, oe) :: pn)) (b₀ :: suite) D σ H) hs hf hc xk.tk
    (fun W' pn xe tk po => ⟨fun pins s σ H D I hh => hh pn xe tk po pins s I⟩) (fun a oe cls d pn hz hd => ⟨fun pins s σ H D I hh => hh oe pn pins s I⟩)) ?_
  intro pn xe tk po
  refine h pn xe F σ G H E _ ⟨tk, po, fun y cv d G1 H1 σ1 Γ1 hy E1 le he => ?_⟩ Dn lk
  obtain ⟨b, hb, hy1, hy0⟩ := hy
  obtain ⟨rfl, he'⟩ := id he
  refine ⟨b, hb, fun eb a _ oe pn' => ?_, fun eb => xk.lk y _ d G1 H1 σ1 Γ1 (hy0 eb) E1 le he⟩
  exact hy1 eb a (a, oe) pn' F σ1 G1 H1 E1 _ (xok_suite rfl) Dn (lk.go le)
end
end DL

/-! DL11: list comprehensions; what is raised within them goes on. -/
namespace DL
open PySem L2 PySem.Spec PyProof.Rows
/-- the block's context with a wish about what is raised -/
abbrev blkX (X : Cx) (s : Shared) (H : Hp) (scope : Scope) (ce : Env) (fp : List Addr) (xe : Value → Shared → Prop) : Cx := (X.blk s H scope ce fp).tr [] xe
section
variable {X : Cx} {pins : List (Addr × Obj)} {σ : L2.St} {H H3 : Hp} {s s3 : Shared} {W : WX}
theorem held_hide {B h1 h2 : Heap} {l : List Env} {a C L : Addr} {Z : Obj → Prop} {m m2 : Str → Option Value} (hh : HandSPX.HeldZ B l a Z L h1) (n1 : h1.Ns C m) (n2 : h2.Ns C m2) (sb : Heap.SameBut C h1 h2) : HandSPX.HeldZ (PySem.W.hideAll B [C]) l a Z L h2 := by
  obtain ⟨k1, k2, k3, oe, vs, T, oT, ts, t1, t2, t3, t4, t5, t6, t7, t8, t9⟩ := hh
  obtain ⟨oC, es, ep, c1, c2, _⟩ := n1
  have hid : ∀ b o, (PySem.W.hideAll B [C]).get? b = some o → B.get? b = some o ∧ b ≠ C := fun b o e => ⟨PySem.W.of_hideAll _ e, fun z => by rw [z, PySem.W.hideAll_none [C] (List.mem_singleton.mpr rfl)] at e; cases e⟩
  have hno : ∀ b, B.get? b = none → (PySem.W.hideAll B [C]).get? b = none := fun b e => by
    cases q : (PySem.W.hideAll B [C]).get? b with
    | none => rfl
    | some o => have z := (hid b o q).1; rw [e] at z; cases z
  have aC : a ≠ C := fun z => by rw [z, c1] at t1; cases t1; rw [c2] at t3; cases t3
  have TC : T ≠ C := fun z => by rw [z, c1] at t7; cases t7; rw [c2] at t8; cases t8
  refine ⟨fun b o e => (sb.2 b (hid b o e).2).trans (k1 b o (hid b o e).1), hno a k2, Heap.FunFrames.sameBut sb n2 (funFrames_none k3 fun b hb => hno b (k3.mem hb).1), ?_⟩
  exact ⟨oe, vs, T, oT, ts, (sb.2 a aC).trans t1, t2, t3, t4, hno T t5, t6, (sb.2 T TC).trans t7, t8, t9⟩
/-- what a call in the block lets out goes on in the def -/
theorem blk_calls {scope : Scope} {cl : List (Str × Addr)} {C : Addr} {fp : List Addr} {xe : Value → Shared → Prop} (I3 : L2.Inv X pins σ H3 s3) (hs : X.stack = X.env :: X.outer) (hf : X.env.frame = some X.env.locals) (tk : Takes X W)
    (f3 : ∀ b ∈ fp, FpOk X pins H3 b) (hC : s3.heap.objs.size ≤ C) (hxe : xe = notedBy (model X.prog X.w) X.A (compEnvC scope cl C X.env) (CompFails (model X.prog X.w) X.A X.xe (compEnvC scope cl C X.env))) :
    Tk (blkX X s3 H3 scope (compEnvC scope cl C X.env) fp xe) (fun c d _ H => W c d σ H) := by
  refine ⟨fun σb pinsb Hb sb u s' Ib cx => ?_, fun z => ?_⟩
  · obtain ⟨mC, nC, _⟩ := id Ib.loc
    have hCn : Hb C = none := Ib.free
    have I7 : L2.Inv X pins σ Hb sb := I3.call' (ch := fp) Ib.os Ib.base Ib.hok Ib.bare fun b hb => ⟨(f3 b hb).2.2.2.1, (f3 b hb).2.1, (f3 b hb).2.2.2.2.1, (f3 b hb).2.2.2.2.2⟩
    have fC : FpOk X pins Hb C := I3.fpOk hC hCn
    obtain ⟨oC, es, ep, eC, rC⟩ := nC
    have hCf : C ∉ frs X.stack := fun hm => (List.mem_cons.mp (I7.stkSub C hm)).elim fC.2.1 fC.2.2.1
    obtain ⟨a0, B0, H0', cls0, d0, e0, fl0, hok0, ub0, na0, os0, ag0, hE0⟩ := cx
    have ns' : s'.heap.Ns C mC := ⟨oC, es, ep, fl0.1 C oC (ub0.keep C oC eC hCn hCf), rC⟩
    have cx' : L2.CX X.prog X.w X.stack Hb sb (fun c d H => H C = none ∧ W c d σ H) u s' := ⟨a0, B0, H0', cls0, d0, e0, fl0, hok0, ub0, na0, os0, ag0, ub0.free C oC eC hCn, hE0⟩
    obtain ⟨a, B, sI, pins', σ', H', cls, d, eu, I, nb, up, sky, na, os, ag, w⟩ := XE.of_call (X := X) (W := fun c d σ'' H => σ'' = σ ∧ H C = none ∧ W c d σ H) I7 (fun c d H h => ⟨rfl, h⟩) cx'
    obtain ⟨eσ, hC', w⟩ := w
    subst eσ
    subst eu
    have I' : L2.Inv X [] σ' H' { sI with heap := PySem.W.hideAll sI.heap [C] } :=
      (I.unpinned (pins := [])).turned (t' := sI.toks) (it := C) (fun b o hb e => PySem.W.hideAll_get _ e fun z => hb (List.mem_singleton.mp z)) hC' fC.2.1 fC.2.2.2.1 fC.2.2.2.2.1 fun p hp => fC.2.2.2.2.2 p (by rw [List.append_nil] at hp; exact List.mem_append_left _ hp)
    have hidI : ∀ b o, (PySem.W.hideAll sI.heap [C]).get? b = some o → sI.heap.get? b = some o ∧ b ≠ C := fun b o e => ⟨PySem.W.of_hideAll _ e, fun z => by rw [z, PySem.W.hideAll_none [C] (List.mem_singleton.mpr rfl)] at e; cases e⟩
    have hfr : X.A.frames = some (X.env :: X.outer) := by rw [I3.ok.frames, hs]
    have fin : ∀ h1, HandSPX.HeldZ B (X.env :: X.outer) a (Zc cls d) X.env.locals h1 → s'.heap.UpToSlots h1 → CompFails (model X.prog X.w) X.A X.xe (compEnvC scope cl C X.env) (.ref a) { s' with heap := h1 } := fun h1 hh up1 => by
      have n1 : h1.Ns C mC := up1.ns ns'
      refine ⟨mC, n1, fun h2 m2 n2 sb2 => ?_⟩
      have hh2 := held_hide hh n1 n2 sb2
      obtain ⟨k1, k2, k3, oe, vs, T, oT, ts, t1, t2, t3, t4, t5⟩ := id hh2
      unfold PySem.passOn
      refine wpAny_bind (wpAny_field t1 t3 t4 ?_)
      rw [if_neg (show ¬ ((Value.ref T == Value.none) = true) from by simp)]
      show wpAny _ _ (do setFlight (.ref a) X.env.frame; throw (Value.ref a)) _ _ _
      rw [hf]
      refine wpAny_bind (HandSPX.setFlight_onZ hh2 fun h3 hh3 up3 => wpAny_throw (tk _ _ ⟨a, PySem.W.hideAll B [C], { sI with heap := PySem.W.hideAll sI.heap [C], toks := sI.toks }, [], σ', H', cls, d, rfl, I', fun b o e hb => ?_, fun b o e hn => ?_, ?_, na, os, ag, w⟩))
      · obtain ⟨e1, e2⟩ := hidI b o e
        exact PySem.W.hideAll_get _ (nb b o e1 hb) fun z => e2 (List.mem_singleton.mp z)
      · obtain ⟨e1, e2⟩ := hidI b o e
        obtain ⟨sl, q1⟩ := (up.trans up1) b o e1 hn
        obtain ⟨sl2, q2⟩ := up3 b _ ((sb2.2 b e2).trans q1) hn
        exact ⟨sl2, q2⟩
      · rw [hs]; exact .inr (.inr hh3)
    show xe (.ref a) s'
    rw [hxe]
    show wpAny _ X.A (noteFrame (.ref a) (compEnvC scope cl C X.env)) _ _ s'
    rw [noteFrame_env (Value.ref a) (show (compEnvC scope cl C X.env).frame = X.env.frame from rfl)]
    rw [hs] at sky
    rcases sky with ⟨hB, hn, hl, oe, vs, he, hz, hd, h1⟩ | fl | hd
    · exact HandSPX.look_newZ Zc.steady hfr hl hf he hB hn hd h1 hz fin
    · exact HandSPX.looks_onZ Zc.steady hfr hf fl fin
    · exact HandSPX.againZ hf hd.2.2.2 (fin s'.heap hd (Heap.UpToSlots.refl _))
  · have z : X.env.frame = some C := z
    rw [hf] at z
    cases z
    exact absurd (Nat.lt_of_lt_of_le I3.lt hC) (Nat.lt_irrefl _)
def tWts (X : Cx) (ifs : List Expr) : TT := fun σ H Q => ∀ pins s, L2.Inv X pins σ H s →
  wpAny (model X.prog X.w) X.A (forIn ifs true fun c r => if r = true then do let ok ← isTrue c X.env (eval c X.env); pure (ForInStep.yield ok) else pure (ForInStep.yield r)) (TP X pins σ Q) X.xe s
/-- the reading of a comprehension, its block any -/
def tLcB (X : Cx) (scope : Scope) (W : WX) (tg : Expr) (ifs : List Expr) (elt : Expr) (wi : TI) (vs : List Nat) : TE := fun σ H Q => wi σ H fun J H1 => ∀ D, H1 D = none →
  ∀ s0 H0 C cl fp xe, Tk (blkX X s0 H0 scope (compEnvC scope cl C X.env) fp xe) W → ∃ Wm : Nat → Nat → Hp → Prop, (∃ m, Wm 0 m (upd H1 D (.lst []))) ∧ ∀ i m H, Wm i m H →
    (J.stop i H ∧ Q (.ref D) H) ∨ (J.go i H ∧ ∃ Nx : Hp → Prop, (∀ H', Nx H' → ∃ m', m' < m ∧ Wm (i + 1) m' H') ∧ ∀ x H', J.yld i H x H' → tWg (blkX X s0 H0 scope (compEnvC scope cl C X.env) fp xe) tg x (wipe σ vs) H' fun σ2 H2 => wipe σ2 vs = wipe σ vs ∧
      tWts (blkX X s0 H0 scope (compEnvC scope cl C X.env) fp xe) ifs σ2 H2 fun b H3 => if b = true then tW (blkX X s0 H0 scope (compEnvC scope cl C X.env) fp xe) elt σ2 H3 fun y H4 => ∃ acc, H4 D = some (.lst acc) ∧ acc.length < sizeLine ∧ Nx (upd H4 D (.lst (acc ++ [y]))) else Nx H3)
/-- the comprehension -/
theorem lcE_core {Q : VK} {elt tg iter : Expr} {ifs : List Expr} {scope : Scope} {own : List (Str × Nat)} {pos pos' : Pos} {wi : TI} {use : Option (Value → Sem Unit)} {Qf : Value → Shared → Prop}
    (hs : X.stack = X.env :: X.outer) (hf : X.env.frame = some X.env.locals) (tk : Takes X W) (hc : X.calm = true) (hN : X.N.Nodup) (I : L2.Inv X pins σ H s) (hi : PI X tg iter wi) (bo : BlkOk X.N X.env.scope scope own)
    (hfold : ∀ x, foldedSetIterable iter X.env x = pure x) (h : tLcB X scope (fun c d _ H => W c d σ H) tg ifs elt wi (own.map (·.2)) σ H Q)
    (out : ∀ D s' m H' (ce : Env), L2.Inv X pins σ H' s' → Q (.ref D) H' → s'.heap.Ns ce.locals m → FpOk X pins H' ce.locals → compEnds (model X.prog X.w) X.A X.xe use Qf (.ref D) ce (.ok .next) s') :
    wpAny (model X.prog X.w) X.A (comprehension (.ListComp elt [⟨tg, iter, ifs, 0⟩] scope pos) scope X.env pos' (newList []) false (eval iter X.env) use) Qf X.xe s := by
  have caught : ∀ y ∈ scope.names, y.2 = .free → ∃ c, X.env.cells.lookup y.1 = some c := fun y hy e => (bo.free y hy e).elim (fun k => I.ok.has _ (.inl k)) (fun k => I.ok.has _ (.inr k))
  refine comprehension_at (use := use) rfl hfold (closure_ok caught) bo.kind (fun y hy e => (bo.uniq y hy).trans (congrArg some e)) (thn (hi.run pins s σ H _ I h) fun xv s1 k1 => thn k1 fun itv s2 k2 => ?_)
  obtain ⟨it, fp, tn, J, H2, eit, I2, T, st2, f2, q⟩ := k2
  subst eit
  refine wpAny_newObj_type (newEnv_comp ?_) (Nat.zero_le _)
  have q := q s2.heap.objs.size (I2.hok.fresh (Nat.le_refl _))
  have J3 : L2.Inv X pins σ (upd H2 s2.heap.objs.size (.lst [])) { s2 with heap := s2.heap.push { cls := .type "list", data := .seq ([] : List Value).toArray } } :=
    I2.laid (t' := s2.toks) (fun b o e => Heap.get?_push_of_some _ e) (Nat.le_refl _) ⟨Nat.zero_le _, [], 0, .nil, Heap.get?_push_size _ rfl⟩
  have le3 : s2.heap.objs.size < (s2.heap.push { cls := .type "list", data := .seq ([] : List Value).toArray }).objs.size := by rw [Heap.size_push]; exact Nat.lt_succ_self _
  have f3' : ∀ b ∈ fp, FpOk X pins (upd H2 s2.heap.objs.size (.lst [])) b ∧ b < (s2.heap.push { cls := .type "list", data := .seq ([] : List Value).toArray }).objs.size := fun b hb => by
    obtain ⟨o, e, _⟩ := T.obj _ _ st2 b hb
    have lt := Heap.lt_size e
    exact ⟨⟨(upd_ne (Nat.ne_of_lt lt)).trans (f2 b hb).1, (f2 b hb).2⟩, Nat.lt_trans lt le3⟩
  have t3' : tn 0 (s2.heap.push { cls := .type "list", data := .seq ([] : List Value).toArray }) := T.keep _ _ _ st2 fun b _ o e => Heap.get?_push_of_some _ e
  generalize hsh : ({ s2 with heap := s2.heap.push { cls := .type "list", data := .seq ([] : List Value).toArray } } : Shared) = s3 at J3
  have eh : s2.heap.push { cls := .type "list", data := .seq ([] : List Value).toArray } = s3.heap := by rw [← hsh]
  rw [eh] at le3 f3' t3'
  have J4 := block_start J3 bo hN f3'
  generalize s2.heap.objs.size = D at J3 f3' J4 q ⊢
  generalize upd H2 D (.lst []) = H3 at J3 f3' J4 q ⊢
  show codeAny _ _ (.compStart (.ListComp elt [⟨tg, iter, ifs, 0⟩] scope pos) 0 (.ref it) (.ref D) (compEnvC scope (cellsFrom (s3.heap.objs.size + 1) scope.names (cloFrom X.env.cells scope.names [])) s3.heap.objs.size X.env))
    (compEnds (model X.prog X.w) X.A X.xe use Qf (.ref D) (compEnvC scope (cellsFrom (s3.heap.objs.size + 1) scope.names (cloFrom X.env.cells scope.names [])) s3.heap.objs.size X.env)) { s3 with heap := pushCells (s3.heap.push { cls := .type "dict", data := .dict #[] }) scope.names }
  generalize cellsFrom (s3.heap.objs.size + 1) scope.names (cloFrom X.env.cells scope.names []) = cl at J4 ⊢
  have t4 : tn 0 (pushCells (s3.heap.push { cls := .type "dict", data := .dict #[] }) scope.names) := T.keep _ _ _ t3' fun b _ o e => pushCells_keeps _ _ _ _ (Heap.get?_push_of_some _ e)
  generalize hs4 : ({ s3 with heap := pushCells (s3.heap.push { cls := .type "dict", data := .dict #[] }) scope.names } : Shared) = s4 at J4 ⊢
  have t4 : tn 0 s4.heap := by rw [← hs4]; exact t4
  -- the wish about raises
  have hxe : notedBy (model X.prog X.w) X.A (compEnvC scope cl s3.heap.objs.size X.env) (fun e s' => compEnds (model X.prog X.w) X.A X.xe use Qf (.ref D) (compEnvC scope cl s3.heap.objs.size X.env) (.error e) s') =
      notedBy (model X.prog X.w) X.A (compEnvC scope cl s3.heap.objs.size X.env) (CompFails (model X.prog X.w) X.A X.xe (compEnvC scope cl s3.heap.objs.size X.env)) := by cases use <;> rfl
  have tkb := blk_calls (fp := fp) (xe := _) J3 hs hf tk (fun b hb => (f3' b hb).1) (Nat.le_refl _) hxe
  obtain ⟨Wm, ⟨m0, w0⟩, turn⟩ := q s3 H3 s3.heap.objs.size cl fp _ tkb
  have J5 := J4.toTry (notedBy (model X.prog X.w) X.A (compEnvC scope cl s3.heap.objs.size X.env) (fun e s' => compEnds (model X.prog X.w) X.A X.xe use Qf (.ref D) (compEnvC scope cl s3.heap.objs.size X.env) (.error e) s'))
  have fresh : ∀ b ∈ fp, H3 b = none := fun b hb => (f3' b hb).1.1
  have eqL : (compEnvC scope cl s3.heap.objs.size X.env).locals = s3.heap.objs.size := rfl
  clear I2 J4 hs4 hsh h q
  generalize hce : compEnvC scope cl s3.heap.objs.size X.env = ce at *
  generalize hEE : notedBy (model X.prog X.w) X.A ce (fun e s' => compEnds (model X.prog X.w) X.A X.xe use Qf (.ref D) ce (.error e) s') = EE at *
  have foot : ∀ {pb : List (Addr × Obj)} {σ' : L2.St} {H' : Hp} {s' : Shared}, L2.Inv (blkX X s3 H3 scope ce fp EE) [] σ' H' s' → (∀ b ∈ fp, H' b = none) → ∀ b ∈ fp, FpOk (blkX X s3 H3 scope ce fp EE) [] H' b := fun {pb σ' H' s'} I' hn b hb =>
    ⟨hn b hb, (I'.ok.exf b hb).1, I'.ok.exfs b hb, .inl hb, fun x c e => (I'.ok.exf b hb).2 x c e, fun p hp => absurd (show p ∈ ([] : List (Addr × Obj)) ++ [] from hp) (by simp)⟩
  have loop : codeAny (model X.prog X.w) X.A (.compLoop (.ListComp elt [⟨tg, iter, ifs, 0⟩] scope pos) 0 (.ref it) (.ref D) ce) (compEnds (model X.prog X.w) X.A X.xe use Qf (.ref D) ce) s4 := by
    refine compLoop_any (fun n u => ∃ i Hn, L2.Inv (blkX X s3 H3 scope ce fp EE) [] (wipe σ (own.map fun p : Str × Nat => p.2)) Hn u ∧ tn i u.heap ∧ (∀ b ∈ fp, Hn b = none) ∧ Wm i n Hn) ?_ m0 ⟨0, H3, J5, t4, fresh, w0⟩
    rintro n u ⟨i, Hn, Iu, tu, nu, wu⟩
    rw [hEE]
    rcases turn i n Hn wu with ⟨stop, qq⟩ | ⟨go, Nx, hNx, step⟩
    · refine thn (T.done (blkX X s3 H3 scope ce fp EE) rfl rfl rfl hc i [] u _ Hn EE Iu (foot (pb := []) Iu nu) tu stop) fun r v ⟨hr, Iv⟩ => ?_
      subst hr
      have I7 : L2.Inv X pins σ Hn v := J3.call' (ch := fp) Iv.os Iv.base Iv.hok Iv.bare fun b hb => ⟨(f3' b hb).1.2.2.2.1, (f3' b hb).1.2.1, (f3' b hb).1.2.2.2.2.1, (f3' b hb).1.2.2.2.2.2⟩
      have nC : Hn ce.locals = none := Iv.free
      obtain ⟨m, hm, _⟩ := Iv.loc
      exact out D v m Hn ce I7 qq hm (J3.fpOk (Nat.le_of_eq eqL.symm) nC)
    · refine thn (T.item (blkX X s3 H3 scope ce fp EE) rfl rfl rfl hc i [] u _ Hn EE Iu (foot (pb := []) Iu nu) tu go) fun r v ⟨z, hr, k6⟩ => ?_
      subst hr
      refine thn k6 fun _ v7 ⟨x, H7, I7, r7, y7, t7, n7⟩ => ?_
      have I7' := I7.pinned (foot (pb := []) I7 n7) (T.obj _ _ t7)
      refine thn (step x H7 y7 _ v7 z I7' r7) fun _ v8 ⟨σ8, H8, I8, hw8, q8⟩ => ?_
      refine thn (q8 _ v8 I8) fun b v9 ⟨H9, I9, q9⟩ => ?_
      have fin : ∀ {u' : Shared} {Hm : Hp}, L2.Inv (blkX X s3 H3 scope ce fp EE) ([] ++ pinsAt fp v7.heap) σ8 Hm u' → Nx Hm → ∃ m, m < n ∧ ∃ i Hn, L2.Inv (blkX X s3 H3 scope ce fp EE) [] (wipe σ (own.map fun p : Str × Nat => p.2)) Hn u' ∧ tn i u'.heap ∧ (∀ b ∈ fp, Hn b = none) ∧ Wm i m Hn := fun {u' Hm} Im nx => by
        obtain ⟨m', hm, w'⟩ := hNx Hm nx
        have pin' : ∀ b ∈ fp, ∀ o, v7.heap.get? b = some o → u'.heap.get? b = some o ∧ Hm b = none := fun b hb o e =>
          let z := Im.pin (b, o) (List.mem_append_right _ (List.mem_append_right _ (mem_pinsAt hb e)))
          ⟨z.1, z.2.1⟩
        refine ⟨m', hm, i + 1, Hm, (Im.unpinned (pins := [])).weak (by rw [← hw8, wipe_length]) (fun j y e => ?_), T.keep _ _ _ t7 fun b hb o e => (pin' b hb o e).1, fun b hb => ?_, w'⟩
        · rw [← hw8] at e
          exact (wipe_some e).1
        · obtain ⟨o, e, _⟩ := T.obj _ _ t7 b hb
          exact (pin' b hb o e).2
      cases b with
      | false => exact fin I9 q9
      | true =>
        refine thn (q9 _ v9 I9) fun z v10 ⟨yv, H10, I10, r10, acc, hD10, hz10, nx⟩ => ?_
        exact app_ok (X := blkX X s3 H3 scope ce fp EE) I10 hD10 hz10 r10 fun v11 I11 => fin I11 nx
  exact codeAny_compStart_list loop (T.self X.A 0 _ _ _ t4 loop)
/-- as a value -/
theorem pe_lcB {elt tg iter : Expr} {ifs : List Expr} {scope : Scope} {own : List (Str × Nat)} {pos : Pos} {wi : TI} (hs : X.stack = X.env :: X.outer) (hf : X.env.frame = some X.env.locals) (tk : Takes X W) (hc : X.calm = true) (hN : X.N.Nodup) (hi : PI X tg iter wi) (bo : BlkOk X.N X.env.scope scope own)
    {Q : VK} (h : tLcB X scope (fun c d _ H => W c d σ H) tg ifs elt wi (own.map (·.2)) σ H Q) (hfold : ∀ x, foldedSetIterable iter X.env x = pure x := by intro _; rfl) : tW X (.ListComp elt [⟨tg, iter, ifs, 0⟩] scope pos) σ H Q := by
  intro pins s I
  rw [eval_ListComp]
  refine lcE_core (W := W) hs hf tk hc hN I hi bo hfold h fun D s' m H' ce I' q hm f => ⟨m, hm, fun h2 sb => ?_⟩
  obtain ⟨f0, f1, f2, f3, f4, f5⟩ := f
  exact ⟨.ref D, H', I'.turned (t' := s'.toks) (fun b o hb e => (sb.2 b hb).trans e) f0 f1 f3 f4 f5, rfl, q⟩
/-- name = [..] in one row, the name a local -/
theorem ps_setLcB {i : Nat} {y : Str} {py : Pos} {elt tg iter : Expr} {ifs : List Expr} {scope : Scope} {own : List (Str × Nat)} {pos spos : Pos} {wi : TI} {Dn : Ends} (hs : X.stack = X.env :: X.outer) (hf : X.env.frame = some X.env.locals) (tk : Takes X W) (hc : X.calm = true) (hN : X.N.Nodup) (hi : PI X tg iter wi) (bo : BlkOk X.N X.env.scope scope own)
    (hy : X.N[i]? = some y) (hyl : X.env.scope.names.lookup y = some .local) (hsw : swapsWith (.ListComp elt [⟨tg, iter, ifs, 0⟩] scope pos) (some (.Name y py)) spos.line X.env = pure true)
    (h : tLcB X scope (fun c d _ H => W c d σ H) tg ifs elt wi (own.map (·.2)) σ H (fun x H1 => gName i x σ H1 Dn.nx)) (hfold : ∀ x, foldedSetIterable iter X.env x = pure x := by intro _; rfl) : tW1 X (.Assign [.Name y py] (.ListComp elt [⟨tg, iter, ifs, 0⟩] scope pos) spos) Dn σ H := by
  intro pins s I
  rw [exec_Assign_Name_used _ _ _ _ hsw]
  refine wpAny_bind (wpAny_standAt (wpAny_bind ?_))
  refine wpAny_bind (thn (lcE_core (W := W) (use := some (assign (.Name y py) X.env)) (Qf := fun _ s' => SP X pins Dn .next s') hs hf tk hc hN I hi bo hfold h fun L s' m H' ce I' q hm f => ?_) fun _ s' hq => wpAny_pure (wpAny_pure hq))
  refine wpAny_assign_Name (store_ok2 (v := V.ref L) I' hN hy (.inl hyl) rfl (fun s2 I2 ⟨a, sb, ha⟩ => ?_) (.inr hyl))
  obtain ⟨f0, f1, f2, f3, f4, f5⟩ := f
  have ne : ce.locals ≠ a := by
    rcases ha with z | z
    · rw [z]; exact f1
    · exact fun e => f4 y a z e.symm
  refine ⟨m, hm.sameBut sb ne, fun h3 sb3 => ?_⟩
  exact ⟨_, H', I2.turned (t' := s2.toks) (fun b o hb e => (sb3.2 b hb).trans e) f0 f1 f3 f4 f5, q⟩
end
end DL

/-! DL12: list comprehensions by data. -/
namespace DL
open PySem L2
/-- the slots vs forgotten -/
def wipeE (Γ : En) : List Nat → En
  | [] => Γ
  | v :: vs => (wipeE Γ vs).set v none
section
variable {K : PySem.W.Frag} {F : Fm} {G : Gh} {H : Hp} {σ : St} {Γ : En}
theorem Loc.drop {i : Nat} (E : Loc K G H σ Γ) : Loc K G H (σ.set i none) (Γ.set i none) := by
  have g : ∀ {j : Nat} {b : Bool} {e : D}, (Γ.set i none)[j]? = some (some (b, e)) → j ≠ i ∧ Γ[j]? = some (some (b, e)) := fun {j b e} h => by
    rcases set_get h with ⟨rfl, he⟩ | ⟨hj, h⟩
    · cases he
    · exact ⟨hj, h⟩
  have k : ∀ {j : Nat}, j ≠ i → (σ.set i none)[j]? = σ[j]? := fun {j} hj => List.getElem?_set_ne (Ne.symm hj)
  exact ⟨by rw [List.length_set, List.length_set]; exact E.len, E.ext, fun j e h => by rw [k (g h).1]; exact E.val j e (g h).2, fun j e h => by rw [k (g h).1]; exact E.own j e (g h).2,
    fun j l d e p hjl h1 h2 => by rw [k (g h1).1, k (g h2).1]; exact E.dis j l d e p hjl (g h1).2 (g h2).2⟩
theorem Loc.wiped (E : Loc K G H σ Γ) : ∀ vs : List Nat, Loc K G H (wipe σ vs) (wipeE Γ vs)
  | [] => E
  | v :: vs => (Loc.wiped E vs).drop
end
/-- a target of a comprehension: its slots are among vs -/
def TC (X : Cx) (tg : Expr) (d : D) (Γ : En) (vs : List Nat) (R : En → Prop) : Prop :=
  ∀ σ G H, Loc X.K G H σ Γ → ∀ v, Rep X.K G d v → ∀ Q : St → Hp → Prop, (∀ Γ' σ', R Γ' → Loc X.K G H σ' Γ' → wipe σ' vs = wipe σ vs → Q σ' H) → tWg X tg v σ H Q
def ETs (X : Cx) (ex : Exn → Prop) (ifs : List Expr) (Γ : En) (R : Bool → Prop) : Prop :=
  ∀ σ G H, Loc X.K G H σ Γ → ∀ W, Tk X W → ExAt X ex W σ G H → ∀ Q : Bool → Hp → Prop, (∀ b G' H', R b → Step0 G H G' H' → Q b H') → tWts X ifs σ H Q
section
variable {X : Cx} {ex : Exn → Prop} {Γ : En} {pos p : Pos}
theorem ets_nil {R : Bool → Prop} (h : R true) : ETs X ex [] Γ R := fun σ G H E W tk xa Q k pins s I => pts_nil.run pins s σ H Q I (k true G H h (.refl E.ext))
theorem ets_one {c : Expr} {R : Bool → Prop} (h : ET X ex c Γ R) : ETs X ex [c] Γ R := fun σ G H E W tk xa Q k pins s I => (pts_one (t := tWt X c) pt_W).run pins s σ H Q I (h σ G H E W tk xa Q k)
theorem set_wipe {σ : St} {i : Nat} {x : Option V} : ∀ {vs : List Nat}, i ∈ vs → wipe (σ.set i x) vs = wipe σ vs
  | v :: vs, h => by
    unfold wipe
    by_cases e : v = i
    · subst e
      by_cases hm : v ∈ vs
      · rw [set_wipe hm]
      · have : wipe (σ.set v x) vs = (wipe σ vs).set v x := by
          clear h
          induction vs with
          | nil => rfl
          | cons u us ih =>
            have hu : u ≠ v := fun z => hm (by rw [z]; exact List.mem_cons_self)
            unfold wipe
            rw [ih fun z => hm (List.mem_cons_of_mem _ z), List.set_comm _ _ (Ne.symm hu)]
        rw [this, List.set_set]
    · rw [set_wipe (List.mem_of_ne_of_mem (Ne.symm e) h)]
theorem tc_name {x : Str} {i : Nat} {d : D} {vs : List Nat} {R : En → Prop} (hN : X.N.Nodup) (hi : X.N[i]? = some x) (hx : L2.Loc X.env.scope x) (hv : i ∈ vs) (h : R (Γ.set i (some (false, d)))) (hf : X.fn x = true ∨ X.env.scope.names.lookup x = some .local := by first | exact .inl rfl | exact .inr rfl) : TC X (.Name x pos) d Γ vs R := by
  intro σ G H E v r Q k
  exact tWg_of (pg_name hN hi hx hf) (k _ _ h (E.setv r) (set_wipe hv))
theorem tc_two {t1 t2 : Expr} {k1 : Nat} {d1 d2 : D} {vs : List Nat} {R : En → Prop} (hc : X.calm = true) (h : TC X t1 d1 Γ vs fun Γ' => TC X t2 d2 Γ' vs R)
    (hn : (assignEach [t1, t2] X.env).length = 2 := by rfl) (hst : (assignEach [t1, t2] X.env).findIdx? (·.1) = none := by rfl)
    (ha : (assignEach [t1, t2] X.env).map (·.2) = assign t1 X.env :: (assignEach [t2] X.env).map (·.2) := by rfl) (hb : (assignEach [t2] X.env).map (·.2) = assign t2 X.env :: (assignEach [] X.env).map (·.2) := by rfl) : TC X (.Tuple [t1, t2] k1 pos) (.tup [d1, d2]) Γ vs R := by
  intro σ G H E v r Q k
  refine tWg_of (pg_tup hc (pgs_cons (t := tWg X t1) pg_W (pgs_cons (t := tWg X t2) pg_W pgs_nil hb) ha) hn hst) ?_
  cases r with
  | tup hp q =>
    obtain ⟨v1, v2, rfl, r1, r2⟩ := rep2 q
    refine ⟨_, _, rfl, SqT.of (E.ext _ _ hp), rfl, v1, [v2], rfl, ?_⟩
    refine h σ G H E v1 r1 _ fun Γ1 σ1 h1 E1 w1 => ?_
    refine ⟨v2, [], rfl, ?_⟩
    exact h1 σ1 G H E1 v2 r2 _ fun Γ2 σ2 h2 E2 w2 => ⟨rfl, k Γ2 σ2 h2 E2 (w2.trans w1)⟩

/-- a turn of the comprehension, in its block -/
def LcTurn (X : Cx) (ex : Exn → Prop) (elt tg : Expr) (ifs : List Expr) (Γ : En) (vs : List Nat) (d : D) (acc : List D) (I : List D → Prop) : Prop :=
  TC X tg d Γ vs fun Γ' => ETs X ex ifs Γ' fun b => (b = true → ED X ex elt Γ' fun _ y => acc.length < sizeLine ∧ I (acc ++ [y])) ∧ (b = false → I acc)
def LcD (X : Cx) (ex : Exn → Prop) (elt tg it : Expr) (ifs : List Expr) (scope : Scope) (Γ : En) (vs : List Nat) (R : List D → Prop) : Prop :=
  EI X ex tg it Γ fun ds => ∃ I : Nat → List D → Prop, I 0 [] ∧
    (∀ i d acc, ds[i]? = some d → I i acc → ∀ s H C cl fp xe, LcTurn (blkX X s H scope (compEnvC scope cl C X.env) fp xe) ex elt tg ifs (wipeE Γ vs) vs d acc (I (i + 1))) ∧ ∀ acc, I ds.length acc → R acc
theorem RepsW.snoc {K : PySem.W.Frag} {G : Gh} {xs : List D} {vs : List V} {d : D} {v : V} (h : Reps K G xs vs) (r : Rep K G d v) : Reps K G (xs ++ [d]) (vs ++ [v]) := h.append (.cons r .nil)
theorem wipe_sub {σ : St} {vs : List Nat} : ∀ {us : List Nat}, (∀ i ∈ us, i ∈ vs) → wipe (wipe σ us) vs = wipe σ vs
  | [], _ => rfl
  | u :: us, h => by
    show wipe ((wipe σ us).set u none) vs = _
    rw [set_wipe (h u List.mem_cons_self)]
    exact wipe_sub fun i hi => h i (List.mem_cons_of_mem _ hi)
theorem lc_D {elt tg it : Expr} {ifs : List Expr} {scope : Scope} {vs : List Nat} {R : List D → Prop} (h : LcD X ex elt tg it ifs scope Γ vs R) :
    ∃ wi, PI X tg it wi ∧ ∀ σ G H, Loc X.K G H σ Γ → ∀ W, Tk X W → ExAt X ex W σ G H → ∀ Q : VK, (∀ acc d G' H', R acc → Step0 G H G' H' → H d = none → G' d = none → OwnAt X.K G' H' d (.lst acc) → Q (.ref d) H') →
      tLcB X scope (fun c d _ H => W c d σ H) tg ifs elt wi vs σ H Q := by
  obtain ⟨wi, hpi, hw⟩ := h
  refine ⟨wi, hpi, fun σ G H E W tk xa Q k => ?_⟩
  refine hw σ G H E W tk xa _ fun J ds G1 H1 hR s1 sq => ?_
  obtain ⟨I, h0, hst, hend⟩ := hR
  intro d hd s0 H0 C cl fp xe tkb
  refine ⟨fun i m H' => m = ds.length - i ∧ i ≤ ds.length ∧ ∃ G' acc us, Step0 G1 H1 G' H' ∧ G' d = none ∧ H' d = some (.lst us) ∧ Reps X.K G' acc us ∧ I i acc, ⟨ds.length, rfl, Nat.zero_le _, G1, [], [], .alloc s1.ext hd, s1.ext.gfree hd, upd_same, .nil, h0⟩, ?_⟩
  rintro i m H' ⟨rfl, hi, G', acc, us, s2, nd, hd', r, hI⟩
  have e1 : Ext G1 H' := fun a g q => s2.ext a g (s2.le a g q)
  by_cases hlt : i < ds.length
  · refine .inr ⟨sq.go i H' hlt e1, fun H2 => ∃ G2 acc us, Step0 G1 H1 G2 H2 ∧ G2 d = none ∧ H2 d = some (.lst us) ∧ Reps X.K G2 acc us ∧ I (i + 1) acc, fun H2 z => ⟨ds.length - (i + 1), by omega, rfl, hlt, z⟩, fun x H2 y => ?_⟩
    obtain ⟨G2, dd, s3, hdd, rd⟩ := sq.give i G' H' x H2 hlt s2.le s2.ext y
    have E2 := (E.go ((s1.trans s2).trans s3)).wiped vs
    have n2 := s3.gfree hd' nd
    have h2 := s3.kept d _ hd' nd id
    refine hst i dd acc hdd hI s0 H0 C cl fp xe (wipe σ vs) G2 H2 E2 x rd _ fun Γ3 σ3 h3 E3 w3 => ⟨w3.trans (wipe_sub fun i hi => hi), ?_⟩
    have xb : ExAt (blkX X s0 H0 scope (compEnvC scope cl C X.env) fp xe) ex (fun c d _ H => W c d σ H) σ3 G2 H2 := fun y c dy G' H' hy s he => xa y c dy G' H' hy (((s1.trans s2).trans s3).trans s) (he.older ((s1.trans s2).trans s3))
    refine h3 σ3 G2 H2 E3 _ tkb xb _ fun b G3 H3 hb s4 => ?_
    have n3 := s4.gfree h2 n2
    have h3' := s4.kept d _ h2 n2 id
    cases b with
    | false => exact ⟨G3, acc, us, (s2.trans s3).trans s4, n3, h3', r.mono (s3.trans s4).le, hb.2 rfl⟩
    | true =>
      refine ED.use (R := fun _ y => acc.length < sizeLine ∧ I (i + 1) (acc ++ [y])) ((hb.1 rfl).imp fun _ _ h => h) (E3.go s4) tkb (xb.go s4) fun y v G4 H4 hy s5 ry => ?_
      have n4 := s5.gfree h3' n3
      have h4 := s5.kept d _ h3' n3 id
      have r4 := r.mono ((s3.trans s4).trans s5).le
      refine ⟨us, h4, by rw [← r.length]; exact hy.1, G4, acc ++ [y], us ++ [v], ?_, n4, upd_same, r4.append (.cons ry .nil), hy.2⟩
      exact (((s2.trans s3).trans s4).trans s5).write (.inl hd) n4
  · have ei : i = ds.length := by omega
    subst ei
    exact .inl ⟨sq.stop H' e1, k acc d G' H' (hend acc hI) (s1.trans s2) (s1.free hd) nd (.lst hd' r)⟩
/-- [elt for tg in it if ..] -/
theorem ed_lc {elt tg it : Expr} {ifs : List Expr} {scope : Scope} {own : List (Str × Nat)} {R : Bool → D → Prop} (hc : X.calm = true) (hN : X.N.Nodup) (bo : BlkOk X.N X.env.scope scope own) (h : LcD X ex elt tg it ifs scope Γ (own.map (·.2)) fun acc => R true (.lst acc))
    (hs : X.stack = X.env :: X.outer := by rfl) (hf : X.env.frame = some X.env.locals := by rfl) (hfold : ∀ x, foldedSetIterable it X.env x = pure x := by intro _; rfl) : ED X ex (.ListComp elt [⟨tg, it, ifs, 0⟩] scope pos) Γ R := by
  obtain ⟨wi, hpi, h⟩ := lc_D h
  intro σ G H E W tk xa Q k
  exact pe_lcB hs hf (tk.held hf) hc hN hpi bo (h σ G H E W tk xa Q fun acc d G' H' hR s hd nd w => k true _ _ G' H' hR s ⟨d, rfl, hd, nd, w⟩) hfold
end
section
variable {X : Cx} {ex : EX} {Γ : En} {P : Po} {pos p apos : Pos}
/-- x = [elt for ..], x a local of the def -/
theorem w_asgLc {x : Str} {i : Nat} {elt tg it : Expr} {ifs : List Expr} {scope : Scope} {own : List (Str × Nat)} {p' : Pos} (hc : X.calm = true) (hN : X.N.Nodup) (bo : BlkOk X.N X.env.scope scope own) (hi : X.N[i]? = some x) (hxl : X.env.scope.names.lookup x = some .local)
    (h : LcD X (fun y => ex y Γ) elt tg it ifs scope Γ (own.map (·.2)) fun acc => P.nx (Γ.set i (some (true, .lst acc))))
    (hsw : swapsWith (.ListComp elt [⟨tg, it, ifs, 0⟩] scope p) (some (.Name x p')) pos.line X.env = pure true)
    (hs : X.stack = X.env :: X.outer := by rfl) (hf : X.env.frame = some X.env.locals := by rfl) (hfold : ∀ x, foldedSetIterable it X.env x = pure x := by intro _; rfl) : W1 X ex (.Assign [.Name x p'] (.ListComp elt [⟨tg, it, ifs, 0⟩] scope p) pos) Γ P := by
  obtain ⟨wi, hpi, h⟩ := lc_D h
  intro F σ G H E W xk Dn lk
  refine ps_setLcB hs hf xk.tk hc hN hpi bo hi hxl hsw (h σ G H E.loc W xk.te (xk.lk.at E) _ fun acc d G' H' hR s hd nd w => ?_) hfold
  exact lk.nx G' H' _ _ hR (E.seto s hd nd w) s.le
end
end DL

/-! DL13: try .. except X as e; e.f -/
namespace DL
open PySem L2
section
variable {K : PySem.W.Frag} {F : Fm} {G : Gh} {H : Hp} {σ : St} {Γ : En}
theorem EnvOk.drops {i : Nat} (E : EnvOk K F G H σ Γ) : EnvOk K F G H (σ.set i none) (Γ.set i none) :=
  ⟨E.loc.drop, E.step, fun j d p h1 h2 => by
    rcases set_get h1 with ⟨rfl, he⟩ | ⟨hj, h1⟩
    · cases he
    · rw [List.getElem?_set_ne (Ne.symm hj)] at h2
      exact E.lent j d p h1 h2⟩
/-- an exception's dict becomes known -/
theorem EnvOk.knowX {dd : Addr} {fvs : List (Str × V)} (E : EnvOk K F G H σ Γ) (h : H dd = some (.xd fvs)) (n : G dd = none) (h0 : F.H0 dd = none) : EnvOk K F (gupd G dd (.ho (.xd fvs))) H σ Γ := by
  have le : Le G (gupd G dd (.ho (.xd fvs))) := Le.gupd n
  have st : Step F.B F.G0 F.H0 (gupd G dd (.ho (.xd fvs))) H := E.step.know h0 h n
  refine ⟨⟨E.loc.len, st.ext, fun i d q => ?_, fun i d q => ?_, E.loc.dis⟩, st, E.lent⟩
  · obtain ⟨v, a, b⟩ := E.loc.val i d q
    exact ⟨v, a, b.mono le⟩
  · obtain ⟨p, a, b, c⟩ := E.loc.own i d q
    have ne : p ≠ dd := fun z => by
      subst z
      exact c.notx h
    exact ⟨p, a, by rw [gupd_ne ne]; exact b, c.mono le fun o h => h⟩
end
/-- a caught exception as data: with its own dict, or without -/
def ExD (a : Addr) (d : Option Addr) (fs : List (Str × D)) (y : D) : Prop := (d = none ∧ fs = [] ∧ y = .ref a) ∨ ∃ dd, d = some dd ∧ y = .exn a dd fs
section
variable {X : Cx} {ex : EX} {Γ : En} {P : Po} {pos p : Pos}
/-- try: body except x as n: suite -/
theorem w_tryAs {x n : Str} {c : Value} {i : Nat} {body suite : List Stmt} {b₀ : Stmt} {np pos' : Pos} (hN : X.N.Nodup) (hi : X.N[i]? = some n) (hln : X.env.kindOf n = some .local) (hc : Names X x c)
    (h : ∀ (pn : List (Addr × Obj)) (xe : Value → Shared → Prop), WD (X.tr pn xe) (fun y Γ' => ∃ b, PySem.W.exmOne X.K (.ref y.cls) c = some b ∧
      (b = true → ∀ a oe pn d z, Zc (.ref y.cls) d oe → (∃ vs, oe.data = .fields vs) → ExD a d y.fs z → WD (X.suite a ((a, oe) :: pn)) noEx (b₀ :: suite) (Γ'.set i (some (false, z))) { P with nx := fun Γ => P.nx (Γ.set i none), bk := fun Γ => P.bk (Γ.set i none), ct := fun Γ => P.ct (Γ.set i none), rt := fun o d Γ => P.rt o d Γ }) ∧
      (b = false → ex y Γ')) body Γ P) (hs : X.stack = X.env :: X.outer := by rfl) (hf : X.env.frame = some X.env.locals := by rfl) :
    W1 X ex (.Try body [.ExceptHandler (some (.Name x np)) (some n) (b₀ :: suite) pos'] [] [] pos) Γ P := by
  intro F σ G H E W xk Dn lk
  refine tW1_of (ps_try_as (tb := fun W' D σ H => ∀ (pn : List (Addr × Obj)) (xe : Value → Shared → Prop), Takes (X.tr pn xe) W' → PassesOwn (model X.prog X.w) X.A X.env xe → tWs (X.tr pn xe) body D σ H)
    (ts := fun a cls d D σ H => ∀ (oe : Obj) (pn : List (Addr × Obj)), Zc cls d oe → (∃ vs, oe.data = .fields vs) → tWs (X.suite a ((a, oe) :: pn)) (b₀ :: suite) D σ H) hs hf hN hi hln hc xk.tk
    (fun W' pn xe tk po => ⟨fun pins s σ H D I hh => hh pn xe tk po pins s I⟩) (fun a oe cls d pn hz hd => ⟨fun pins s σ H D I hh => hh oe pn hz hd pins s I⟩)) ?_
  intro pn xe tk po
  refine h pn xe F σ G H E _ ⟨tk, po, fun y cv d G1 H1 σ1 Γ1 hy E1 le he => ?_⟩ Dn lk
  obtain ⟨b, hb, hy1, hy0⟩ := hy
  obtain ⟨rfl, he'⟩ := id he
  refine ⟨b, hb, fun eb a na oe pn' hz hfl => ?_, fun eb => xk.lk y _ d G1 H1 σ1 Γ1 (hy0 eb) E1 le he⟩
  have key : ∀ (z : D) (G2 : Gh), ExD a d y.fs z → Le G G2 → EnvOk X.K F G2 H1 σ1 Γ1 → Rep X.K G2 z (.ref a) → tWs (X.suite a ((a, oe) :: pn')) (b₀ :: suite) { nx := fun σ' H' => Dn.nx (σ'.set i none) H', rt := Dn.rt, bk := fun σ' H' => Dn.bk (σ'.set i none) H', ct := fun σ' H' => Dn.ct (σ'.set i none) H' } (σ1.set i (some (.ref a))) H1 := fun z G2 hz2 le2 E2 r2 =>
    hy1 eb a oe pn' d z hz hfl hz2 F _ G2 H1 (E2.setv r2) _ (xok_suite rfl) _ ⟨fun G3 H3 σ3 Γ3 h3 E3 l3 => lk.nx G3 H3 _ _ h3 E3.drops (le2.trans l3), fun o d v G3 H3 σ3 Γ3 h3 E3 r3 l3 => lk.rt o d v G3 H3 σ3 Γ3 h3 E3 r3 (le2.trans l3),
      fun G3 H3 σ3 Γ3 h3 E3 l3 => lk.bk G3 H3 _ _ h3 E3.drops (le2.trans l3), fun G3 H3 σ3 Γ3 h3 E3 l3 => lk.ct G3 H3 _ _ h3 E3.drops (le2.trans l3), lk.nb⟩
  rcases he' with ⟨rfl, hfs⟩ | ⟨dd, fvs, rfl, a2, a3, a4, a5, a6⟩
  · exact key (.ref a) G1 (.inl ⟨rfl, hfs, rfl⟩) le E1 .ref
  · exact key (.exn a dd y.fs) (gupd G1 dd (.ho (.xd fvs))) (.inr ⟨dd, rfl, rfl⟩) (le.trans (Le.gupd a3)) (E1.knowX a2 a3 a4) (.exn gupd_same (a5.mono (Le.gupd a3)))
/-- e.f in an except suite -/
theorem ed_xf {ex : Exn → Prop} {R : Bool → D → Prop} {a C dd : Addr} {oe : Obj} {pn : List (Addr × Obj)} {e : Expr} {f : Str} {fs : List (Str × D)} (T : XfC X.K C) (hno : PySem.W.findIn X.K (.ref C) f = some none) (hz : Zc (.ref C) (some dd) oe) (hfl : ∃ vs, oe.data = .fields vs)
    (h : ED (X.suite a ((a, oe) :: pn)) ex e Γ fun _ d => d = .exn a dd fs ∧ ∃ v, fs.lookup f = some v ∧ R false v) (hb : attributeBase e f X.env (eval e X.env) = eval e X.env := by rfl) : ED (X.suite a ((a, oe) :: pn)) ex (.Attribute e f pos) Γ R := by
  intro σ G H E W tk xa Q k
  refine tW_of (pe_xf (te := tW (X.suite a ((a, oe) :: pn)) e) T hno hz hfl pe_W hb) ?_
  refine ED.use (R := fun _ d => d = .exn a dd fs ∧ ∃ v, fs.lookup f = some v ∧ R false v) (h.imp fun _ _ h => h) E tk xa fun d v G1 H1 h1 s1 r1 => ?_
  obtain ⟨rfl, z, hl, hR⟩ := h1
  cases r1 with
  | exn hd q =>
    obtain ⟨w, ew, rw'⟩ := q.get hl
    exact ⟨rfl, rfl, dd, _, w, rfl, s1.ext _ _ hd, ew, k false z w G1 H1 hR s1 rw'⟩
end
end DL

/-! DL14: the head's facts, the law's end. -/
namespace DL
open PySem L2 PySem.Spec PyProof.Rows
/-! ### facts as checks -/
def oexB (K : PySem.W.Frag) (C : Addr) : Bool := (match K.lookup C with
  | some ⟨.type t, _, .cls cd, sl⟩ => decide (t = "type") && ((match cd.mro with
      | .ref C' :: bm => decide (C' = C) && PySem.HandSPX.refsVE bm
      | _ => false) && (cd.hasDict && (!cd.hasDel && match sl.toList with
      | [_, _, _, _, some (.builtin n), _] => decide (n = "ValueError.__new__")
      | _ => false)))
  | _ => false) && (He.eqO (PySem.W.findIn K (.ref C) "__setattr__") (some (some (.builtin "object.__setattr__"))) && (decide (PySem.W.subIn K (.ref C) (.type "BaseException") = some true) && (decide (PySem.W.typeIn K (.ref C) = some (.type "type")) && PySem.W.keepIn K (.ref C))))
theorem oexB_ok {K : PySem.W.Frag} {C : Addr} (h : oexB K C = true) : OexC K C := by
  unfold oexB at h
  obtain ⟨h1, h⟩ := He.ba h
  obtain ⟨h2, h⟩ := He.ba h
  obtain ⟨h3, h⟩ := He.ba h
  obtain ⟨h4, h5⟩ := He.ba h
  refine ⟨?_, He.eqO_ok h2, of_decide_eq_true h3, of_decide_eq_true h4, h5⟩
  cases e : K.lookup C with
  | none => rw [e] at h1; cases h1
  | some o =>
    rw [e] at h1
    obtain ⟨oc, od, dt, sl⟩ := o
    cases oc with
    | type t =>
      cases dt with
      | cls cd =>
        obtain ⟨a1, h1⟩ := He.ba h1
        obtain ⟨a2, h1⟩ := He.ba h1
        obtain ⟨a3, h1⟩ := He.ba h1
        obtain ⟨a4, a5⟩ := He.ba h1
        obtain ⟨nm, bs, mro, ns, qn, hd, sn, sb, ab, col, del⟩ := cd
        dsimp only at a2 a3 a4
        subst a3
        cases mro with
        | nil => cases a2
        | cons m0 bm =>
          cases m0 with
          | ref C' =>
            obtain ⟨b1, b2⟩ := He.ba a2
            have b1 : C' = C := of_decide_eq_true b1
            have a1 : t = "type" := of_decide_eq_true a1
            subst b1 a1
            have a4 : del = false := by cases del <;> first | rfl | cases a4
            subst a4
            obtain ⟨sl⟩ := sl
            match sl, a5 with
            | [k0, k1, k2, k3, some (.builtin n), k5], a5 =>
              have a5 : n = "ValueError.__new__" := of_decide_eq_true a5
              subst a5
              exact ⟨nm, qn, ns, bs, bm, sn, sb, ab, col, od, k0, k1, k2, k3, k5, rfl, b2⟩
          | _ => cases a2
      | _ => cases h1
    | _ => cases dt <;> cases h1
def jinB (K : PySem.W.Frag) (C : Addr) : Bool := PySem.W.readsIn K C (.type "type") && (He.eqO (PySem.W.specialIn K (.ref C) "__getattribute__") (some (some (.builtin "type.__getattribute__"))) && match PySem.W.findCls K (.ref C) (.type "type") "__init__" with
  | some (.val (.builtin g)) => decide (g = "ValueError.__init__")
  | _ => false)
theorem jinB_ok {K : PySem.W.Frag} {C : Addr} (h : jinB K C = true) : JIn K C := by
  unfold jinB at h
  obtain ⟨h1, h⟩ := He.ba h
  obtain ⟨h2, h3⟩ := He.ba h
  refine ⟨h1, He.eqO_ok h2, ?_⟩
  cases e : PySem.W.findCls K (.ref C) (.type "type") "__init__" with
  | none => rw [e] at h3; cases h3
  | some c =>
    rw [e] at h3
    cases c with
    | val v =>
      cases v with
      | builtin g =>
        have : g = "ValueError.__init__" := of_decide_eq_true h3
        rw [this]
      | _ => cases h3
    | get _ _ _ _ => cases h3
/-! ### the hook: facts, defs, one check more -/
def obsE (fa : List He.Fa) (fn : List He.DefD) (ex : PySem.W.Frag → Bool) (K : PySem.W.Frag) : He.AlD × Bool := (He.obsD fa fn K, ex K)
def SaysE (fa : List He.Fa) (fn : List He.DefD) (ex : PySem.W.Frag → Bool) (K : PySem.W.Frag) : Prop := obsE fa fn ex K = (He.valD fn, true)
def obsEG (n : Nat) (fa : List He.Fa) (fn : List He.DefD) (ex : PySem.W.Frag → Bool) (g : Addr → Option Obj) : He.AlD × Bool := obsE fa fn ex (He.frG g (cStatics :: He.asD g n))
def hookE (n : Nat) (fa : List He.Fa) (fn : List He.DefD) (ex : PySem.W.Frag → Bool) : PySem.W.Hook where
  α := He.AlD × Bool
  obs := fun s => obsEG n fa fn ex s.heap.get?
  val := fun _ => (He.valD fn, true)
  says := fun _ h => ∃ K : PySem.W.Frag, K.In h ∧ SaysE fa fn ex K
  of := fun _ _ e => ⟨_, He.frG_in, e⟩
  keeps := fun _ _ _ ⟨K, hK, c⟩ k => ⟨K, PySem.W.Frag.In.keeps hK k, c⟩
theorem obsEG_eq {n : Nat} {fa : List He.Fa} {fn : List He.DefD} {ex : PySem.W.Frag → Bool} {g : Addr → Option Obj} {s : Shared} (h : ∀ a, g a = s.heap.get? a) : obsEG n fa fn ex g = (hookE n fa fn ex).obs s := by
  have e : g = s.heap.get? := funext h
  rw [e] <;> rfl
section
variable {fa : List He.Fa} {fn : List He.DefD} {ex : PySem.W.Frag → Bool} {K : PySem.W.Frag}
theorem SaysE.d (c : SaysE fa fn ex K) : He.SaysD fa fn K := congrArg (fun z : He.AlD × Bool => z.1) c
theorem SaysE.x (c : SaysE fa fn ex K) : ex K = true := congrArg (fun z : He.AlD × Bool => z.2) c
end
/-! ### the law's end -/
/-- a law's promise -/
def phLaw : Ph := fun ds rt _ => ∃ ns : List Int, ds = [.scr ns] ∧ ns.length ≤ 63 ∧ rt false (.bl true)
theorem law_end {l : PySem.W.OpenLaw} {k : Nat} {q : Program} {loose : List Str} {XP : (Str → Option Value) → Heap → Prop} {YP : World → Heap → Prop} {d : DefRec} {x : Str}
    (hn : l.most = some 63) (hdf : d.params.defaults = []) (hr : Room k callerA)
    (F : ∀ (w : World) (mg : Str → Option Value) (fa : Addr) (h : Heap), YP w h → h.Ns mainGlobals mg → mg d.name = some (.ref fa) →
      ∃ K : PySem.W.Frag, K.In h ∧ (∃ fd, (∀ (s : Shared) (u : Value), BindsTo s fd ⟨[u], []⟩ [(x, u)]) ∧ ∀ base : Heap, K.In base → base.Ns mainGlobals mg → FnOk l.prog w K mg base (L2.CX l.prog w) k fa fd [x] (spD K 1 phLaw))) :
    PySem.W.WalkO q loose XP YP l.row.toRowW d [] (fun f vs => PySem.call f vs) := by
  refine Att.attach_call hn hdf fun w s₀ s₁ mg mb fa o pm cd doc a vs ns G Y ho hd hcd hmg hobj hints hlen hg => ?_
  obtain ⟨K, KX, fd, hb, hF⟩ := F w mg fa _ Y G.T.g hmg
  refine law_call KX G.T.g G.T.b G.T.builtins G.T.nolimit hg hobj hints (Nat.le_trans hlen (by decide)) hr hF hb (fun H hO hS => ?_) fun H e s' c => ?_
  · refine ⟨fun b => if b = a then (H b).map GO.ho else none, [.scr ns], fun o d => o = false ∧ d = .bl true, fun _ => False, fun b g e => ?_, .cons (.scr ?_) .nil, rfl, ⟨ns, rfl, hlen, rfl, rfl⟩, fun o d v G' H' h _ r => ?_, fun _ _ _ _ _ h => h.elim⟩
    · by_cases hba : b = a
      · dsimp only at e
        rw [if_pos hba] at e
        cases q : H b with
        | none => rw [q] at e; cases e
        | some u => rw [q] at e; cases e; exact q
      · dsimp only at e
        rw [if_neg hba] at e; cases e
    · rcases hS with (h | ⟨o, h⟩) | h
      · rcases hO a with e | ⟨o, xs, e⟩
        · rw [e] at h; cases h
        · rw [e] at h; cases h
      · exact .inl ⟨o, (if_pos rfl).trans (by rw [h]; rfl)⟩
      · exact .inr h
    · obtain ⟨rfl, rfl⟩ := h
      cases r
      rfl
  · obtain ⟨_, _, _, _, _, _, _, _, _, _, _, _, z⟩ := c
    exact z
end DL

/-! DL15: more words. -/
namespace DL
open PySem L2
section
variable {X : Cx} {ex : Exn → Prop} {Γ : En} {R : Bool → D → Prop} {pos p apos : Pos}
/-- -e -/
theorem ed_neg {e : Expr} (h : ED X ex e Γ fun _ d => ∃ i : Int, d = .int i ∧ R false (.int (-i))) : ED X ex (.UnaryOp .USub e pos) Γ R := by
  intro σ G H E W tk xa Q k
  refine tW_of (pe_un un_neg (pe_W (e := e))) ?_
  refine ED.use (R := fun _ d => ∃ i : Int, d = .int i ∧ R false (.int (-i))) (h.imp fun _ _ h => h) E tk xa fun d v G1 H1 h1 s1 r1 => ?_
  obtain ⟨i, rfl, hR⟩ := h1
  cases r1
  exact ⟨i, rfl, k _ _ _ G1 H1 hR s1 .int⟩
theorem op_mul_si : OpR X (binaryOp .Mult) (fun x y H Q => ∃ (a : Str) (n : Int), x = .str a ∧ y = .int n ∧ MulOk a n ∧ Q (.str (Txt.mul a n)) H) := by
  intro pins s σ H x y v u Q I rx ry h
  obtain ⟨a, n, rfl, rfl, hok, q⟩ := h
  obtain ⟨t, rfl⟩ := rx
  obtain ⟨t2, rfl⟩ := ry
  refine SB.mul hok fun t' k => ⟨.str (Txt.mul a n), H, I.tok _, ⟨_, rfl⟩, q⟩
theorem mul_si {x : Str} {n : Int} (hok : MulOk x n) (h : R false (.str (Txt.mul x n))) : BinR X .Mult (.str x) (.int n) R := .of op_mul_si fun G H x y E r1 r2 Q k => by
  cases r1; cases r2
  exact ⟨_, n, rfl, rfl, hok, k _ _ _ G H h (.refl E) .str⟩
theorem ed_sindex {o e : Expr} (h : ED X ex o Γ fun _ d => ∃ a : Str, d = .str a ∧ ED X ex e Γ fun _ f => ∃ (b : Str) (i : Nat) (rest : List Nat), f = .str b ∧ Builtin.Str.occurrences a b 0 a.length 1 = i :: rest ∧ R false (.int (i : Nat)))
    (hs : starEach [e] X.env = [(false, eval e X.env)] := by rfl) (hbase : attributeBase o "index" X.env (eval o X.env) = eval o X.env := by rfl) (hline : (apos.endLine == pos.line) = true := by rfl) : ED X ex (.Call (.Attribute o "index" apos) [e] [] pos) Γ R :=
  ed_m1 PySem.F.slot_str_index PySem.F.type_str_index mt_sindex (h.imp fun _ d ⟨a, e, h1⟩ => ⟨a, e, h1.imp fun _ f ⟨b, i, rest, ef, ho, hR⟩ v G H E r Q k => by
    subst ef
    cases r
    exact ⟨a, b, i, rest, rfl, rfl, ho, k _ _ _ G H hR (.refl E) .int⟩⟩) hs hbase hline
end
section
variable {X : Cx} {ex : EX} {Γ : En} {P : Po} {pos p apos : Pos}
/-- x.reverse(), x an own list -/
theorem w_rev {x : Str} {i : Nat} {xs : List D} (hN : X.N[i]? = some x) (hv : Vis X.env.scope x) (hΓ : Γ[i]? = some (some (true, .lst xs))) (h : P.nx (Γ.set i (some (true, .lst xs.reverse))))
    (hs : swapsWith (.Call (.Attribute (.Name x p) "reverse" apos) [] [] pos) none pos.line X.env = pure false := by rfl)
    (hbase : attributeBase (.Name x p) "reverse" X.env (eval (.Name x p) X.env) = eval (.Name x p) X.env := by rfl) (hline : (apos.endLine == pos.line) = true := by rfl)
    (hd : (x == ("__debug__" : Str)) = false := by decide) (hcd : (x == ("__classdict__" : Str)) = false := by decide) : W1 X ex (.Expr (.Call (.Attribute (.Name x p) "reverse" apos) [] [] pos) pos) Γ P := by
  intro F σ G H E W xk Dn lk
  refine tW1_of (ps_expr (pe_bm0 PySem.F.plainAttrs_list PySem.F.slot_list_reverse PySem.F.type_list_reverse mt_reverse (pe_var hN hv hd hcd) hbase hline) hs) ?_
  obtain ⟨q, h1, h2, h3⟩ := E.loc.own i _ hΓ
  cases h3 with
  | lst hp r => exact ⟨_, h1, ty_list hp, q, _, rfl, rfl, hp, lk.nx G _ σ _ h (E.write hΓ h1 (.lst upd_same r.reverse)) (Le.refl _)⟩
end
end DL

/-! DL16: plain laws: == of rows of the same kind; texts. -/
namespace DL
open PySem L2
/-- data of one kind, told by == -/
structure Emb {α : Type} (f : α → D) (n : Nat) (P : α → Prop) : Prop where
  py : ∀ a, isPy (f a) = true
  lay : ∀ a, P a → (toPy (f a)).canLay0 = true
  dep : ∀ a, (toPy (f a)).depth ≤ n
  eq : ∀ a b, eqD (f a) (f b) = true ↔ a = b
theorem Emb.ok {α : Type} {f : α → D} {n : Nat} {P : α → Prop} (E : Emb f n P) (hn : n ≤ 64) {a : α} (h : P a) : eqOk (f a) = true := by
  unfold eqOk SeqAt.shaped
  rw [E.py, E.lay a h, decide_eq_true (Nat.le_trans (E.dep a) hn)]
  rfl
theorem Emb.dec {α : Type} [DecidableEq α] {f : α → D} {n : Nat} {P : α → Prop} (E : Emb f n P) (a b : α) : eqD (f a) (f b) = decide (a = b) := by
  have := E.eq a b
  cases h : eqD (f a) (f b) with
  | true => exact (decide_eq_true (this.mp h)).symm
  | false => exact (decide_eq_false fun e => by rw [this.mpr e] at h; cases h).symm
theorem Emb.int : Emb D.int 0 (fun _ => True) where
  py := fun _ => by simp [isPy]
  lay := fun _ _ => by simp [toPy, PyData.canLay0]
  dep := fun _ => by simp [toPy, PyData.depth]
  eq := fun a b => by simp [eqD, toPy, PyData.eqv]
theorem Emb.str : Emb D.str 0 (fun s => PyData.strOk s = true) where
  py := fun _ => by simp [isPy]
  lay := fun _ h => by simp only [toPy, PyData.canLay0]; exact h
  dep := fun _ => by simp [toPy, PyData.depth]
  eq := fun a b => by simp [eqD, toPy, PyData.eqv]
theorem Emb.bl : Emb D.bl 0 (fun _ => True) where
  py := fun _ => by simp [isPy]
  lay := fun _ _ => by simp [toPy, PyData.canLay0]
  dep := fun _ => by simp [toPy, PyData.depth]
  eq := fun a b => by simp [eqD, toPy, PyData.eqv]
section
variable {α β : Type} {f : α → D} {g : β → D} {n m : Nat} {P : α → Prop} {Q : β → Prop}
theorem Emb.pys (E : Emb f n P) : ∀ xs : List α, isPys (xs.map f) = true
  | [] => by simp [isPys]
  | x :: xs => by rw [List.map_cons]; unfold isPys; rw [E.py, Emb.pys E xs]; rfl
theorem Emb.lays (E : Emb f n P) : ∀ xs : List α, (∀ x ∈ xs, P x) → PyData.canLayAll0 (toPys (xs.map f)) = true
  | [], _ => by simp [toPys, PyData.canLayAll0]
  | x :: xs, h => by
    rw [List.map_cons]; unfold toPys PyData.canLayAll0
    rw [E.lay x (h x List.mem_cons_self), Emb.lays E xs fun y hy => h y (List.mem_cons_of_mem _ hy)]; rfl
theorem Emb.deps (E : Emb f n P) : ∀ xs : List α, PyData.depthAll (toPys (xs.map f)) ≤ n
  | [] => by simp [toPys, PyData.depthAll]
  | x :: xs => by
    rw [List.map_cons]; unfold toPys PyData.depthAll
    exact Nat.max_le.mpr ⟨E.dep x, Emb.deps E xs⟩
theorem Emb.eqs (E : Emb f n P) : ∀ xs ys : List α, PyData.eqvAll (toPys (xs.map f)) (toPys (ys.map f)) = true ↔ xs = ys
  | [], [] => by simp [toPys, PyData.eqvAll]
  | [], y :: ys => by simp [toPys, PyData.eqvAll]
  | x :: xs, [] => by simp [toPys, PyData.eqvAll]
  | x :: xs, y :: ys => by
    rw [List.map_cons, List.map_cons]; unfold toPys PyData.eqvAll
    rw [Bool.and_eq_true, Emb.eqs E xs ys, List.cons.injEq]
    exact and_congr (E.eq x y) Iff.rfl
theorem Emb.lst (E : Emb f n P) : Emb (fun xs : List α => D.lst (xs.map f)) (n + 1) (fun xs => ∀ x ∈ xs, P x) where
  py := fun xs => by simp only [isPy]; exact E.pys xs
  lay := fun xs h => by simp only [toPy, PyData.canLay0]; exact E.lays xs h
  dep := fun xs => by simp only [toPy, PyData.depth]; exact Nat.succ_le_succ (E.deps xs)
  eq := fun a b => by simp only [eqD, toPy, PyData.eqv]; exact E.eqs a b
theorem Emb.tupl (E : Emb f n P) : Emb (fun xs : List α => D.tup (xs.map f)) (n + 1) (fun xs => ∀ x ∈ xs, P x) where
  py := fun xs => by simp only [isPy]; exact E.pys xs
  lay := fun xs h => by simp only [toPy, PyData.canLay0]; exact E.lays xs h
  dep := fun xs => by simp only [toPy, PyData.depth]; exact Nat.succ_le_succ (E.deps xs)
  eq := fun a b => by simp only [eqD, toPy, PyData.eqv]; exact E.eqs a b
theorem Emb.two (E : Emb f n P) (E' : Emb g m Q) : Emb (fun p : α × β => D.tup [f p.1, g p.2]) (max n m + 1) (fun p => P p.1 ∧ Q p.2) where
  py := fun p => by simp [isPy, isPys, E.py, E'.py]
  lay := fun p h => by simp [toPy, toPys, PyData.canLay0, PyData.canLayAll0, E.lay _ h.1, E'.lay _ h.2]
  dep := fun p => by
    simp only [toPy, toPys, PyData.depth, PyData.depthAll]
    have h1 := E.dep p.1
    have h2 := E'.dep p.2
    omega
  eq := fun a b => by
    have h1 := E.eq a.1 b.1
    have h2 := E'.eq a.2 b.2
    simp only [eqD] at h1 h2
    simp only [eqD, toPy, toPys, PyData.eqv, PyData.eqvAll, Bool.and_true, Bool.and_eq_true, h1, h2]
    exact ⟨fun ⟨a1, a2⟩ => Prod.ext a1 a2, fun e => by rw [e]; exact ⟨rfl, rfl⟩⟩
end
/-! ### signs of texts -/
theorem signs_get {z : Str} {i : Nat} {d : D} (h : ((signs z).map D.str)[i]? = some d) : ∃ c, z.cps.toList[i]? = some c ∧ d = .str ⟨#[c]⟩ := by
  unfold signs at h
  rw [List.getElem?_map, List.getElem?_map] at h
  cases e : z.cps.toList[i]? with
  | none => rw [e] at h; cases h
  | some c => rw [e] at h; cases h; exact ⟨c, rfl, rfl⟩
theorem map_get {α : Type} {f : α → D} {xs : List α} {i : Nat} {d : D} (h : (xs.map f)[i]? = some d) : ∃ x, xs[i]? = some x ∧ d = f x := by
  rw [List.getElem?_map] at h
  cases e : xs[i]? with
  | none => rw [e] at h; cases h
  | some x => rw [e] at h; cases h; exact ⟨x, rfl, rfl⟩
theorem take_succ {α : Type} {xs : List α} {i : Nat} {x : α} (h : xs[i]? = some x) : xs.take (i + 1) = xs.take i ++ [x] := by
  rw [List.take_add_one, h]; rfl
theorem at_nat {α : Type} {xs : List α} {i : Nat} {x : α} (h : xs[i]? = some x) : L2.atI xs (i : Int) = some x := by
  have hl : i < xs.length := (List.getElem?_eq_some_iff.mp h).1
  have e : ixN xs.length (i : Int) = some i := by
    unfold ixN
    have h1 : (0 : Int) ≤ (i : Int) := Int.natCast_nonneg i
    have h2 : (i : Int) < (xs.length : Int) := Int.ofNat_lt.mpr hl
    rw [if_pos h1, if_pos h2]
    rfl
  unfold L2.atI
  rw [e]
  exact h
theorem str_eta (z : Str) : (⟨z.cps⟩ : Str) = z := rfl
end DL

/-! DL17: the rules with what follows as their last argument. -/
namespace DL
open PySem L2
section
variable {X : Cx} {ex : Exn → Prop} {Γ : En} {R : Bool → D → Prop} {pos p apos : Pos}
/-- a known local's value; one captured by a comprehension -/
theorem nl (i : Nat) {x : Str} {d : D} (hΓ : Γ[i]? = some (some (false, d))) (hN : X.N[i]? = some x) (hv : X.env.scope.names.lookup x = some .local) (h : R false d)
    (hd : (x == ("__debug__" : Str)) = false := by decide) (hcd : (x == ("__classdict__" : Str)) = false := by decide) : ED X ex (.Name x pos) Γ R := ed_name hΓ hN (.inl hv) h hd hcd
theorem nc (i : Nat) {x : Str} {d : D} (hΓ : Γ[i]? = some (some (false, d))) (hN : X.N[i]? = some x) (hv : X.env.scope.names.lookup x = some .cell) (h : R false d)
    (hd : (x == ("__debug__" : Str)) = false := by decide) (hcd : (x == ("__classdict__" : Str)) = false := by decide) : ED X ex (.Name x pos) Γ R := ed_name hΓ hN (.inr (.inl hv)) h hd hcd
theorem ix_lst {xs : List D} {i : Int} {d : D} (h : atI xs i = some d) (hR : R false d) : IxD R (.lst xs) (.int i) := ⟨d, h, hR⟩
theorem ix_tup {xs : List D} {i : Int} {d : D} (h : atI xs i = some d) (hR : R false d) : IxD R (.tup xs) (.int i) := ⟨d, h, hR⟩
theorem ix_scr {xs : List Int} {i n : Int} (h : atI xs i = some n) (hR : R false (.int n)) : IxD R (.scr xs) (.int i) := ⟨n, h, hR⟩
theorem ix_str {z : Str} {i : Int} {c : Nat} (hz : z.length ≤ sizeLine) (h : atI z.cps.toList i = some c) (hR : R false (.str ⟨#[c]⟩)) : IxD R (.str z) (.int i) := ⟨hz, c, h, hR⟩
theorem len_ {e : Expr} (hm : X.mg "len" = none) (h : ED X ex e Γ fun _ d => ∃ n, lenD d = some n ∧ R false (.int n)) (hg : Gl X "len" := by rfl)
    (he : starEach (e :: []) X.env = (false, eval e X.env) :: starEach [] X.env := by rfl) (hpl : (backTo pos (starEach [] X.env)).any (·.1) = false := by rfl) : ED X ex (.Call (.Name "len" p) [e] [] pos) Γ R := ed_len h hm hg he hpl
theorem max2_ {a b : Expr} (hm : X.mg "max" = none) (h : ED X ex a Γ fun _ d => ED X ex b Γ fun _ e => ∃ i j, d = .int i ∧ e = .int j ∧ R false (.int (max i j))) (hc : X.calm = true := by rfl) (hg : Gl X "max" := by rfl)
    (h1 : starEach (a :: [b]) X.env = (false, eval a X.env) :: starEach [b] X.env := by rfl) (h2 : starEach (b :: []) X.env = (false, eval b X.env) :: starEach [] X.env := by rfl) (hpl : (backTo pos (starEach [b] X.env)).any (·.1) = false := by rfl) : ED X ex (.Call (.Name "max" p) [a, b] [] pos) Γ R := ed_max2 h hc hm hg h1 h2 hpl
theorem min2_ {a b : Expr} (hm : X.mg "min" = none) (h : ED X ex a Γ fun _ d => ED X ex b Γ fun _ e => ∃ i j, d = .int i ∧ e = .int j ∧ R false (.int (min i j))) (hc : X.calm = true := by rfl) (hg : Gl X "min" := by rfl)
    (h1 : starEach (a :: [b]) X.env = (false, eval a X.env) :: starEach [b] X.env := by rfl) (h2 : starEach (b :: []) X.env = (false, eval b X.env) :: starEach [] X.env := by rfl) (hpl : (backTo pos (starEach [b] X.env)).any (·.1) = false := by rfl) : ED X ex (.Call (.Name "min" p) [a, b] [] pos) Γ R := ed_min2 h hc hm hg h1 h2 hpl
theorem maxL_ {a : Expr} (hm : X.mg "max" = none) (h : ED X ex a Γ fun _ d => ∃ ns : List Int, d = .lst (ns.map D.int) ∧ 0 < ns.length ∧ ∀ m, m ∈ ns → (∀ y ∈ ns, y ≤ m) → R false (.int m)) (hc : X.calm = true := by rfl) (hg : Gl X "max" := by rfl)
    (h1 : starEach (a :: []) X.env = (false, eval a X.env) :: starEach [] X.env := by rfl) (hpl : (backTo pos (starEach [] X.env)).any (·.1) = false := by rfl) : ED X ex (.Call (.Name "max" p) [a] [] pos) Γ R := ed_maxL h hc hm hg h1 hpl
theorem minL_ {a : Expr} (hm : X.mg "min" = none) (h : ED X ex a Γ fun _ d => ∃ ns : List Int, d = .lst (ns.map D.int) ∧ 0 < ns.length ∧ ∀ m, m ∈ ns → (∀ y ∈ ns, m ≤ y) → R false (.int m)) (hc : X.calm = true := by rfl) (hg : Gl X "min" := by rfl)
    (h1 : starEach (a :: []) X.env = (false, eval a X.env) :: starEach [] X.env := by rfl) (hpl : (backTo pos (starEach [] X.env)).any (·.1) = false := by rfl) : ED X ex (.Call (.Name "min" p) [a] [] pos) Γ R := ed_minL h hc hm hg h1 hpl
theorem sum_ {a : Expr} (hm : X.mg "sum" = none) (h : ED X ex a Γ fun _ d => ∃ ns : List Int, d = .lst (ns.map D.int) ∧ R false (.int ns.sum)) (hc : X.calm = true := by rfl) (hg : Gl X "sum" := by rfl)
    (h1 : starEach (a :: []) X.env = (false, eval a X.env) :: starEach [] X.env := by rfl) (hpl : (backTo pos (starEach [] X.env)).any (·.1) = false := by rfl) : ED X ex (.Call (.Name "sum" p) [a] [] pos) Γ R := ed_sum h hc hm hg h1 hpl
theorem strI_ {a : Expr} (hm : X.mg "str" = none) (h : ED X ex a Γ fun _ d => ∃ i : Int, d = .int i ∧ i.natAbs.log2 < 1920 ∧ R false (.str (toString i))) (hg : Gl X "str" := by rfl)
    (h1 : starEach (a :: []) X.env = (false, eval a X.env) :: starEach [] X.env := by rfl) (hpl : (backTo pos (starEach [] X.env)).any (·.1) = false := by rfl) : ED X ex (.Call (.Name "str" p) [a] [] pos) Γ R := ed_strI h hm hg h1 hpl
theorem intS_ {a : Expr} (hm : X.mg "int" = none) (h : ED X ex a Γ fun _ d => ∃ (s : Str) (n : Int), d = .str s ∧ PySem.intText? s = some n ∧ s.length ≤ 640 ∧ R false (.int n)) (hg : Gl X "int" := by rfl)
    (h1 : starEach (a :: []) X.env = (false, eval a X.env) :: starEach [] X.env := by rfl) (hpl : (backTo pos (starEach [] X.env)).any (·.1) = false := by rfl) : ED X ex (.Call (.Name "int" p) [a] [] pos) Γ R := ed_intS h hm hg h1 hpl
theorem intB_ {a : Expr} (hm : X.mg "int" = none) (h : ED X ex a Γ fun _ d => ∃ b, d = .bl b ∧ R false (.int (if b then 1 else 0))) (hg : Gl X "int" := by rfl)
    (h1 : starEach (a :: []) X.env = (false, eval a X.env) :: starEach [] X.env := by rfl) (hpl : (backTo pos (starEach [] X.env)).any (·.1) = false := by rfl) : ED X ex (.Call (.Name "int" p) [a] [] pos) Γ R := ed_intB h hm hg h1 hpl
theorem list_ {a : Expr} (hm : X.mg "list" = none) (h : ED X ex a Γ fun _ d => ∃ xs, (d = .lst xs ∨ d = .tup xs) ∧ R true (.lst xs)) (hg : Gl X "list" := by rfl)
    (h1 : starEach (a :: []) X.env = (false, eval a X.env) :: starEach [] X.env := by rfl) (hpl : (backTo pos (starEach [] X.env)).any (·.1) = false := by rfl) : ED X ex (.Call (.Name "list" p) [a] [] pos) Γ R := ed_listL h hm hg h1 hpl
/-- isinstance(e, T); T: the type's name -/
theorem isi_ {a : Expr} {x2 : Str} {p2 : Pos} (T : String) (hm : X.mg "isinstance" = none) (hm2 : X.mg x2 = none) (hv2 : bootBuiltins x2 = some (.type T)) (h : ED X ex a Γ fun _ d => ∃ b, isiD T d = some b ∧ R false (.bl b)) (hT : T ∈ T5 := by decide) (hg : Gl X "isinstance" := by rfl)
    (hg2 : Gl X x2 := by rfl) (hn2 : x2 ≠ "__name__" := by decide) (hd2 : (x2 == ("__debug__" : Str)) = false := by decide)
    (h1 : starEach (a :: [.Name x2 p2]) X.env = (false, eval a X.env) :: starEach [.Name x2 p2] X.env := by rfl) (h2 : starEach (.Name x2 p2 :: []) X.env = (false, eval (.Name x2 p2) X.env) :: starEach [] X.env := by rfl)
    (hpl : (backTo pos (starEach [.Name x2 p2] X.env)).any (·.1) = false := by rfl) : ED X ex (.Call (.Name "isinstance" p) [a, .Name x2 p2] [] pos) Γ R := ed_isi h hT hm hg hm2 hv2 hg2 hn2 hd2 h1 h2 hpl
theorem bt_str : bootBuiltins "str" = some (.type "str") := by decide +kernel
theorem bt_int : bootBuiltins "int" = some (.type "int") := by decide +kernel
theorem bt_bool : bootBuiltins "bool" = some (.type "bool") := by decide +kernel
theorem bt_list : bootBuiltins "list" = some (.type "list") := by decide +kernel
theorem bt_tuple : bootBuiltins "tuple" = some (.type "tuple") := by decide +kernel
/-- a def of the module, f(e, ..) -/
theorem call_ {x : Str} {f : Addr} {k n : Nat} {φ : Ph} {e : Expr} {es : List Expr} (F : FnX X k f n φ) (hr : Room k X.A) (hm : X.mg x = some (.ref f)) (h : EA X ex (e :: es) Γ fun ds => ds.length = n ∧ φ ds R ex) (hg : Gl X x := by rfl)
    (hdb : (x == ("__debug__" : Str)) = false := by decide) (he : starEach (e :: es) X.env = (false, eval e X.env) :: starEach es X.env := by rfl) (hpl : (backTo pos (starEach es X.env)).any (·.1) = false := by rfl) :
    ED X ex (.Call (.Name x p) (e :: es) [] pos) Γ R := ed_call F hr hm hg h hdb he hpl
theorem ea1 {n : Nat} {φ : List D → Prop} {d : D} (h : φ [d]) (hn : n = 1 := by rfl) : ([d] : List D).length = n ∧ φ [d] := ⟨hn.symm, h⟩
/-- walks -/
theorem rg1 {a tg : Expr} {R : List D → Prop} (hm : X.mg "range" = none) (h : ED X ex a Γ fun _ d => ∃ j : Int, d = .int j ∧ -(2 ^ 62) ≤ j ∧ j < 2 ^ 62 ∧ R (rangeD 0 j.toNat)) (hg : Gl X "range" := by rfl)
    (h1 : starEach [a] X.env = [(false, eval a X.env)] := by rfl) : EI X ex tg (.Call (.Name "range" p) [a] [] pos) Γ R := ei_range1 h hm hg h1
theorem rg2 {a b tg : Expr} {R : List D → Prop} (hm : X.mg "range" = none) (h : ED X ex a Γ fun _ d => ED X ex b Γ fun _ e => ∃ i j : Int, d = .int i ∧ e = .int j ∧ (-(2 ^ 62) ≤ i ∧ i < 2 ^ 62 ∧ -(2 ^ 62) ≤ j ∧ j < 2 ^ 62) ∧ R (rangeD i (j - i).toNat)) (hg : Gl X "range" := by rfl)
    (h1 : starEach [a, b] X.env = [(false, eval a X.env), (false, eval b X.env)] := by rfl) (h2 : starEach [b] X.env = [(false, eval b X.env)] := by rfl) : EI X ex tg (.Call (.Name "range" p) [a, b] [] pos) Γ R := ei_range2 h hm hg h1 h2
theorem rg3 {a b c tg : Expr} {R : List D → Prop} (hm : X.mg "range" = none) (h : ED X ex a Γ fun _ d => ED X ex b Γ fun _ e => ED X ex c Γ fun _ f => ∃ (i j l : Int) (n : Nat), d = .int i ∧ e = .int j ∧ f = .int l ∧ RgC i j l n ∧ R (rangeCD i l n)) (hg : Gl X "range" := by rfl)
    (h1 : starEach (a :: [b, c]) X.env = (false, eval a X.env) :: starEach [b, c] X.env := by rfl) (h2 : starEach (b :: [c]) X.env = (false, eval b X.env) :: starEach [c] X.env := by rfl) (h3 : starEach (c :: []) X.env = (false, eval c X.env) :: starEach [] X.env := by rfl) (hpl : (backTo pos (starEach [b, c] X.env)).any (·.1) = false := by rfl) :
    EI X ex tg (.Call (.Name "range" p) [a, b, c] [] pos) Γ R := ei_range3 h hm hg h1 h2 h3 hpl
theorem enL {a : Expr} {elts : List Expr} {kk : Nat} {tpos : Pos} {R : List D → Prop} (hm : X.mg "enumerate" = none) (h : ED X ex a Γ fun _ d => ∃ xs, d = .lst xs ∧ R (pairs (rangeD 0 xs.length) xs)) (hg : Gl X "enumerate" := by rfl)
    (hs : starEach [a] X.env = [(false, eval a X.env)] := by rfl) : EI X ex (.Tuple elts kk tpos) (.Call (.Name "enumerate" p) [a] [] pos) Γ R := ei_enumL h hm hg hs
theorem enS {a : Expr} {elts : List Expr} {kk : Nat} {tpos : Pos} {R : List D → Prop} (hm : X.mg "enumerate" = none) (h : ED X ex a Γ fun _ d => ∃ z, d = .str z ∧ R (pairs (rangeD 0 (signs z).length) ((signs z).map D.str))) (hg : Gl X "enumerate" := by rfl)
    (hs : starEach [a] X.env = [(false, eval a X.env)] := by rfl) : EI X ex (.Tuple elts kk tpos) (.Call (.Name "enumerate" p) [a] [] pos) Γ R := ei_enumS h hm hg hs
theorem zp {a b : Expr} {elts : List Expr} {kk : Nat} {tpos : Pos} {R : List D → Prop} (hm : X.mg "zip" = none) (h : ED X ex a Γ fun _ d => ED X ex b Γ fun _ e => ∃ xs ys, d = .lst xs ∧ e = .lst ys ∧ R (pairs xs ys)) (hg : Gl X "zip" := by rfl)
    (h1 : starEach (a :: [b]) X.env = (false, eval a X.env) :: starEach [b] X.env := by rfl) (h2 : starEach (b :: []) X.env = (false, eval b X.env) :: starEach [] X.env := by rfl) (hpl : (backTo pos (starEach [b] X.env)).any (·.1) = false := by rfl) : EI X ex (.Tuple elts kk tpos) (.Call (.Name "zip" p) [a, b] [] pos) Γ R := ei_zip h hm hg h1 h2 hpl
end
section
variable {X : Cx} {ex : EX} {Γ : En} {P : Po} {pos p apos : Pos}
/-- a rule with the slot ahead: x = e -/
theorem asg (i : Nat) {x : Str} {e : Expr} {p' : Pos} (hN : X.N.Nodup) (hi : X.N[i]? = some x) (hx : X.env.scope.names.lookup x = some .local)
    (h : ED X (fun x => ex x Γ) e Γ fun o d => P.nx (Γ.set i (some (o, d)))) (hs : swapsWith e (some (.Name x p')) pos.line X.env = pure false := by rfl) : W1 X ex (.Assign [.Name x p'] e pos) Γ P := w_asg hN hi (.inl hx) h hs (.inr hx)
/-- the same of a name that a comprehension captures -/
theorem asgc (i : Nat) {x : Str} {e : Expr} {p' : Pos} (hN : X.N.Nodup) (hi : X.N[i]? = some x) (hx : X.env.scope.names.lookup x = some .cell) (hf : X.fn x = true)
    (h : ED X (fun x => ex x Γ) e Γ fun o d => P.nx (Γ.set i (some (o, d)))) (hs : swapsWith e (some (.Name x p')) pos.line X.env = pure false := by rfl) : W1 X ex (.Assign [.Name x p'] e pos) Γ P := w_asg hN hi (.inr hx) h hs (.inl hf)
theorem app (i : Nat) {x : Str} {xs : List D} {e : Expr} (hN : X.N[i]? = some x) (hv : Vis X.env.scope x) (hΓ : Γ[i]? = some (some (true, .lst xs)))
    (h : ED X (fun x => ex x Γ) e Γ fun _ d => xs.length < sizeLine ∧ P.nx (Γ.set i (some (true, .lst (xs ++ [d])))))
    (hs : swapsWith (.Call (.Attribute (.Name x p) "append" apos) [e] [] pos) none pos.line X.env = pure false := by rfl)
    (hbase : attributeBase (.Name x p) "append" X.env (eval (.Name x p) X.env) = eval (.Name x p) X.env := by rfl)
    (hfew : ((backTo pos (starEach [e] X.env)).all (fun x => !x.1) && (backToKw pos (keywordEach [] X.env)).all (fun x => x.1.isSome)
      && decide (([e] : List Expr).length + ([] : List Keyword).length + (if ([] : List Keyword).isEmpty then 0 else 1) < 30)) = true := by rfl)
    (hline : (apos.endLine == pos.line) = true := by rfl) (hs1 : starEach (e :: []) X.env = (false, eval e X.env) :: starEach [] X.env := by rfl) (hpl : (backTo pos (starEach [] X.env)).any (·.1) = false := by rfl)
    (hd : (x == ("__debug__" : Str)) = false := by decide) (hcd : (x == ("__classdict__" : Str)) = false := by decide) : W1 X ex (.Expr (.Call (.Attribute (.Name x p) "append" apos) [e] [] pos) pos) Γ P := w_app hN hv hΓ h hs hbase hfew hline hs1 hpl hd hcd
end
end DL

/-! DL18: objects: made, asked, changed. -/
namespace DL
open PySem L2
/-! ### fields -/
def putFD (f : Str) (d : D) : List (Str × D) → List (Str × D)
  | [] => [(f, d)]
  | (g, e) :: r => if g = f then (g, d) :: r else (g, e) :: putFD f d r
theorem RepF.put {K : PySem.W.Frag} {G : Gh} {f : Str} {d : D} {v : V} (r : Rep K G d v) : ∀ {fs : List (Str × D)} {vs : List (Str × V)}, RepF K G fs vs → RepF K G (putFD f d fs) (putF f v vs)
  | _, _, .nil => .cons r .nil
  | _, _, .cons (k := k) q t => by
    unfold putFD putF
    by_cases e : k = f
    · rw [if_pos e, if_pos e]; exact .cons r t
    · rw [if_neg e, if_neg e]; exact .cons q (RepF.put r t)
theorem RepF.link {K : PySem.W.Frag} {G : Gh} {f : Str} {d : D} {q : Addr} (r : Rep K G d (.ref q)) : ∀ {fs : List (Str × D)} {vs : List (Str × V)}, RepF K G fs vs → fs.lookup f = some (.ref q) → RepF K G (putFD f d fs) vs
  | _, _, .nil, e => by cases e
  | _, _, .cons (k := k) (x := x) q' t, e => by
    unfold putFD
    by_cases h : k = f
    · rw [if_pos h]
      subst h
      rw [List.lookup_cons, show (k == k) = true from by simp] at e
      cases e
      cases q'
      exact .cons r t
    · rw [if_neg h]
      rw [List.lookup_cons, show (f == k) = false from by simpa using fun z : f = k => h z.symm] at e
      exact .cons q' (RepF.link r t e)
section
variable {K : PySem.W.Frag} {F : Fm} {G : Gh} {H : Hp} {σ : St} {Γ : En}
/-- slot i's object is told to be own -/
theorem Loc.promote {i : Nat} {d : D} {p : Addr} (E : Loc K G H σ Γ) (hi : σ[i]? = some (some (.ref p))) (n : G p = none) (w : OwnAt K G H p d) (hd : ∀ (j : Nat) (e : D), j ≠ i → Γ[j]? = some (some (true, e)) → σ[j]? = some (some (.ref p)) → False) : Loc K G H σ (Γ.set i (some (true, d))) where
  len := by rw [List.length_set]; exact E.len
  ext := E.ext
  val := fun j e h => by
    rcases set_get h with ⟨_, he⟩ | ⟨_, h⟩
    · cases he
    · exact E.val j e h
  own := fun j e h => by
    rcases set_get h with ⟨rfl, he⟩ | ⟨_, h⟩
    · cases he; exact ⟨p, hi, n, w⟩
    · exact E.own j e h
  dis := fun j l d1 e q hjl h1 h2 h3 h4 => by
    rcases set_get h1 with ⟨e1, _⟩ | ⟨hj, g1⟩
    · rcases set_get h2 with ⟨e2, _⟩ | ⟨hl, g2⟩
      · exact hjl (e1.trans e2.symm)
      · rw [e1, hi] at h3; cases h3
        exact hd l e hl g2 h4
    · rcases set_get h2 with ⟨e2, _⟩ | ⟨hl, g2⟩
      · rw [e2, hi] at h4; cases h4
        exact hd j _ hj g1 h3
      · exact E.dis j l _ e q hjl g1 g2 h3 h4
/-- an own slot becomes known, where what is lent stands at other slots -/
theorem EnvOk.knowL {i : Nat} {d : D} {lb : List Addr} (E : EnvOk K F G H σ Γ) (hb : ∀ a, F.B a → a ∈ lb) (h : Γ[i]? = some (some (true, d))) (hl : ∀ a ∈ lb, ∃ j e, j ≠ i ∧ Γ[j]? = some (some (true, .adr a e))) : ∃ G', EnvOk K F G' H σ (Γ.set i (some (false, d))) ∧ Le G G' := by
  obtain ⟨p, h1, h2, h3⟩ := E.loc.own i d h
  obtain ⟨o, ho, r⟩ := h3.know h2
  have hf : F.H0 p = none := (E.lent i d p h h1).resolve_right fun z => by
    obtain ⟨j, e, hj, he⟩ := hl p (hb p z)
    obtain ⟨q, q1, q2, q3⟩ := E.loc.own j _ he
    cases q3
    exact E.loc.dis j i _ _ p hj he h q1 h1
  have hi : i < σ.length := (List.getElem?_eq_some_iff.mp h1).1
  have le : Le G (gupd G p (.ho o)) := Le.gupd h2
  have st : Step F.B F.G0 F.H0 (gupd G p (.ho o)) H := E.step.know hf ho h2
  have gn : ∀ {j : Nat} {e : D} {q : Addr}, j ≠ i → Γ[j]? = some (some (true, e)) → σ[j]? = some (some (.ref q)) → q ≠ p := fun {j e q} hj g1 g2 z => by
    subst z; exact E.loc.dis j i e d q hj g1 h g2 h1
  refine ⟨_, ⟨⟨by rw [List.length_set]; exact E.loc.len, st.ext, fun j e hj => ?_, fun j e hj => ?_, fun j l a b q hjl g1 g2 g3 g4 => ?_⟩, st, fun j e q g1 g2 => ?_⟩, le⟩
  · rcases set_get hj with ⟨rfl, he⟩ | ⟨_, hj⟩
    · cases he; exact ⟨_, h1, r⟩
    · obtain ⟨v, a1, a2⟩ := E.loc.val j e hj; exact ⟨v, a1, a2.mono le⟩
  · rcases set_get hj with ⟨rfl, he⟩ | ⟨hji, hj⟩
    · cases he
    · obtain ⟨q, a1, a2, a3⟩ := E.loc.own j e hj
      exact ⟨q, a1, by rw [gupd_ne (gn hji hj a1)]; exact a2, a3.mono le fun o h => h⟩
  · rcases set_get g1 with ⟨rfl, he⟩ | ⟨_, g1⟩
    · cases he
    · rcases set_get g2 with ⟨rfl, he⟩ | ⟨_, g2⟩
      · cases he
      · exact E.loc.dis j l a b q hjl g1 g2 g3 g4
  · rcases set_get g1 with ⟨rfl, he⟩ | ⟨_, g1⟩
    · cases he
    · exact E.lent j e q g1 g2
/-- an own instance's field, that names an object known at slot g, is that object's data -/
theorem EnvOk.link {i g : Nat} {a q C : Addr} {fs : List (Str × D)} {f : Str} {d : D} (E : EnvOk K F G H σ Γ) (hi : Γ[i]? = some (some (true, .adr a (.ins C fs)))) (hg : Γ[g]? = some (some (false, .adr q d))) (hf : fs.lookup f = some (.ref q)) : EnvOk K F G H σ (Γ.set i (some (true, .adr a (.ins C (putFD f d fs))))) := by
  obtain ⟨p, h1, h2, h3⟩ := E.loc.own i _ hi
  obtain ⟨v, g1, g2⟩ := E.loc.val g _ hg
  cases g2 with
  | adr rd =>
    cases h3 with
    | adr w =>
      cases w with
      | ins hp r =>
        refine ⟨E.loc.promote h1 h2 (.adr (.ins hp (r.link rd hf))) fun j e hj g3 g4 => E.loc.dis j i e _ a hj g3 hi g4 h1, E.step, fun j e b g3 g4 => ?_⟩
        rcases set_get g3 with ⟨rfl, he⟩ | ⟨_, g3⟩
        · exact E.lent j _ b hi g4
        · exact E.lent j e b g3 g4
end
/-! ### ghost slots -/
/-- a slot whose name no text of the def has may hold anything -/
theorem ghost {X : Cx} {pins : List (Addr × Obj)} {σ : St} {H : Hp} {s : Shared} {g : Nat} {y : Str} {v : V} (I : Inv X pins σ H s) (hN : X.N[g]? = some y) (hv : ¬ Vis X.env.scope y) : Inv X pins (σ.set g (some v)) H s := by
  obtain ⟨m, hn, hl⟩ := I.loc
  refine ⟨I.ok, I.os, I.bare, I.base, ⟨m, hn, fun i x u h1 h2 h3 => ?_⟩, I.cell, I.free, I.freeC, I.pin, I.hok, by rw [List.length_set]; exact I.len⟩
  by_cases e : i = g
  · subst e
    rw [hN] at h1; cases h1
    exact absurd h3 hv
  · rw [List.getElem?_set_ne (Ne.symm e)] at h2
    exact hl i x u h1 h2 h3
theorem tWs_ghost {X : Cx} {st : List Stmt} {Dn : Ends} {σ : St} {H : Hp} {g : Nat} {y : Str} {v : V} (hN : X.N[g]? = some y) (hv : ¬ Vis X.env.scope y) (h : tWs X st Dn (σ.set g (some v)) H) : tWs X st Dn σ H := fun pins s I => h pins s (ghost I hN hv)
theorem not_vis {sc : Scope} {y : Str} (h : (match sc.names.lookup y with
    | some .local => false
    | some .cell => false
    | some .free => false
    | _ => true) = true) : ¬ Vis sc y := fun z => by
  rcases z with z | z | z <;> (rw [show sc.names.lookup y = _ from z] at h; cases h)
section
variable {X : Cx} {ex : EX} {Γ : En} {P : Po} {pos p apos pos' : Pos}
theorem wd_knowL (i : Nat) {d : D} {st : List Stmt} (hΓ : Γ[i]? = some (some (true, d))) (h : WD X ex st (Γ.set i (some (false, d))) P) (hl : ∀ a ∈ P.lb, ∃ j e, j ≠ i ∧ Γ[j]? = some (some (true, .adr a e))) : WD X ex st Γ P := fun F σ G H E W xk Dn lk => by
  obtain ⟨G', E', le⟩ := E.knowL (fun a h => lk.nb a h) hΓ hl
  exact h F σ G' H E' W (xk.go le) Dn (lk.go le)
theorem wd_link (i g : Nat) {a q C : Addr} {fs : List (Str × D)} {f : Str} {d : D} {st : List Stmt} (hi : Γ[i]? = some (some (true, .adr a (.ins C fs)))) (hg : Γ[g]? = some (some (false, .adr q d))) (hf : fs.lookup f = some (.ref q)) (h : WD X ex st (Γ.set i (some (true, .adr a (.ins C (putFD f d fs))))) P) : WD X ex st Γ P :=
  fun F σ G H E W xk Dn lk => h F σ G H (E.link hi hg hf) W xk Dn lk
/-- x.f = e, x an own instance; the value is known from now on -/
theorem w_fld (i : Nat) {x f : Str} {e : Expr} {a C : Addr} {fs : List (Str × D)} (c : Cls X.K C) (n : NoAttr X.K C f) (hN : X.N[i]? = some x) (hv : Vis X.env.scope x) (hΓ : Γ[i]? = some (some (true, .adr a (.ins C fs)))) (hl : fs.length < 1000)
    (h : ED X (fun x => ex x Γ) e Γ fun _ d => P.nx (Γ.set i (some (true, .adr a (.ins C (putFD f d fs)))))) (hs : swapsWith e (some (.Attribute (.Name x p) f pos')) pos.line X.env = pure false := by rfl)
    (hd : (x == ("__debug__" : Str)) = false := by decide) (hcd : (x == ("__classdict__" : Str)) = false := by decide) : W1 X ex (.Assign [.Attribute (.Name x p) f pos'] e pos) Γ P := by
  intro F σ G H E W xk Dn lk
  refine tW1_of (ps_fld (tv := tW X e) (pe_var hN hv hd hcd) pe_W hs) ?_
  refine ED.use (R := fun _ d => P.nx (Γ.set i (some (true, .adr a (.ins C (putFD f d fs)))))) (h.imp fun _ _ h => h) E.loc xk.te (xk.lk.at E) fun d v G1 H1 hR s1 r1 => ?_
  have E1 := E.go s1
  obtain ⟨q, h1, h2, h3⟩ := E1.loc.own i _ hΓ
  cases h3 with
  | adr w =>
    cases w with
    | ins hp r =>
      refine ⟨_, h1, _, C, _, _, rfl, hp, c, n, by rw [← r.length]; exact hl, ?_⟩
      exact lk.nx G1 _ σ _ hR (E1.write hΓ h1 (.adr (.ins upd_same (r.put r1)))) s1.le
/-- x.f = e, a new own object: it stands at the ghost slot g -/
theorem wd_fldG (i g : Nat) {x f y : Str} {e : Expr} {a C : Addr} {fs : List (Str × D)} {rest : List Stmt} (c : Cls X.K C) (n : NoAttr X.K C f) (hN : X.N[i]? = some x) (hv : Vis X.env.scope x) (hΓ : Γ[i]? = some (some (true, .adr a (.ins C fs)))) (hl : fs.length < 1000)
    (hg : X.N[g]? = some y) (hgv : ¬ Vis X.env.scope y) (hig : g ≠ i) {og : Option (Bool × D)} (hgl : Γ[g]? = some og)
    (h : ED X (fun x => ex x Γ) e Γ fun o d => o = true ∧ ∀ q, WD X ex rest ((Γ.set i (some (true, .adr a (.ins C (putFD f (.ref q) fs))))).set g (some (true, .adr q d))) P) (hs : swapsWith e (some (.Attribute (.Name x p) f pos')) pos.line X.env = pure false := by rfl)
    (hd : (x == ("__debug__" : Str)) = false := by decide) (hcd : (x == ("__classdict__" : Str)) = false := by decide) : WD X ex (.Assign [.Attribute (.Name x p) f pos'] e pos :: rest) Γ P := by
  intro F σ G H E W xk Dn lk
  refine tWs_of (pss_cons (u := tWs X rest) (ps_fld (tv := tW X e) (pe_var hN hv hd hcd) pe_W hs) pss_W) ?_
  refine h σ G H E.loc W xk.te (xk.lk.at E) _ fun o d v G1 H1 hR s1 r1 => ?_
  obtain ⟨rfl, hR⟩ := hR
  obtain ⟨q, rfl, hn, nq, w1⟩ := r1
  have E1 := E.go s1
  obtain ⟨a', h1, h2, h3⟩ := E1.loc.own i _ hΓ
  cases h3 with
  | adr w =>
    cases w with
    | ins hp r =>
      rename_i dx vs
      refine ⟨_, h1, _, C, _, _, rfl, hp, c, n, by rw [← r.length]; exact hl, ?_⟩
      have hqa : q ≠ a := fun z => by
        obtain ⟨a2, e1, e2, e3⟩ := E.loc.own i _ hΓ
        rw [h1] at e1; cases e1
        obtain ⟨o, ho⟩ := e3.there
        rw [← z, hn] at ho; cases ho
      have E2 := E1.write (o := .ins C dx (putF f (.ref q) vs)) hΓ h1 (.adr (.ins upd_same (r.put .ref)))
      have w2 : OwnAt X.K G1 (upd H1 a (.ins C dx (putF f (.ref q) vs))) q d := w1.mono (Le.refl _) fun o ho => by rw [upd_ne hqa]; exact ho
      have hgl' : g < σ.length := by rw [E.loc.len]; exact (List.getElem?_eq_some_iff.mp hgl).1
      have E3 := E2.setv (i := g) (d := .ref q) (v := .ref q) .ref
      have old : ∀ (j : Nat) (e : D), j ≠ g → ((Γ.set i (some (true, .adr a (.ins C (putFD f (.ref q) fs))))).set g (some (false, .ref q)))[j]? = some (some (true, e)) → (σ.set g (some (.ref q)))[j]? = some (some (.ref q)) → False := fun j e hj k1 k2 => by
        rw [List.getElem?_set_ne (Ne.symm hj)] at k1 k2
        obtain ⟨e', k3⟩ : ∃ e', Γ[j]? = some (some (true, e')) := by
          rcases set_get k1 with ⟨rfl, _⟩ | ⟨_, k1⟩
          · exact ⟨_, hΓ⟩
          · exact ⟨_, k1⟩
        obtain ⟨b, b1, b2, b3⟩ := E.loc.own j e' k3
        rw [k2] at b1; cases b1
        obtain ⟨o, ho⟩ := b3.there
        rw [hn] at ho; cases ho
      have at_g : (σ.set g (some (V.ref q)))[g]? = some (some (.ref q)) := List.getElem?_set_self hgl'
      have L4 := E3.loc.promote (i := g) (d := .adr q d) at_g nq (.adr w2) old
      rw [List.set_set] at L4
      have E4 : EnvOk X.K F G1 (upd H1 a (.ins C dx (putF f (.ref q) vs))) (σ.set g (some (.ref q))) ((Γ.set i (some (true, .adr a (.ins C (putFD f (.ref q) fs))))).set g (some (true, .adr q d))) := by
        refine ⟨L4, E3.step, fun j e b k1 k2 => ?_⟩
        rcases set_get k1 with ⟨rfl, _⟩ | ⟨hj, k1⟩
        · rw [at_g] at k2; cases k2
          exact .inl (E.step.free hn)
        · rw [List.getElem?_set_ne (Ne.symm hj)] at k2
          exact E2.lent j e b k1 k2
      refine tWs_ghost (g := g) (v := .ref q) hg hgv ?_
      exact hR q F _ G1 _ E4 W (xk.go s1.le) Dn (lk.go s1.le)
/-- x.f[k] = e: the dict is own, at slot g -/
theorem w_dputF (i g : Nat) {x f : Str} {e ix : Expr} {a q C : Addr} {fs : List (Str × D)} {dd : D} {p2 : Pos} (c : Cls X.K C) (n : NoAttr X.K C f) (hu : X.A.units + 1 < cLine) (hN : X.N[i]? = some x) (hv : Vis X.env.scope x) (hΓ : Γ[i]? = some (some (true, .adr a (.ins C fs)))) (hf : fs.lookup f = some (.ref q)) (hg : Γ[g]? = some (some (true, .adr q dd)))
    (h : ED X (fun x => ex x Γ) e Γ fun _ d => ED X (fun x => ex x Γ) ix Γ fun _ y => ∃ dd', PutD dd y d dd' ∧ P.nx (Γ.set g (some (true, .adr q dd'))))
    (hs : swapsWith e (some (.Subscript (.Attribute (.Name x p) f pos') ix p2)) pos.line X.env = pure false := by rfl) (hb : attributeBase (.Name x p) f X.env (eval (.Name x p) X.env) = eval (.Name x p) X.env := by rfl)
    (hd : (x == ("__debug__" : Str)) = false := by decide) (hcd : (x == ("__classdict__" : Str)) = false := by decide) : W1 X ex (.Assign [.Subscript (.Attribute (.Name x p) f pos') ix p2] e pos) Γ P := by
  intro F σ G H E W xk Dn lk
  refine tW1_of (ps_dput hu (tv := tW X e) (ty := tW X ix) (pe_fld (pe_var hN hv hd hcd) hb) pe_W pe_W hs) ?_
  refine ED.use (R := fun _ d => ED X (fun x => ex x Γ) ix Γ fun _ y => ∃ dd', PutD dd y d dd' ∧ P.nx (Γ.set g (some (true, .adr q dd')))) (h.imp fun _ _ h => h) E.loc xk.te (xk.lk.at E) fun d v G1 H1 hR s1 r1 => ?_
  have E1 := E.go s1
  obtain ⟨a', h1, h2, h3⟩ := E1.loc.own i _ hΓ
  cases h3 with
  | adr w =>
    cases w with
    | ins hp r =>
      obtain ⟨u, hu', ru⟩ := r.get hf
      cases ru
      refine ⟨_, h1, _, C, _, _, .ref q, rfl, hp, c, n, hu', ?_⟩
      refine ED.use (R := fun _ y => ∃ dd', PutD dd y d dd' ∧ P.nx (Γ.set g (some (true, .adr q dd')))) (hR.imp fun _ _ h => h) E1.loc xk.te (xk.lk.at E1 s1.le) fun y w G2 H2 hR2 s2 r2 => ?_
      obtain ⟨dd', hput, hR2⟩ := hR2
      have E2 := E1.go s2
      obtain ⟨b, b1, b2, b3⟩ := E2.loc.own g _ hg
      cases b3 with
      | adr w3 =>
        cases hput with
        | k k v' hl =>
          cases w3 with
          | dK hp3 r3 =>
            rw [rep_kD r2]
            refine ⟨q, _, rfl, DPut.k hp3 (by rw [← r3.length]; exact hl), ?_⟩
            exact lk.nx G2 _ σ _ hR2 (E2.write hg b1 (.adr (.dK upd_same (RepK.put (r1.mono s2.le) r3)))) (s1.trans s2).le
        | t k v' hl =>
          cases w3 with
          | dT hp3 r3 =>
            cases r2 with
            | tup ht qt =>
              rw [rep_kDs qt] at ht
              refine ⟨q, _, rfl, DPut.t hp3 (s2.ext _ _ ht) (by rw [← r3.length]; exact hl), ?_⟩
              exact lk.nx G2 _ σ _ hR2 (E2.write hg b1 (.adr (.dT upd_same (RepT.put (r1.mono s2.le) r3)))) (s1.trans s2).le
end
end DL

/-! DL19: objects made; methods; the rule of an __init__. -/
namespace DL
open PySem L2
section
variable {X : Cx} {ex : Exn → Prop} {Γ : En} {R : Bool → D → Prop} {pos p apos : Pos}
/-- a local whose object's address is told -/
theorem na (i : Nat) {x : Str} {a : Addr} {d : D} (hΓ : Γ[i]? = some (some (false, .adr a d))) (hN : X.N[i]? = some x) (hv : X.env.scope.names.lookup x = some .local) (h : R false d)
    (hd : (x == ("__debug__" : Str)) = false := by decide) (hcd : (x == ("__classdict__" : Str)) = false := by decide) : ED X ex (.Name x pos) Γ R := by
  intro σ G H E W tk xa Q k
  obtain ⟨v, e, r⟩ := E.val i _ hΓ
  cases r with
  | adr r => exact tW_of (pe_var hN (.inl hv) hd hcd) ⟨_, e, k false d _ G H h (.refl E.ext) r⟩
/-- an address whose object stands at slot g -/
theorem ed_at (g : Nat) {q : Addr} {d : D} {e : Expr} (hΓ : Γ[g]? = some (some (false, .adr q d))) (h : ED X ex e Γ fun _ y => y = .ref q ∧ R false d) : ED X ex e Γ R := by
  intro σ G H E W tk xa Q k
  refine ED.use (R := fun _ y => y = .ref q ∧ R false d) (h.imp fun _ _ h => h) E tk xa fun y v G1 H1 hR s1 r1 => ?_
  obtain ⟨rfl, hR⟩ := hR
  cases r1
  obtain ⟨v, e, r⟩ := (E.go s1).val g _ hΓ
  cases r with
  | adr r => exact k false d _ G1 H1 hR s1 r
/-- a field of an own instance -/
theorem fldO (i : Nat) {x f : Str} {a C : Addr} {fs : List (Str × D)} {d : D} (c : Cls X.K C) (n : NoAttr X.K C f) (hΓ : Γ[i]? = some (some (true, .adr a (.ins C fs)))) (hN : X.N[i]? = some x) (hv : Vis X.env.scope x) (hf : fs.lookup f = some d) (h : R false d)
    (hb : attributeBase (.Name x p) f X.env (eval (.Name x p) X.env) = eval (.Name x p) X.env := by rfl) (hd : (x == ("__debug__" : Str)) = false := by decide) (hcd : (x == ("__classdict__" : Str)) = false := by decide) : ED X ex (.Attribute (.Name x p) f pos) Γ R := by
  intro σ G H E W tk xa Q k
  refine tW_of (pe_fld (pe_var hN hv hd hcd) hb) ?_
  obtain ⟨a', h1, h2, h3⟩ := E.own i _ hΓ
  cases h3 with
  | adr w =>
    cases w with
    | ins hp r =>
      obtain ⟨u, hu, ru⟩ := r.get hf
      exact ⟨_, h1, _, C, _, _, u, rfl, hp, c, n, hu, k false d u G H h (.refl E.ext) ru⟩
/-- e.f of a known instance -/
theorem fld {e : Expr} {f : Str} {C : Addr} {fs : List (Str × D)} {v : D} (c : Cls X.K C) (n : NoAttr X.K C f) (h : ED X ex e Γ fun _ d => d = .ins C fs ∧ fs.lookup f = some v ∧ R false v) (hb : attributeBase e f X.env (eval e X.env) = eval e X.env := by rfl) : ED X ex (.Attribute e f pos) Γ R :=
  ed_fld (h.imp fun _ d ⟨e, hl, hR⟩ => ⟨C, fs, v, e, c, n, hl, hR⟩) hb

/-! ### methods -/
theorem pe_methS {CX : CXT} {k : Nat} {f C : Addr} {fd : FuncData} {ps : List Str} {sp : Sp} {E : St → XK} {m : Str} {e o : Expr} {es : List Expr} {ta : TE} {t : TA} {pl : Sem Bool} (he : PE X o ta) (c : Cls X.K C) (hm : Meth X.K C m f) (F : FnOk X.prog X.w X.K X.mg X.base CX k f fd ps sp) (hr : Room k X.A) (hb : Binds X.K fd ps []) (hx : ∀ σ, PassesAt CX X σ (E σ)) (ha : PA X (e :: es) t)
    (hst : starEach (e :: es) X.env = (false, eval e X.env) :: starEach es X.env := by rfl) (hpl : (backTo pos (starEach es X.env)).any (·.1) = false := by rfl)
    (ht : eval (.Call (.Attribute o m apos) (e :: es) [] pos) X.env = (do
      let ov ← eval o X.env
      standAt apos.atName
      let (f, first) ← holding [ov] (getMethod ov m pl)
      callWith pos f first (backTo pos (starEach (e :: es) X.env)) (backToKw pos (keywordEach [] X.env))) := by rfl) :
    PE X (.Call (.Attribute o m apos) (e :: es) [] pos) (fun σ H Q => ta σ H fun x H1 => ∃ a dx fs, x = .ref a ∧ H1 a = some (.ins C dx fs) ∧ fs.lookup m = none ∧ t σ H1 fun vs H2 => sp (x :: vs) H2 Q (E σ)) := by
  refine ⟨fun pins s σ H Q I h => ?_⟩
  refine PySem.W.methodCall_KW (pl := pl) (thn (he.run pins s σ H _ I h) fun u s1 hh => ?_) ht
  obtain ⟨x, H1, I1, rx, a, dx, fs, ex, ea, l, q⟩ := hh
  subst ex
  obtain rfl : u = Value.ref a := rx
  refine getmeth_ok I1 ea c hm l (PySem.W.callWith_K (first := [.ref a]) (h₀ := X.base) I.ok.mod.kin hm.kp (thn (ha.run pos pins s1 σ H1 _ I1 q) fun us s2 hh2 => ?_) hst hpl)
  obtain ⟨vs, H2, I2, r, q2⟩ := hh2
  exact ⟨I2.kIn, run_fnS (us := .ref a :: us) (vs := .ref a :: vs) F hr hb (hx σ) I2 (.cons rfl r) q2⟩
theorem pe_methS0 {CX : CXT} {k : Nat} {f C : Addr} {fd : FuncData} {ps : List Str} {sp : Sp} {E : St → XK} {m : Str} {o : Expr} {ta : TE} {pl : Sem Bool} (he : PE X o ta) (c : Cls X.K C) (hm : Meth X.K C m f) (F : FnOk X.prog X.w X.K X.mg X.base CX k f fd ps sp) (hr : Room k X.A) (hb : Binds X.K fd ps []) (hx : ∀ σ, PassesAt CX X σ (E σ))
    (ht : eval (.Call (.Attribute o m apos) [] [] pos) X.env = (do
      let ov ← eval o X.env
      standAt apos.atName
      let (f, first) ← holding [ov] (getMethod ov m pl)
      callWith pos f first (backTo pos (starEach [] X.env)) (backToKw pos (keywordEach [] X.env))) := by rfl) :
    PE X (.Call (.Attribute o m apos) [] [] pos) (fun σ H Q => ta σ H fun x H1 => ∃ a dx fs, x = .ref a ∧ H1 a = some (.ins C dx fs) ∧ fs.lookup m = none ∧ sp [x] H1 Q (E σ)) := by
  refine ⟨fun pins s σ H Q I h => ?_⟩
  refine PySem.W.methodCall_KW (pl := pl) (thn (he.run pins s σ H _ I h) fun u s1 hh => ?_) ht
  obtain ⟨x, H1, I1, rx, a, dx, fs, ex, ea, l, q⟩ := hh
  subst ex
  obtain rfl : u = Value.ref a := rx
  exact getmeth_ok I1 ea c hm l (PySem.W.callWith_K0 (first := [.ref a]) I1.kIn hm.kp (run_fnS (us := [.ref a]) (vs := [.ref a]) F hr hb (hx σ) I1 (.cons rfl .nil) q))
/-- o.m(e, ..), o known -/
theorem meth {k n : Nat} {f C : Addr} {φ : Ph} {m : Str} {e o : Expr} {es : List Expr} {fs : List (Str × D)} {pl : Sem Bool} (c : Cls X.K C) (hm : Meth X.K C m f) (F : FnX X k f n φ) (hr : Room k X.A)
    (h : ED X ex o Γ fun _ d => d = .ins C fs ∧ fs.lookup m = none ∧ EA X ex (e :: es) Γ fun ds => ds.length + 1 = n ∧ φ (d :: ds) R ex)
    (hst : starEach (e :: es) X.env = (false, eval e X.env) :: starEach es X.env := by rfl) (hpl : (backTo pos (starEach es X.env)).any (·.1) = false := by rfl)
    (ht : eval (.Call (.Attribute o m apos) (e :: es) [] pos) X.env = (do
      let ov ← eval o X.env
      standAt apos.atName
      let (f, first) ← holding [ov] (getMethod ov m pl)
      callWith pos f first (backTo pos (starEach (e :: es) X.env)) (backToKw pos (keywordEach [] X.env))) := by rfl) : ED X ex (.Call (.Attribute o m apos) (e :: es) [] pos) Γ R := by
  intro σ G H E W tk xa Q k'
  obtain ⟨fd, ps, F1, F2⟩ := F.ok
  refine tW_of (pe_methS (E := WE W) (ta := tW X o) (t := tWa X (e :: es)) pe_W c hm F1 hr F2 tk.call pa_W hst hpl ht) ?_
  refine ED.use (R := fun _ d => d = .ins C fs ∧ fs.lookup m = none ∧ EA X ex (e :: es) Γ fun ds => ds.length + 1 = n ∧ φ (d :: ds) R ex) (h.imp fun _ _ h => h) E tk xa fun d v G1 H1 h1 s1 r1 => ?_
  obtain ⟨rfl, hl, h1⟩ := h1
  have r1' := r1
  cases r1 with
  | ins hp q =>
    refine ⟨_, _, _, rfl, s1.ext _ _ hp, q.none hl, ?_⟩
    refine h1 σ G1 H1 (E.go s1) W tk (xa.go s1) _ fun ds vs G2 H2 h2 s2 r2 => ?_
    have st := s1.trans s2
    exact ⟨G2, .ins C fs :: ds, R, ex, s2.ext, .cons (r1'.mono s2.le) r2, h2.1, h2.2, fun o d v G' H' hR s r => k' o d v G' H' hR (st.trans s) (r.back st), fun x c d G' H' hx s hc => xa x c d G' H' hx (st.trans s) (hc.older st)⟩
theorem meth0 {k : Nat} {f C : Addr} {φ : Ph} {m : Str} {o : Expr} {fs : List (Str × D)} {pl : Sem Bool} (c : Cls X.K C) (hm : Meth X.K C m f) (F : FnX X k f 1 φ) (hr : Room k X.A)
    (h : ED X ex o Γ fun _ d => d = .ins C fs ∧ fs.lookup m = none ∧ φ [d] R ex)
    (ht : eval (.Call (.Attribute o m apos) [] [] pos) X.env = (do
      let ov ← eval o X.env
      standAt apos.atName
      let (f, first) ← holding [ov] (getMethod ov m pl)
      callWith pos f first (backTo pos (starEach [] X.env)) (backToKw pos (keywordEach [] X.env))) := by rfl) : ED X ex (.Call (.Attribute o m apos) [] [] pos) Γ R := by
  intro σ G H E W tk xa Q k'
  obtain ⟨fd, ps, F1, F2⟩ := F.ok
  refine tW_of (pe_methS0 (E := WE W) (ta := tW X o) pe_W c hm F1 hr F2 tk.call ht) ?_
  refine ED.use (R := fun _ d => d = .ins C fs ∧ fs.lookup m = none ∧ φ [d] R ex) (h.imp fun _ _ h => h) E tk xa fun d v G1 H1 h1 s1 r1 => ?_
  obtain ⟨rfl, hl, h1⟩ := h1
  have r1' := r1
  cases r1 with
  | ins hp q =>
    exact ⟨_, _, _, rfl, s1.ext _ _ hp, q.none hl, G1, [.ins C fs], R, ex, s1.ext, .cons r1' .nil, rfl, h1, fun o d v G' H' hR s r => k' o d v G' H' hR (s1.trans s) (r.back s1), fun x c d G' H' hx s hc => xa x c d G' H' hx (s1.trans s) (hc.older s1)⟩

/-! ### objects made -/
/-- an __init__'s promise by data: φ args the-fields-at-the-end what-is-raised -/
abbrev PhI := List D → (List (Str × D) → Prop) → (Exn → Prop) → Prop
def spI (K : PySem.W.Frag) (C : Addr) (n : Nat) (φ : PhI) : Sp := fun vs H Q Ek => ∃ (G : Gh) (ds : List D) (x dx : Addr) (vs' : List V) (rt : List (Str × D) → Prop) (xs : Exn → Prop), Ext G H ∧ vs = .ref x :: vs' ∧ Reps K G ds vs' ∧ ds.length = n ∧ H x = some (.ins C dx []) ∧ G x = none ∧ φ ds rt xs ∧
  (∀ fs G' H', rt fs → Step (fun a => a = x) G H G' H' → G' x = none → OwnAt K G' H' x (.ins C fs) → Q .non H') ∧ (∀ e c d G' H', xs e → Step (fun a => a = x) G H G' H' → ExcAt K H G' H' e c d → Ek c d H')
theorem spI_len {K : PySem.W.Frag} {C : Addr} {n : Nat} {φ : PhI} {vs : List V} {H : Hp} {Q : VK} {Ek : XK} (h : spI K C n φ vs H Q Ek) : vs.length = n + 1 := by
  obtain ⟨G, ds, x, dx, vs', _, _, _, rfl, r, hl, _⟩ := h
  rw [List.length_cons, ← r.length, hl]
structure FnI (P : Program) (w : World) (K : PySem.W.Frag) (mg : Str → Option Value) (base : Heap) (k : Nat) (f C : Addr) (n : Nat) (φ : PhI) : Prop where
  ok : ∃ fd ps, FnOk P w K mg base (L2.CX P w) k f fd ps (spI K C n φ) ∧ Binds K fd ps []
theorem run_makeS {CX : CXT} {k : Nat} {f C : Addr} {fd : FuncData} {ps : List Str} {sp : Sp} {E : XK} {pins : List (Addr × Obj)} {σ : St} {H : Hp} {s : Shared} {Q : VK} {us : List Value} {vs : List V} (M : Mk X.K C f) (F : FnOk X.prog X.w X.K X.mg X.base CX k f fd ps sp) (hr : Room (k + 1) X.A) (hb : Binds X.K fd ps [])
    (hx : PassesAt CX X σ E) (I : Inv X pins σ H s) (r : Vals vs us)
    (h : ∀ x dx, H x = none → H dx = none → dx ≠ x → sp (.ref x :: vs) (upd (upd H dx (.own x)) x (.ins C dx [])) (fun v H2 => v = .non ∧ Q (.ref x) H2) E) :
    wpAny (model X.prog X.w) X.A (call (.ref C) us) (EP X pins σ Q) X.xe s := by
  generalize hn : s.heap.objs.size = z
  have h1 : H (z + 1) = none := I.hok.fresh (by rw [hn]; exact Nat.le_succ _)
  have h2 : H z = none := I.hok.fresh (Nat.le_of_eq hn)
  have hq := h (z + 1) z h1 h2 (Nat.ne_of_lt (Nat.lt_succ_self _))
  have I2 := Inv.made (C := C) I
  rw [hn] at I2
  have r2 : Vals (V.ref (z + 1) :: vs) (Value.ref (z + 1) :: us) := .cons rfl r
  have hl : (Value.ref (z + 1) :: us).length = ps.length := by rw [← r2.length]; exact F.len _ _ _ _ hq
  have b := hb _ (Value.ref (z + 1) :: us) I2.kIn (by rw [List.append_nil]; exact hl)
  rw [List.append_nil] at b
  refine wpAny_call (make_map (f := f) I.kIn M.makes M.init (beq_iff_eq.mp M.fn) ?_)
  rw [hn]
  refine codeAny_mono (F.run _ X.stack _ _ ⟨Value.ref (z + 1) :: us, []⟩ (Value.ref (z + 1) :: us) _ _ E (hr.make C us []) (I2.env0.make C us []) b r2 hq) fun r s' hq' => ?_
  cases r with
  | error e => exact hx pins _ _ e s' I2 hq'
  | ok fl =>
    cases fl with
    | ret u =>
      obtain ⟨v, H', I3, rv, ev, q3⟩ := I2.after hq'
      subst ev
      exact ⟨rv, ⟨V.ref (z + 1), H', I3, rfl, q3⟩⟩
    | next => exact hq'.elim
    | brk => exact hq'.elim
    | cont => exact hq'.elim
theorem pe_makeS {CX : CXT} {k : Nat} {f C : Addr} {fd : FuncData} {ps : List Str} {sp : Sp} {E : St → XK} {x : Str} {e : Expr} {es : List Expr} {t : TA} (M : Mk X.K C f) (F : FnOk X.prog X.w X.K X.mg X.base CX k f fd ps sp) (hr : Room (k + 1) X.A) (hg : Gl X x) (hm : X.mg x = some (.ref C)) (hb : Binds X.K fd ps []) (hx : ∀ σ, PassesAt CX X σ (E σ))
    (ha : PA X (e :: es) t) (hdb : (x == ("__debug__" : Str)) = false := by decide) (he : starEach (e :: es) X.env = (false, eval e X.env) :: starEach es X.env := by rfl) (hpl : (backTo pos (starEach es X.env)).any (·.1) = false := by rfl) :
    PE X (.Call (.Name x p) (e :: es) [] pos) (fun σ H Q => t σ H fun vs H1 => ∀ x dx, H1 x = none → H1 dx = none → dx ≠ x → sp (.ref x :: vs) (upd (upd H1 dx (.own x)) x (.ins C dx [])) (fun v H2 => v = .non ∧ Q (.ref x) H2) (E σ)) := by
  refine ⟨fun pins s σ H Q I h => ?_⟩
  refine wpAny_Call_Name_kw (ld_glob I hg hm (PySem.W.callWith_K (h₀ := X.base) I.ok.mod.kin M.kp (thn (ha.run pos pins s σ H _ I h) fun us s1 hh => ?_) he hpl) hdb)
  obtain ⟨vs, H1, I1, r, q⟩ := hh
  exact ⟨I1.kIn, run_makeS M F hr hb (hx σ) I1 r q⟩
theorem Step.own0 {x : Addr} {G G1 : Gh} {H H0 H1 : Hp} (a : Step0 G H G H0) (hx : H x = none) (b : Step (fun a => a = x) G H0 G1 H1) : Step0 G H G1 H1 where
  le := b.le
  kept := fun y o h n _ => b.kept y o (a.kept y o h n id) n fun z => by rw [z, hx] at h; cases h
  new := fun y g h n => by
    have := b.new y g h n
    exact a.free this
  ext := b.ext
  live := fun y o h => by
    obtain ⟨o', h'⟩ := a.live y o h
    exact b.live y o' h'
/-- C(e, ..) -/
theorem make {k n : Nat} {f C : Addr} {φ : PhI} {x : Str} {e : Expr} {es : List Expr} (M : Mk X.K C f) (F : FnI X.prog X.w X.K X.mg X.base k f C n φ) (hr : Room (k + 1) X.A) (hm : X.mg x = some (.ref C))
    (h : EA X ex (e :: es) Γ fun ds => ds.length = n ∧ φ ds (fun fs => R true (.ins C fs)) ex) (hg : Gl X x := by rfl)
    (hdb : (x == ("__debug__" : Str)) = false := by decide) (he : starEach (e :: es) X.env = (false, eval e X.env) :: starEach es X.env := by rfl) (hpl : (backTo pos (starEach es X.env)).any (·.1) = false := by rfl) : ED X ex (.Call (.Name x p) (e :: es) [] pos) Γ R := by
  intro σ G H E W tk xa Q k'
  obtain ⟨fd, ps, F1, F2⟩ := F.ok
  refine tW_of (pe_makeS (E := WE W) (t := tWa X (e :: es)) M F1 hr hg hm F2 tk.call pa_W hdb he hpl) ?_
  refine h σ G H E W tk xa _ fun ds vs G1 H1 h1 s1 r1 => ?_
  intro y dy ny ndy ne
  have a1 : Step0 G1 H1 G1 (upd H1 dy (.own y)) := .alloc s1.ext ndy
  have ny' : (upd H1 dy (HO.own y)) y = none := by rw [upd_ne (Ne.symm ne)]; exact ny
  have a2 : Step0 G1 H1 G1 (upd (upd H1 dy (.own y)) y (.ins C dy [])) := a1.trans (.alloc a1.ext ny')
  refine ⟨G1, ds, y, dy, vs, _, ex, a2.ext, rfl, r1, h1.1, upd_same, s1.ext.gfree ny, h1.2, fun fs G' H' hR s ng w => ⟨rfl, ?_⟩, fun z c d G' H' hx s hc => ?_⟩
  · exact k' true _ _ G' H' hR (s1.trans (a2.own0 ny s)) ⟨y, rfl, s1.free ny, ng, w⟩
  · exact xa z c d G' H' hx (s1.trans (a2.own0 ny s)) (hc.older (s1.trans a2))
end
section
variable {P : Program} {w : World} {K : PySem.W.Frag} {mg : Str → Option Value} {base : Heap}
/-- the slots at an __init__'s entry -/
def envI (N : List Str) (x C : Addr) (ds : List D) : En := (env0 N (.ref x :: ds)).set 0 (some (true, .adr x (.ins C [])))
theorem fn_I {x qual : Str} {st : Stmt} {f C : Addr} {fd : FuncData} {N ps : List Str} {k n : Nat} {φ : PhI} (F : Fun K x qual st f fd) (S : FnScope N ps (defScope st)) (b : Binds K fd ps []) (hn : ps.length = n + 1)
    (hbody : ∀ (cdv : Value) (A : Around) (outer : List Env) (s : Shared) (H : Hp) (E : XK), Room k (bodyX P w K mg base N qual st f cdv A outer s H E).A → ∀ x ds rt xs, φ ds rt xs → ds.length = n →
      WD (bodyX P w K mg base N qual st f cdv A outer s H E) (fun y _ => xs y) (defBody st) (envI N x C ds) { nx := fun Γ => ∃ fs, Γ[0]? = some (some (true, .adr x (.ins C fs))) ∧ rt fs, rt := fun _ _ _ => False, lb := [x] }) :
    FnI P w K mg base (k + 1) f C n φ := by
  refine ⟨⟨fd, ps, F.okX S (fun vs H Q E h => (spI_len h).trans hn.symm) (fun cdv A outer s H vs Q E hr h => ⟨_, pss_W, ?_⟩), b⟩⟩
  obtain ⟨G, ds, y, dy, vs', rt, xs, e, rfl, r, hl, hy, gy, hφ, hrt, hxs⟩ := h
  have L0 : Loc K G H (L2.start N (.ref y :: vs')) (env0 N (.ref y :: ds)) := loc_start e (.cons .ref r)
  have own0 : ∀ (j : Nat) (d : D), (env0 N (.ref y :: ds))[j]? = some (some (true, d)) → False := fun i d h => by
    unfold env0 at h
    by_cases hi : i < (D.ref y :: ds).length
    · rw [List.getElem?_append_left (by rw [List.length_map]; exact hi), List.getElem?_map] at h
      cases q : (D.ref y :: ds)[i]? with
      | none => rw [q] at h; cases h
      | some d' => rw [q] at h; cases h
    · rw [List.getElem?_append_right (by rw [List.length_map]; exact Nat.le_of_not_lt hi), List.getElem?_replicate] at h
      split at h <;> cases h
  have h0 : (L2.start N (.ref y :: vs'))[0]? = some (some (.ref y)) := rfl
  have L1 := L0.promote (i := 0) (d := .adr y (.ins C [])) h0 gy (.adr (.ins hy .nil)) fun j d _ h _ => own0 j d h
  refine hbody cdv A outer s H E hr y ds rt xs hφ hl { B := fun a => a = y, G0 := G, H0 := H } _ G H ⟨L1, .refl e, fun i d p h hp => ?_⟩ (fun c d _ H' => E c d H') ⟨takes_of rfl rfl rfl rfl, passes_of rfl, fun x c d G' H' σ' Γ' hx E' _ hc => hxs x c d G' H' hx E'.step hc⟩ _
    ⟨fun G' H' σ' Γ' ⟨fs, hfs, hR⟩ E' _ => ?_, fun _ _ _ _ _ _ _ h => h.elim, fun _ _ _ _ h => h.elim, fun _ _ _ _ h => h.elim, fun a h => by rw [h]; exact List.mem_cons_self⟩
  · rcases set_get h with ⟨rfl, _⟩ | ⟨_, h⟩
    · rw [h0] at hp; cases hp
      exact .inr rfl
    · exact (own0 i d h).elim
  · obtain ⟨p, h1, h2, h3⟩ := E'.loc.own 0 _ hfs
    cases h3 with
    | adr w => exact hrt fs G' H' hR E'.step h2 w
end
section
variable {X : Cx} {ex : Exn → Prop} {Γ : En} {R : Bool → D → Prop} {pos p apos : Pos}
def keyD (kvs : List (Key × D)) : List D := kvs.map fun kv => kD kv.1
theorem RepK.keys {K : PySem.W.Frag} {G : Gh} : ∀ {xs : List (Key × D)} {vs : List (Key × V)}, RepK K G xs vs → Reps K G (keyD xs) (vs.map fun kv => kV kv.1)
  | _, _, .nil => .nil
  | _, _, .cons (k := k) _ t => by
    refine .cons ?_ (RepK.keys t)
    cases k with
    | inl i => exact .int
    | inr s => exact .str
/-- list(dict) -/
theorem list_dK {a : Expr} (hm : X.mg "list" = none) (h : ED X ex a Γ fun _ d => ∃ kvs, d = .dK kvs ∧ R true (.lst (keyD kvs))) (hc : X.calm = true := by rfl) (hg : Gl X "list" := by rfl)
    (h1 : starEach (a :: []) X.env = (false, eval a X.env) :: starEach [] X.env := by rfl) (hpl : (backTo pos (starEach [] X.env)).any (·.1) = false := by rfl) : ED X ex (.Call (.Name "list" p) [a] [] pos) Γ R := by
  refine ed_ct (call_list_dK hc) hm (by decide +kernel) hg (ea_cons (h.imp fun _ d hd => ea_nil fun vs G H E r Q k => ?_) h1) (by decide) (by decide) h1 hpl
  obtain ⟨kvs, rfl, hR⟩ := hd
  obtain ⟨v, rfl, rr⟩ := rep1 r
  cases rr with
  | dK hp q => exact ⟨_, _, rfl, E _ _ hp, newL E q.keys hR k⟩
theorem nin_dict {d y : D} {o : Option D} {R : Bool → Prop} (hu : X.A.units + 1 < cLine) (g : GetD d y o) (h : R (!o.isSome)) : CmpR X .NotIn y d R := fun G H x z E r1 r2 pins σ s u w I ru rw' Q k => by
  obtain ⟨a, o', rfl, dg, ro⟩ := g.go E r2 r1
  obtain rfl : w = Value.ref a := rw'
  exact d_notIn hu I dg ru fun s' I' => ⟨.bl (!o.isSome), H, I', by rw [← ro.isSome]; rfl, k _ G H h (.refl E)⟩
theorem len_str {z : Str} (h : z.length ≤ sizeLine) : lenD (.str z) = some z.length := if_pos h
end
end DL

/-! DL20: list(text), list.index. -/
namespace DL
open PySem L2
section
variable {X : Cx} {ex : Exn → Prop} {Γ : En} {R : Bool → D → Prop} {pos p apos : Pos}
theorem call_listT (hc : X.calm = true) : CallR X (.type "list") (fun xs H Q => ∃ z : Str, xs = [.str z] ∧ z.length ≤ sizeLine ∧ ∀ q, H q = none → Q (.ref q) (upd H q (.lst ((DL.signs z).map V.str)))) := by
  intro pins s σ H xs us Q I r h
  obtain ⟨z, rfl, hz, q⟩ := h
  cases r with
  | cons r1 rr =>
    cases rr
    obtain ⟨t, rfl⟩ := r1
    refine PySem.call_list_str (I.ok.hd hc) z t (hn := hz) fun h' tk acc c' hk e' hi => ?_
    have hl : acc.toList.length = z.cps.size := by rw [Array.length_toList]; exact hi.1
    refine ⟨.ref s.heap.objs.size, _, I.laid hk (Nat.le_refl _) (show ObjOk X.prog X.w _ _ _ (.lst ((DL.signs z).map V.str)) from ⟨?_, acc.toList, c', vals_of_at ?_ fun j x u h1 h2 => ?_, ?_⟩), rfl, q _ (I.hok.fresh (Nat.le_refl _))⟩
    · rw [List.length_map, signs_length]; exact hz
    · rw [List.length_map, signs_length, hl]
    · rw [Array.getElem?_toList] at h2
      obtain ⟨c, u', hc', rfl⟩ := hi.2 j u h2
      unfold DL.signs at h1
      rw [List.getElem?_map, List.getElem?_map, Array.getElem?_toList, hc'] at h1
      cases h1
      exact ⟨u', rfl⟩
    · rw [Array.toArray_toList]; exact e'
/-- list(text) -/
theorem listT {a : Expr} (hm : X.mg "list" = none) (h : ED X ex a Γ fun _ d => ∃ z : Str, d = .str z ∧ z.length ≤ sizeLine ∧ R true (.lst ((signs z).map D.str))) (hc : X.calm = true := by rfl) (hg : Gl X "list" := by rfl)
    (h1 : starEach (a :: []) X.env = (false, eval a X.env) :: starEach [] X.env := by rfl) (hpl : (backTo pos (starEach [] X.env)).any (·.1) = false := by rfl) : ED X ex (.Call (.Name "list" p) [a] [] pos) Γ R := by
  refine ed_ct (call_listT hc) hm (by decide +kernel) hg (ea_cons (h.imp fun _ d hd => ea_nil fun vs G H E r Q k => ?_) h1) (by decide) (by decide) h1 hpl
  obtain ⟨z, rfl, hz, hR⟩ := hd
  obtain ⟨v, rfl, rr⟩ := rep1 r
  cases rr
  exact ⟨z, rfl, hz, newL E (Reps.ofStrs _) hR k⟩
/-- xs.index(x) of flat things -/
theorem lindex {o e : Expr} (h : ED X ex o Γ fun _ d => ∃ xs : List D, d = .lst xs ∧ xs.all flat4 = true ∧ ED X ex e Γ fun _ y => flat4 y = true ∧ ∃ (j : Nat) (z : D), xs[j]? = some z ∧ eq4 z y = true ∧ (∀ (m : Nat) (z' : D), m < j → xs[m]? = some z' → eq4 z' y = false) ∧ R false (.int (j : Nat)))
    (hbase : attributeBase o "index" X.env (eval o X.env) = eval o X.env := by rfl)
    (hfew : ((backTo pos (starEach [e] X.env)).all (fun x => !x.1) && (backToKw pos (keywordEach [] X.env)).all (fun x => x.1.isSome)
      && decide (([e] : List Expr).length + ([] : List Keyword).length + (if ([] : List Keyword).isEmpty then 0 else 1) < 30)) = true := by rfl)
    (hline : (apos.endLine == pos.line) = true := by rfl) (hs1 : starEach (e :: []) X.env = (false, eval e X.env) :: starEach [] X.env := by rfl) (hpl : (backTo pos (starEach [] X.env)).any (·.1) = false := by rfl) : ED X ex (.Call (.Attribute o "index" apos) [e] [] pos) Γ R := by
  intro σ G H E W tk xa Q k
  refine tW_of (pe_bm PySem.F.plainAttrs_list PySem.F.slot_list_index PySem.F.type_list_index mt_index (to := tW X o) pe_W (pa_cons (te := tW X e) (t := tWa X []) pe_W pa_W hs1) hbase hfew hline hs1 hpl) ?_
  refine ED.use (R := fun _ d => ∃ xs : List D, d = .lst xs ∧ xs.all flat4 = true ∧ ED X ex e Γ fun _ y => flat4 y = true ∧ ∃ (j : Nat) (z : D), xs[j]? = some z ∧ eq4 z y = true ∧ (∀ (m : Nat) (z' : D), m < j → xs[m]? = some z' → eq4 z' y = false) ∧ R false (.int (j : Nat))) h E tk xa fun d v G1 H1 h1 s1 r1 => ?_
  obtain ⟨xs, rfl, hf, h1⟩ := h1
  cases r1 with
  | lst hp r =>
    refine ⟨ty_list (K := X.K) (s1.ext _ _ hp), ?_⟩
    refine ED.use (R := fun _ y => flat4 y = true ∧ ∃ (j : Nat) (z : D), xs[j]? = some z ∧ eq4 z y = true ∧ (∀ (m : Nat) (z' : D), m < j → xs[m]? = some z' → eq4 z' y = false) ∧ R false (.int (j : Nat))) (h1.imp fun _ _ h => h) (E.go s1) tk (xa.go s1) fun y w G2 H2 h2 s2 r2 => ?_
    obtain ⟨hy, j, z, hj, hz, hno, hR⟩ := h2
    refine (ea_nil (ex := fun _ => False) (R := fun ds => ds = []) rfl) σ G2 H2 ((E.go s1).go s2) (fun _ _ _ _ => False) (.of takes0) (fun _ _ _ _ _ hx => hx.elim) _ fun ds vs G3 H3 e3 s3 r3 => ?_
    subst e3
    cases r3
    have st := (s1.trans s2).trans s3
    have r' := r.mono (s2.trans s3).le
    have r2' := r2.mono s3.le
    obtain ⟨zv, hzv, rz⟩ := r'.get hj
    refine ⟨_, _, w, j, zv, rfl, rfl, SqL.of (st.ext _ _ ((s2.trans s3).le _ _ hp)), r2'.flat4 hy, r'.flat4 hf, hzv, ?_, fun m z' hm hz' => ?_, k _ _ _ G3 H3 hR st .int⟩
    · rw [rz.eq4 r2' (List.all_eq_true.mp hf z (List.mem_of_getElem? hj)) hy]; exact hz
    · obtain ⟨d', hd', rd'⟩ := r'.getv hz'
      rw [rd'.eq4 r2' (List.all_eq_true.mp hf d' (List.mem_of_getElem? hd')) hy]
      exact hno m d' hm hd'
end
end DL

/-! DL21: the length of a set of texts. -/
namespace DL
open PySem PySem.Spec PyProof.Rows
def stepS (σ : List Str) (v : Str) : List Str := if σ.any (· == v) then σ else σ ++ [v]
def metS (xs : List Str) (i : Nat) : List Str := (xs.take i).foldl stepS []
theorem metS_succ {xs : List Str} {i : Nat} (h : i < xs.length) : metS xs (i + 1) = stepS (metS xs i) (xs.getD i Str.empty) := by
  unfold metS
  rw [List.take_add_one, List.foldl_append, List.getD_eq_getElem?_getD, List.getElem?_eq_getElem h]
  rfl
theorem metS_le (xs : List Str) : ∀ i, (metS xs i).length ≤ i := by
  intro i
  have key : ∀ (l acc : List Str), (l.foldl stepS acc).length ≤ acc.length + l.length := by
    intro l
    induction l with
    | nil => intro acc; exact Nat.le_refl _
    | cons a r ih =>
      intro acc
      have h1 := ih (stepS acc a)
      have h2 : (stepS acc a).length ≤ acc.length + 1 := by
        unfold stepS; split
        · omega
        · rw [List.length_append]; exact Nat.le_refl _
      rw [List.foldl_cons, List.length_cons]; omega
  have := key (xs.take i) []
  rw [List.length_take] at this
  have e0 : ([] : List Str).length = 0 := rfl
  unfold metS
  omega
theorem stepS_any (σ : List Str) (v k : Str) : (stepS σ v).any (· == k) = (σ.any (· == k) || decide (k = v)) := by
  unfold stepS
  by_cases h : σ.any (· == v) = true
  · rw [if_pos h]
    by_cases e : k = v
    · subst e; rw [h]; simp
    · simp [e]
  · rw [if_neg h, List.any_append]
    by_cases e : k = v
    · subst e; simp
    · have hb : (v == k) = false := by simpa [beq_iff_eq] using (fun h' : v = k => e h'.symm)
      simp [hb, e]
theorem stepS_length (σ : List Str) (v : Str) : (stepS σ v).length = if σ.any (· == v) then σ.length else σ.length + 1 := by
  unfold stepS; split <;> simp
section
variable {prog : Program} {w : World} {A : Around} {R : Result → Shared → Prop} {I : Addr} {fp wr : List Addr} {G : Array GenState → Array GenState → Prop} {n : Nat} {P : Nat → Value → Prop} {St : Nat → Shared → Prop}
theorem loopSs (W : WalksS prog w A.in1 I fp wr G n P St) (S : Addr) (hSf : S ∉ fp) (xs : List Str) (hsz : xs.length = n) (hb : n + 1 < scanBound)
    (hval : ∀ i v, P i v → ∃ t, v = .str (xs.getD i Str.empty) t) :
    ∀ (k i : Nat) (s : Shared), n - i = k → i ≤ n → St i s →
      s.heap.SetOf (PySem.strKind prog w) S (fun k' => (metS xs i).any (· == k')) (metS xs i).length →
      (∀ s', Moved (S :: wr) G s s' → s'.heap.SetOf (PySem.strKind prog w) S (fun k' => (metS xs n).any (· == k')) (metS xs n).length → R (.ok (.ret .none)) s') →
      codeAny (model prog w) A (.builtin "set.update.loop" ⟨[.ref S, .ref I], []⟩) R s := by
  have hSw : S ∉ wr := fun h => hSf (W.sub _ h)
  have hsub : ∀ b ∈ wr, b ∈ S :: wr := fun b hb => List.mem_cons_of_mem _ hb
  intro k
  induction k with
  | zero =>
    intro i s hk hi hst hS hR
    have hin : i = n := by omega
    subst hin
    refine codeAny_builtin PyProof.Rows.F.entry_set_update_loop ?_
    rw [Around.under_plainId PyProof.Rows.F.plain_set_update_loop _]
    show wpAny _ A.in1 (pyNext (.ref I) >>= _) _ _ s
    refine wpAny_bind (W.done s _ _ hst fun s' hm => ?_)
    show wpAny _ A.in1 (ret Value.none) _ _ s'
    exact wpAny_pure (hR s' (hm.mono hsub) (by
      obtain ⟨o, es, ep, t, ho, rest⟩ := hS
      exact ⟨o, es, ep, t, hm.heap S _ hSw ho, rest⟩))
  | succ k ih =>
    intro i s hk hi hst hS hR
    have hlt : i < n := by omega
    refine codeAny_builtin PyProof.Rows.F.entry_set_update_loop ?_
    rw [Around.under_plainId PyProof.Rows.F.plain_set_update_loop _]
    show wpAny _ A.in1 (pyNext (.ref I) >>= _) _ _ s
    refine wpAny_bind (W.item i s _ _ hlt hst fun v s' hP hst' hm => ?_)
    obtain ⟨t, rfl⟩ := hval i v hP
    have hS' : s'.heap.SetOf (PySem.strKind prog w) S (fun k' => (metS xs i).any (· == k')) (metS xs i).length := by
      obtain ⟨o, es, ep, tb, ho, rest⟩ := hS
      exact ⟨o, es, ep, tb, hm.heap S _ hSw ho, rest⟩
    show wpAny _ A.in1 (holding [Value.str (xs.getD i Str.empty) t] (setAdd S (.str (xs.getD i Str.empty) t)) >>= _) _ _ s'
    refine wpAny_bind (wpAny_holding ?_)
    unfold setAdd
    refine wpAny_holding ?_
    refine wpAny_bind ((PySem.strKind prog w).pyHash (k := xs.getD i Str.empty) (strKind_is _ _ _ _) ?_)
    have hroom : (metS xs i).length + 1 < scanBound := by have := metS_le xs i; omega
    refine wpAny_setAddHashed_of (knd := PySem.strKind prog w) (s := { s' with toks := s'.toks + 1 }) (strKind_is _ _ _ _) rfl hS' hroom fun h' hsb hS2 => ?_
    have hSi : h'.SetOf (PySem.strKind prog w) S (fun k' => (metS xs (i + 1)).any (· == k')) (metS xs (i + 1)).length :=
      SetOf_congr hS2 (fun k' => by rw [metS_succ (by omega), stepS_any]) (by rw [metS_succ (by omega), stepS_length])
    refine wpAny_pure ⟨plainId_quiet PyProof.Rows.F.plain_set_update_loop _, ih (i + 1) _ (by omega) hlt (W.frame _ s' _ _ hst' (Nat.le_succ _) fun b hb o e => ?_) hSi fun s'' hm'' hS'' => ?_⟩
    · rw [hsb.2 b (fun h : b = S => hSf (by rw [← h]; exact hb))]; exact e
    · refine hR s'' (Moved.trans W.gtrans ((hm.mono hsub).then_heap (Nat.le_succ _) fun b o hb e => ?_) hm'') hS''
      rw [hsb.2 b (fun h : b = S => hb (by rw [h]; exact List.mem_cons_self))]; exact e
end
section
variable {prog : Program} {w : World} {A : Around} {E : Value → Shared → Prop} {s : Shared}
theorem call_set_listSs {l : Addr} {items : Array Value} {xs : List Str} {Q : Value → Shared → Prop}
    (hh : A.handled = none) (hl : s.heap.IsList l items) (hi : PyProof.Rows.StrsAre items.toList xs) (hb : xs.length + 1 < scanBound)
    (h : ∀ (h' : Heap) (tk : Nat), h'.SetOf (PySem.strKind prog w) s.heap.objs.size (fun k' => (metS xs items.size).any (· == k')) (metS xs items.size).length →
      (∀ b o, b < s.heap.objs.size → s.heap.get? b = some o → h'.get? b = some o) → Q (.ref s.heap.objs.size) { s with heap := h', toks := tk }) :
    wpAny (model prog w) A (call (.type "set") [.ref l]) Q E s := by
  obtain ⟨c, tl, hmro⟩ := PySem.F.called_set.mro
  have hmade := PySem.F.called_set.made
  have hsub := PySem.F.called_set.sub
  refine wpAny_call (codeAny_of_tree ?_)
  show wpAny _ _ (callAny (.type "set") _) _ _ _
  refine wpAny_pure ⟨Code.quiet_builtin _ (by decide +kernel), codeAny_builtin PySem.F.entry_type_call ?_⟩
  rw [Around.under_plain (weight_type_call_type "set" [.ref l] []) rfl]
  have h1 := PySem.F.called_set.notType
  have h2 := PySem.F.called_set.canCreate
  have hct := PySem.F.typeCall_set_1 (.ref l)
  repeat (any_goals (first | assumption | wp_step))
  refine codeAny_mono (code_set_new_1 (.ref l) (E := E) (Q₁ := fun obj s₁ => ∃ led : Bool, obj = .ref s.heap.objs.size ∧ s₁ = { s with heap := s.heap.push { cls := .type "set", dict := none, data := .set #[] 0 (.fresh 0 0 led) } }) fun led => ⟨led, rfl, rfl⟩) fun r s₁ hr => ?_
  cases r with
  | error e => exact hr
  | ok fl =>
    cases fl with
    | ret obj =>
      obtain ⟨led, rfl, rfl⟩ := hr
      have hS : (s.heap.push { cls := .type "set", dict := none, data := .set #[] 0 (.fresh 0 0 led) }).get? s.heap.objs.size = some { cls := .type "set", dict := none, data := .set #[] 0 (.fresh 0 0 led) } := Heap.get?_push_size _ rfl
      have hT : Shared.TypeIs { s with heap := s.heap.push { cls := .type "set", dict := none, data := .set #[] 0 (.fresh 0 0 led) } } (.ref s.heap.objs.size) "set" := ⟨_, hS, rfl⟩
      have hli := PySem.F.called_set.init.lookup
      have hbi := PySem.F.called_set.init.bind (.ref s.heap.objs.size)
      repeat (any_goals (first | assumption | wp_step))
      refine codeAny_mono (codeAny_call_builtin (R := wants (fun r s₂ => r = .none ∧ ∃ h' tk, s₂ = { s with heap := h', toks := tk } ∧
          h'.SetOf (PySem.strKind prog w) s.heap.objs.size (fun k' => (metS xs items.size).any (· == k')) (metS xs items.size).length ∧
          (∀ b o, b < s.heap.objs.size → s.heap.get? b = some o → h'.get? b = some o)) E) PySem.F.called_set.init.plain PySem.F.entry_set_init (check_set_init_1 hT ?_)) fun r₂ s₂ hr₂ => ?_
      · obtain ⟨ol, hol, hcl, nl, hdl⟩ := hl
        obtain ⟨ocls, odict, odata, oslots⟩ := ol
        simp only at hcl hdl
        subst hcl; subst hdl
        have hol' : (s.heap.push { cls := .type "set", dict := none, data := .set #[] 0 (.fresh 0 0 led) }).get? l = some { cls := .type "list", dict := odict, data := .seq items nl, slots := oslots } := Heap.get?_push_of_some _ hol
        have hsls := PySem.F.sub_list_set
        have hslf := PySem.F.sub_list_frozenset
        have hne : (Value.type "list" == Value.type "dict") = false := by decide
        have hl1 : (s.heap.push { cls := .type "set", dict := none, data := .set #[] 0 (.fresh 0 0 led) }).IsList l items := ⟨_, hol', rfl, nl, rfl⟩
        unfold Builtin.«set.__init__» noKeywords Builtin.Frozenset.updateFrom
        generalize hPI : pyIter = PI
        wp_walk
        subst hPI
        refine wpAny_pyIter_list hl1 ?_
        refine wpAny_bind (wpAny_runValue ?_)
        have hlS : l < s.heap.objs.size := Heap.lt_size hol
        have hh3 : A.in1.in1.in1.handled = none := by simp [hh]
        have hneI : l ≠ (s.heap.push { cls := .type "set", dict := none, data := .set #[] 0 (.fresh 0 0 led) }).objs.size := by
          rw [Heap.size_push]; exact Nat.ne_of_lt (Nat.lt_succ_of_lt hlS)
        have hSf : s.heap.objs.size ∉ [(s.heap.push { cls := .type "set", dict := none, data := .set #[] 0 (.fresh 0 0 led) }).objs.size, l] := by
          rw [Heap.size_push]; simp only [List.mem_cons, List.mem_singleton, List.not_mem_nil, or_false, not_or]
          exact ⟨Nat.ne_of_lt (Nat.lt_succ_self _), Nat.ne_of_gt hlS⟩
        have hsz : xs.length = items.size := by rw [← StrsAre.len_eq hi, Array.length_toList]
        have hval : ∀ (i : Nat) (v : Value), items[i]? = some v → ∃ t, v = .str (xs.getD i Str.empty) t := fun i v hv => SS.strs_at hi i v (by rw [Array.getElem?_toList]; exact hv)
        refine loopSs ((Walks.list hh3 _ l hneI items).toS) s.heap.objs.size
          hSf xs hsz (by rw [← hsz]; exact hb) hval (items.size - 0) 0 _ (by omega) (Nat.zero_le _)
          ⟨⟨_, Heap.get?_push_size _ rfl, rfl, rfl⟩, (hl1.push _)⟩ ?hS0 ?hR
        case hS0 =>
          have hget : ((s.heap.push { cls := .type "set", dict := none, data := .set #[] 0 (.fresh 0 0 led) }).push { cls := .type "list_iterator", data := .fields #[.ref l, .int 0 0] }).get? s.heap.objs.size
              = some { cls := .type "set", dict := none, data := .set #[] 0 (.fresh 0 0 led) } := Heap.get?_push_of_some _ hS
          exact PyProof.Rows.SetOf_congr ((PyProof.Rows.setObjOf_fresh (knd := PySem.strKind prog w) led).setOf hget (by unfold scanBound; omega)) (fun _ => by unfold metS; rw [List.take_zero]; rfl) (by unfold metS; rw [List.take_zero]; rfl)
        case hR =>
          intro s' hm hS'
          obtain ⟨h', g', d', tk', os'⟩ := s'
          have eg : g' = s.gens := hm.gens
          have ed : d' = s.drawn := hm.drawn
          have eo : os' = s.os := hm.os
          subst eg; subst ed; subst eo
          show wpAny _ _ _ _ _ _
          refine wpAny_pure ?_
          show wpAny _ _ (ret Value.none) _ _ _
          refine wpAny_pure ⟨rfl, h', tk', rfl, hS', fun b o hb e => ?_⟩
          have hb1 : b ≠ s.heap.objs.size := Nat.ne_of_lt hb
          have hb2 : b ≠ (s.heap.push { cls := .type "set", dict := none, data := .set #[] 0 (.fresh 0 0 led) }).objs.size := by
            rw [Heap.size_push]; exact Nat.ne_of_lt (Nat.lt_succ_of_lt hb)
          exact hm.heap b o (by simp only [List.mem_cons, List.mem_singleton, List.not_mem_nil, or_false, not_or]; exact ⟨hb1, hb2⟩) (Heap.get?_push_of_some _ (Heap.get?_push_of_some _ e))
      · cases r₂ with
        | error e => exact hr₂
        | ok fl₂ =>
          cases fl₂ with
          | ret r =>
            obtain ⟨rfl, h', tk, rfl, hS', hk'⟩ := hr₂
            repeat (any_goals (first | assumption | wp_step))
            exact h _ _ hS' hk'
          | _ => exact hr₂.elim
    | _ => exact hr.elim
end
/-! ### the rule -/
open L2
section
variable {X : Cx} {ex : Exn → Prop} {Γ : En} {R : Bool → D → Prop} {p p2 pos2 pos : Pos}
theorem strsOf : ∀ {xs : List Str} {us : List Value}, Vals (xs.map V.str) us → StrsAre us xs
  | [], _, .nil => .nil
  | y :: _, _, .cons r t => by
    obtain ⟨k, rfl⟩ := r
    exact .cons y k (strsOf t)
def tLenSs (K : PySem.W.Frag) (ta : TE) : TE := fun σ H Q => ta σ H fun x H1 => ∃ (l : Addr) (xs : List Str), x = .ref l ∧ SqL K H1 l (xs.map V.str) ∧ xs.length + 1 < scanBound ∧ Q (.int (metS xs xs.length).length) H1
theorem pe_lenSs {a : Expr} {ta : TE} {q : Pos} (hc : X.calm = true) (hg : Gl X "len") (hm : X.mg "len" = none) (hg2 : Gl X "set") (hm2 : X.mg "set" = none) (ha : PE X a ta)
    (na : starEach [a] X.env = (false, eval a X.env) :: starEach [] X.env := by rfl) : PE X (.Call (.Name "len" p) [.Call (.Name "set" p2) [a] [] q] [] pos) (tLenSs X.K ta) := by
  refine ⟨fun pins s σ H Q I h => ?_⟩
  refine Call_ (ld_blt I hg hm boot_len ?_)
  refine PyProof.Rows.callWith_builtin1 (PyProof.Rows.args_cons ?_ rfl) rfl rfl
  refine Call_ (ld_blt I hg2 hm2 boot_set ?_)
  refine PyProof.Rows.callWith_type1 (PyProof.Rows.args_cons (thn (ha.run pins s σ H _ I h) fun v s1 ⟨x, H1, I1, r1, q1⟩ => PyProof.Rows.args_nil ?_) na) na rfl
  obtain ⟨l, xs, rfl, hq, h1, q1⟩ := q1
  cases r1
  obtain ⟨its, r, pl, hz⟩ := I1.list hq
  refine call_set_listSs (I1.ok.hd hc) pl.isList (by simpa using strsOf r) h1 fun h' tk hS hk => ?_
  refine PyProof.Rows.args_nil ?_
  have hl : its.toArray.size = xs.length := by rw [List.size_toArray, ← r.length, List.length_map]
  rw [hl] at hS
  have hb : scanBound < 2 ^ 62 := by unfold scanBound; omega
  have hle := metS_le xs xs.length
  obtain ⟨o, es, ep, t, ho, hex, hd, _, _, _, hf, hn⟩ := hS
  have I2 : Inv X pins σ H1 { s1 with heap := h', toks := tk } := I1.kept fun b o e => hk b o (Heap.lt_size e) e
  exact call_len_set ho hex hd hf (by rw [hn]; omega) ⟨.int (metS xs xs.length).length, H1, I2.tok _, ⟨_, by rw [hn]⟩, q1⟩
/-- len(set(a)), a a list of texts -/
theorem ed_lenSet {a : Expr} (hm : X.mg "len" = none) (hm2 : X.mg "set" = none) (h : ED X ex a Γ fun _ d => ∃ xs : List Str, d = .lst (xs.map D.str) ∧ xs.length + 1 < scanBound ∧ R false (.int (metS xs xs.length).length))
    (hc : X.calm = true := by rfl) (hg : Gl X "len" := by rfl) (hg2 : Gl X "set" := by rfl) (na : starEach [a] X.env = (false, eval a X.env) :: starEach [] X.env := by rfl) : ED X ex (.Call (.Name "len" p) [.Call (.Name "set" p2) [a] [] pos2] [] pos) Γ R := by
  intro σ G H E W tk xa Q k
  refine tW_of (pe_lenSs hc hg hm hg2 hm2 (pe_W (e := a)) na) ?_
  refine ED.use (R := fun _ d => ∃ xs : List Str, d = .lst (xs.map D.str) ∧ xs.length + 1 < scanBound ∧ R false (.int (metS xs xs.length).length)) h E tk xa fun d v G1 H1 h1 s1 r1 => ?_
  obtain ⟨xs, rfl, hb, hR⟩ := h1
  cases r1 with
  | lst hp r =>
    rw [r.strs] at hp
    exact ⟨_, xs, rfl, SqL.of (s1.ext _ _ hp), hb, k _ _ _ G1 H1 hR s1 .int⟩
end
end DL

/-! DL22: own things read by what gives flat tuples; xs[::-1]; small rules. -/
namespace DL
open PySem L2
/-! flat data and tuples of such -/
mutual
def flatT : D → Bool
  | .tup xs => flatTs xs
  | d => flat d
def flatTs : List D → Bool
  | [] => true
  | x :: xs => flatT x && flatTs xs
end
section
variable {K : PySem.W.Frag} {G : Gh} {H : Hp} {σ : St} {Γ : En}
open Classical in
/-- what is known without the own things -/
noncomputable def gless (σ : St) (Γ : En) (G1 : Gh) : Gh := fun a => if OwnS σ Γ a then none else G1 a
theorem OwnAt.nott {fvs : List V} : ∀ {p : Addr} {d : D}, OwnAt K G H p d → H p = some (.tup fvs) → False
  | _, _, .lst h _, e => by rw [h] at e; cases e
  | _, _, .dK h _, e => by rw [h] at e; cases e
  | _, _, .dT h _, e => by rw [h] at e; cases e
  | _, _, .ins h _, e => by rw [h] at e; cases e
  | _, _, .adr h, e => OwnAt.nott h e
theorem Loc.less (E : Loc K G H σ Γ) {G1 : Gh} {H1 : Hp} (s : Step0 (gall G H σ Γ) H G1 H1) : Step0 G H (gless σ Γ G1) H1 where
  le := fun a g h => by
    unfold gless
    rw [if_neg fun z => by rw [E.gnone z] at h; cases h]
    exact s.le a g (E.le_gall a g h)
  kept := fun a o h n _ => (E.thaw s).kept a o h n id
  new := fun a g h n => by
    unfold gless at h
    by_cases z : OwnS σ Γ a
    · rw [if_pos z] at h; cases h
    · rw [if_neg z] at h
      exact s.new a g h (by unfold gall; rw [if_neg z]; exact n)
  ext := fun a g h => by
    unfold gless at h
    by_cases z : OwnS σ Γ a
    · rw [if_pos z] at h; cases h
    · rw [if_neg z] at h; exact s.ext a g h
  live := s.live
/-- no own thing is a tuple -/
theorem Loc.notup (E : Loc K G H σ Γ) {G1 : Gh} {H1 : Hp} (s : Step0 (gall G H σ Γ) H G1 H1) {p : Addr} {vs : List V} (h : G1 p = some (.ho (.tup vs))) : gless σ Γ G1 p = some (.ho (.tup vs)) := by
  unfold gless
  rw [if_neg]
  · exact h
  · intro z
    obtain ⟨i, d, h1, h2⟩ := id z
    obtain ⟨q, q1, q2, q3⟩ := E.own i d h1
    rw [h2] at q1; cases q1
    obtain ⟨o, ho⟩ := q3.there
    have e : gall G H σ Γ p = some (.ho o) := by rw [gall_at z, ho]; rfl
    have := s.le p _ e
    rw [h] at this
    cases this
    exact q3.nott ho
mutual
theorem Rep.less (E : Loc K G H σ Γ) {G1 : Gh} {H1 : Hp} (s : Step0 (gall G H σ Γ) H G1 H1) : ∀ {d : D} {v : V}, Rep K G1 d v → flatT d = true → Rep K (gless σ Γ G1) d v
  | _, _, .non, _ => .non
  | _, _, .bl, _ => .bl
  | _, _, .int, _ => .int
  | _, _, .str, _ => .str
  | _, _, .ty, _ => .ty
  | _, _, .ref, _ => .ref
  | _, _, .tup h r, f => .tup (E.notup s h) (Reps.less E s r (by unfold flatT at f; exact f))
  | _, _, .lst _ _, f => by unfold flatT at f; cases f
  | _, _, .dK _ _, f => by unfold flatT at f; cases f
  | _, _, .dT _ _, f => by unfold flatT at f; cases f
  | _, _, .ins _ _, f => by unfold flatT at f; cases f
  | _, _, .memo _, f => by unfold flatT at f; cases f
  | _, _, .scr _, f => by unfold flatT at f; cases f
  | _, _, .exn _ _, f => by unfold flatT at f; cases f
  | _, _, .adr _, f => by unfold flatT at f; cases f
theorem Reps.less (E : Loc K G H σ Γ) {G1 : Gh} {H1 : Hp} (s : Step0 (gall G H σ Γ) H G1 H1) : ∀ {d : List D} {v : List V}, Reps K G1 d v → flatTs d = true → Reps K (gless σ Γ G1) d v
  | _, _, .nil, _ => .nil
  | _, _, .cons h r, f => by
    unfold flatTs at f
    rw [Bool.and_eq_true] at f
    exact .cons (Rep.less E s h f.1) (Reps.less E s r f.2)
end
end
section
variable {X : Cx} {ex : Exn → Prop} {e : Expr} {Γ : En} {pos p : Pos} {R : Bool → D → Prop}
/-- the result: flat, or tuples of such; own things may be read -/
theorem ed_flatT (h : ED X ex e (frz Γ) fun _ d => flatT d = true ∧ R false d) : ED X ex e Γ R := by
  intro σ G H E W tk xa Q k
  refine h σ _ H E.all W tk (xa.all E) Q fun o d v G' H' hR s r => ?_
  obtain ⟨G2, s2, r2, _⟩ := r.known s
  exact k false d v _ H' hR.2 (E.less s2) (r2.less E s2 hR.1)
/-- a new list of such -/
theorem ed_flatTL (h : ED X ex e (frz Γ) fun o d => o = true ∧ ∃ xs, d = .lst xs ∧ flatTs xs = true ∧ R true d) : ED X ex e Γ R := by
  intro σ G H E W tk xa Q k
  refine h σ _ H E.all W tk (xa.all E) Q fun o d v G' H' hR s r => ?_
  obtain ⟨rfl, xs, rfl, hf, hR⟩ := hR
  obtain ⟨p, rfl, hn, n, w⟩ := r
  refine k true (.lst xs) _ _ H' hR (E.less s) ⟨p, rfl, hn, ?_, ?_⟩
  · unfold gless
    split
    · rfl
    · exact n
  · cases w with
    | lst h r => exact .lst h (r.less E s hf)
/-- xs[::-1] -/
theorem ed_revL {k : Nat} {p1 p2 p3 : Pos} (h : ED X ex e Γ fun _ d => ∃ xs, d = .lst xs ∧ R true (.lst xs.reverse)) : ED X ex (.Subscript e (.Slice none none (some (.UnaryOp .USub (.Constant (.int 1) k p1) p2)) p3) pos) Γ R := by
  intro σ G H E W tk xa Q k'
  refine tW_of (pe_revL (te := tW X e) pe_W) ?_
  refine ED.use (R := fun _ d => ∃ xs, d = .lst xs ∧ R true (.lst xs.reverse)) (h.imp fun _ _ h => h) E tk xa fun d v G1 H1 h1 s1 r1 => ?_
  obtain ⟨xs, rfl, hR⟩ := h1
  cases r1 with
  | lst hp r =>
    refine ⟨_, _, rfl, SqL.of (s1.ext _ _ hp), newL s1.ext r.reverse hR fun o d v G' H' hR s r => k' o d v G' H' hR (s1.trans s) (r.back s1)⟩
/-- a sign, written, in a text -/
theorem in_sc {i z : Str} {c : Nat} {R : Bool → Prop} (hi : i = ⟨#[c]⟩) (h : R (decide (c ∈ z.cps.toList))) : CmpR X .In (.str i) (.str z) R := by subst hi; exact in_ss h
theorem nin_sc {i z : Str} {c : Nat} {R : Bool → Prop} (hi : i = ⟨#[c]⟩) (h : R (!decide (c ∈ z.cps.toList))) : CmpR X .NotIn (.str i) (.str z) R := by subst hi; exact nin_ss h
theorem atI_last {α : Type} {xs : List α} (h : xs ≠ []) : ∃ x, x ∈ xs ∧ L2.atI xs (-1) = some x := by
  have hl : 0 < xs.length := List.length_pos_iff.mpr h
  have e : ixN xs.length (-1) = some (xs.length - 1) := by
    unfold ixN
    rw [if_neg (by decide), if_pos (by omega)]
    congr 1; omega
  have hlt : xs.length - 1 < xs.length := by omega
  refine ⟨xs[xs.length - 1], List.getElem_mem hlt, ?_⟩
  unfold L2.atI
  rw [e]
  show xs[xs.length - 1]? = _
  rw [List.getElem?_eq_getElem hlt]
theorem atI_mem {α : Type} {xs : List α} {i : Int} {x : α} (h : L2.atI xs i = some x) : x ∈ xs := by
  unfold L2.atI at h
  obtain ⟨j, _, e⟩ := Option.bind_eq_some_iff.mp h
  exact List.mem_of_getElem? e
theorem eqD_refl {d : D} (h : eqOk d = true) : eqD d d = true := by
  unfold eqOk at h
  rw [Bool.and_eq_true] at h
  have h2 := h.2
  unfold SeqAt.shaped at h2
  rw [Bool.and_eq_true] at h2
  unfold eqD
  exact PySem.SeqAt.eqv_refl _ h2.1
/-! ### the number of unlike texts -/
theorem fold_stepS : ∀ (l acc : List Str), (l.foldl stepS acc).length ≤ acc.length + l.length ∧ ((l.foldl stepS acc).length = acc.length + l.length ↔ l.Nodup ∧ ∀ x ∈ l, x ∉ acc)
  | [], acc => by simp
  | a :: r, acc => by
    rw [List.foldl_cons, List.length_cons]
    obtain ⟨h1, h2⟩ := fold_stepS r (stepS acc a)
    by_cases m : a ∈ acc
    · have hs : stepS acc a = acc := by unfold stepS; rw [if_pos (by simpa using m)]
      rw [hs] at h1 h2 ⊢
      exact ⟨by omega, fun h => by omega, fun h => absurd m (h.2 a List.mem_cons_self)⟩
    · have hs : stepS acc a = acc ++ [a] := by unfold stepS; rw [if_neg (by simpa using m)]
      rw [hs] at h1 h2 ⊢
      rw [List.length_append, List.length_cons, List.length_nil] at h1 h2
      refine ⟨by omega, fun h => ?_, fun h => ?_⟩
      · obtain ⟨n1, n2⟩ := h2.mp (by omega)
        refine ⟨List.nodup_cons.mpr ⟨fun hm => n2 a hm (by simp), n1⟩, fun x hx => ?_⟩
        rcases List.mem_cons.mp hx with e | e
        · rw [e]; exact m
        · exact fun z => n2 x e (List.mem_append_left _ z)
      · obtain ⟨n1, n2⟩ := h
        obtain ⟨n3, n4⟩ := List.nodup_cons.mp n1
        have := h2.mpr ⟨n4, fun x hx z => by
          rcases List.mem_append.mp z with e | e
          · exact n2 x (List.mem_cons_of_mem _ hx) e
          · rw [List.mem_singleton.mp e] at hx; exact n3 hx⟩
        omega
theorem metS_all (xs : List Str) : (metS xs xs.length).length = xs.length ↔ xs.Nodup := by
  have := (fold_stepS xs []).2
  unfold metS
  rw [List.take_length]
  have e0 : ([] : List Str).length + xs.length = xs.length := by rw [List.length_nil, Nat.zero_add]
  rw [e0] at this
  rw [this]
  exact ⟨fun h => h.1, fun h => ⟨h, fun _ _ => List.not_mem_nil⟩⟩
end

/-! ### shapes that == serves -/
def okN (n : Nat) (d : D) : Prop := isPy d = true ∧ (toPy d).canLay0 = true ∧ (toPy d).depth ≤ n
theorem okN.eq {n : Nat} {d : D} (h : okN n d) (hn : n ≤ 64) : eqOk d = true := by
  unfold eqOk SeqAt.shaped
  rw [h.1, h.2.1, decide_eq_true (Nat.le_trans h.2.2 hn)]; rfl
theorem okN.non (n : Nat) : okN n .non := ⟨by simp [isPy], by simp [toPy, PyData.canLay0], by simp [toPy, PyData.depth]⟩
theorem okN.int (n : Nat) (i : Int) : okN n (.int i) := ⟨by simp [isPy], by simp [toPy, PyData.canLay0], by simp [toPy, PyData.depth]⟩
theorem okN.bl (n : Nat) (i : Bool) : okN n (.bl i) := ⟨by simp [isPy], by simp [toPy, PyData.canLay0], by simp [toPy, PyData.depth]⟩
theorem okN.str (n : Nat) {z : Str} (h : PyData.strOk z = true) : okN n (.str z) := ⟨by simp [isPy], by simp only [toPy, PyData.canLay0]; exact h, by simp [toPy, PyData.depth]⟩
theorem okN.all {n : Nat} : ∀ {xs : List D}, (∀ x ∈ xs, okN n x) → isPys xs = true ∧ PyData.canLayAll0 (toPys xs) = true ∧ PyData.depthAll (toPys xs) ≤ n
  | [], _ => ⟨by simp [isPys], by simp [toPys, PyData.canLayAll0], by simp [toPys, PyData.depthAll]⟩
  | x :: xs, h => by
    obtain ⟨a, b, c⟩ := h x List.mem_cons_self
    obtain ⟨a', b', c'⟩ := okN.all fun y hy => h y (List.mem_cons_of_mem _ hy)
    refine ⟨?_, ?_, ?_⟩
    · unfold isPys; rw [a, a']; rfl
    · unfold toPys PyData.canLayAll0; rw [b, b']; rfl
    · unfold toPys PyData.depthAll; exact Nat.max_le.mpr ⟨c, c'⟩
theorem okN.tup {n : Nat} {xs : List D} (h : ∀ x ∈ xs, okN n x) : okN (n + 1) (.tup xs) := by
  obtain ⟨a, b, c⟩ := okN.all h
  exact ⟨by simp only [isPy]; exact a, by simp only [toPy, PyData.canLay0]; exact b, by simp only [toPy, PyData.depth]; exact Nat.succ_le_succ c⟩
theorem okN.lst {n : Nat} {xs : List D} (h : ∀ x ∈ xs, okN n x) : okN (n + 1) (.lst xs) := by
  obtain ⟨a, b, c⟩ := okN.all h
  exact ⟨by simp only [isPy]; exact a, by simp only [toPy, PyData.canLay0]; exact b, by simp only [toPy, PyData.depth]; exact Nat.succ_le_succ c⟩
theorem okN.more {n m : Nat} {d : D} (h : okN n d) (hn : n ≤ m) : okN m d := ⟨h.1, h.2.1, Nat.le_trans h.2.2 hn⟩
theorem Emb.okN {α : Type} {f : α → D} {n : Nat} {P : α → Prop} (E : Emb f n P) {a : α} (h : P a) : DL.okN n (f a) := ⟨E.py a, E.lay a h, E.dep a⟩
/-- range(0, m, 2) -/
theorem rg_two {m : Int} (h0 : 0 ≤ m) (h1 : m < 2 ^ 62) : RgC 0 m 2 ((m + 1) / 2).toNat := by
  have e : Builtin.Range.rangeSize 0 m 2 = (((m + 1) / 2).toNat : Nat) := by
    unfold Builtin.Range.rangeSize
    rw [if_pos (by decide)]
    split <;> omega
  refine ⟨by decide, by decide, ?_, e⟩
  unfold Builtin.Range.small
  rw [e]
  simp only [Builtin.Range.rangeFitsLong, Bool.and_eq_true, Bool.or_eq_true, decide_eq_true_eq, beq_iff_eq, show (2 : Int) > 0 by decide, if_true]
  omega
/-- the slots told anew -/
theorem wd_n {X : Cx} {ex : EX} {Γ Γ' : En} {P : Po} {st : List Stmt} (e : Γ = Γ') (h : WD X ex st Γ' P) : WD X ex st Γ P := e ▸ h
end DL

/-! DL23: tuple(list); is of truths; text times a number. -/
namespace DL
open PySem L2
section
variable {X : Cx} {ex : Exn → Prop} {e : Expr} {Γ : En} {pos p : Pos} {R : Bool → D → Prop}
/-- tuple(list) -/
theorem tuple_ {a : Expr} (hm : X.mg "tuple" = none) (h : ED X ex a Γ fun _ d => ∃ xs, d = .lst xs ∧ R false (.tup xs)) (hg : Gl X "tuple" := by rfl)
    (h1 : starEach (a :: []) X.env = (false, eval a X.env) :: starEach [] X.env := by rfl) (hpl : (backTo pos (starEach [] X.env)).any (·.1) = false := by rfl) : ED X ex (.Call (.Name "tuple" p) [a] [] pos) Γ R := by
  refine ed_ct call_tuple_of hm (by decide +kernel) hg (ea_cons (h.imp fun _ d hd => ea_nil fun vs G H E r Q k => ?_) h1) (by decide) (by decide) h1 hpl
  obtain ⟨xs, rfl, hR⟩ := hd
  obtain ⟨v, rfl, rr⟩ := rep1 r
  cases rr with
  | lst hp q => exact ⟨_, _, rfl, .inl ⟨SqL.of (E _ _ hp), newT E q hR k⟩⟩
theorem is_bb {i j : Bool} {R : Bool → Prop} (h : R (decide (i = j))) : CmpR X .Is (.bl i) (.bl j) R := .of op_isBl fun G H x y E r1 r2 Q k => by
  cases r1; cases r2
  exact ⟨i, j, rfl, rfl, k _ G H h (.refl E)⟩
theorem isnot_bb {i j : Bool} {R : Bool → Prop} (h : R (!decide (i = j))) : CmpR X .IsNot (.bl i) (.bl j) R := .of op_notBl fun G H x y E r1 r2 Q k => by
  cases r1; cases r2
  exact ⟨i, j, rfl, rfl, k _ G H h (.refl E)⟩
theorem mulOk_small {x : Str} {n : Int} (h0 : 0 ≤ n) (h1 : n ≤ 1000) (h : x.length ≤ 1000) : MulOk x n := by
  refine ⟨?_, fun _ _ => ?_, fun _ _ => ?_⟩
  · rw [decide_eq_false (by omega), decide_eq_false (by omega)]; rfl
  · intro hh
    by_cases hn : n = 0
    · subst hn; omega
    · have : (1000 : Int) ≤ (2 ^ 63 - 1) / n := by
        have h2 : (1000 : Int) ≤ (2 ^ 63 - 1) / 1000 := by decide
        have h3 : ((2 : Int) ^ 63 - 1) / 1000 ≤ (2 ^ 63 - 1) / n := by
          have hp : 0 < n := by omega
          rw [Int.le_ediv_iff_mul_le hp]
          have := Int.ediv_mul_le ((2 : Int) ^ 63 - 1) (show (1000 : Int) ≠ 0 by decide)
          have : ((2 : Int) ^ 63 - 1) / 1000 * n ≤ (2 ^ 63 - 1) / 1000 * 1000 := Int.mul_le_mul_of_nonneg_left h1 (by decide)
          omega
        omega
      omega
  · have : x.length * n.toNat ≤ 1000 * 1000 := Nat.mul_le_mul h (by omega)
    unfold Builtin.Str.tooLong
    exact decide_eq_false (Nat.not_lt.mpr (Nat.le_trans this (by decide)))
theorem mul_sub {x : Str} {n : Int} {c : Nat} (h : c ∈ (Txt.mul x n).cps.toList) : c ∈ x.cps.toList := by
  unfold Txt.mul at h
  split at h
  · cases h
  · split at h
    · exact h
    · have key : ∀ (m : Nat) (acc : Array Nat), c ∈ ((List.replicate m x.cps).foldl (· ++ ·) acc).toList → c ∈ acc.toList ∨ c ∈ x.cps.toList := by
        intro m
        induction m with
        | zero => intro acc h; exact .inl h
        | succ m ih =>
          intro acc h
          rw [List.replicate_succ, List.foldl_cons] at h
          rcases ih _ h with h | h
          · rw [Array.toList_append] at h
            exact List.mem_append.mp h
          · exact .inr h
      rcases key _ _ h with h | h
      · cases h
      · exact h
theorem mul_len {x : Str} {n : Int} (h0 : 0 ≤ n) : (Txt.mul x n).length ≤ x.length * n.toNat := PyProof.Rows.len_mul_leN (Nat.le_refl _) (by omega)
theorem eqD_nil (xs : List D) : eqD (.lst xs) (.lst []) = xs.isEmpty := by
  cases xs with
  | nil => simp [eqD, toPy, toPys, PyData.eqv, PyData.eqvAll]
  | cons x r => simp [eqD, toPy, toPys, PyData.eqv, PyData.eqvAll]
theorem ixN_last {n : Nat} (h : 0 < n) : ixN n (-1) = some (n - 1) := by
  unfold ixN
  rw [if_neg (by decide), if_pos (by omega)]
  congr 1; omega
end
/-- a statement whose ways meet -/
theorem wd_seq {X : Cx} {ex : EX} {Γ : En} {P : Po} {st : Stmt} {rest : List Stmt} (J : En → Prop) (h : W1 X ex st Γ { P with nx := J }) (k : ∀ Γ', J Γ' → WD X ex rest Γ' P) : WD X ex (st :: rest) Γ P :=
  wd_cons fun F σ G H E W xk Dn lk => h F σ G H E W xk Dn ⟨fun G' H' σ' Γ' h' => lk.nx G' H' σ' Γ' (k Γ' h'), lk.rt, lk.bk, lk.ct, lk.nb⟩
end DL

/-! DL24: list(range(n)); comprehensions over ints. -/
namespace DL
open PySem L2
section
variable {X : Cx} {ex : Exn → Prop} {e : Expr} {Γ : En} {pos p p2 pos2 : Pos} {R : Bool → D → Prop}
theorem reps_rg {K : PySem.W.Frag} {G : Gh} (n : Int) : Reps K G (rangeD 0 n.toNat) (rgV 0 n) := by
  have e1 : rangeD 0 n.toNat = ((List.range n.toNat).map fun i : Nat => (0 : Int) + (i : Nat)).map D.int := by unfold rangeD; rw [List.map_map]; rfl
  have e2 : rgV 0 n = ((List.range n.toNat).map fun i : Nat => (0 : Int) + (i : Nat)).map V.int := by unfold rgV; rw [List.map_map, Int.sub_zero]; rfl
  rw [e1, e2]
  exact Reps.ofInts _
/-- list(range(n)) -/
theorem listRg {a : Expr} (hm : X.mg "list" = none) (hm2 : X.mg "range" = none) (h : ED X ex a Γ fun _ d => ∃ n : Int, d = .int n ∧ 0 ≤ n ∧ n ≤ 16777216 ∧ R true (.lst (rangeD 0 n.toNat))) (hc : X.calm = true := by rfl) (hg : Gl X "list" := by rfl) (hg2 : Gl X "range" := by rfl)
    (na : starEach [a] X.env = (false, eval a X.env) :: starEach [] X.env := by rfl)
    (nb : starEach [.Call (.Name "range" p2) [a] [] pos2] X.env = (false, eval (.Call (.Name "range" p2) [a] [] pos2) X.env) :: starEach [] X.env := by rfl) : ED X ex (.Call (.Name "list" p) [.Call (.Name "range" p2) [a] [] pos2] [] pos) Γ R := by
  intro σ G H E W tk xa Q k
  refine tW_of (pe_listRg hc hg hm (prg_1 hg2 hm2 (pe_W (e := a)) na) nb) ?_
  refine ED.use (R := fun _ d => ∃ n : Int, d = .int n ∧ 0 ≤ n ∧ n ≤ 16777216 ∧ R true (.lst (rangeD 0 n.toNat))) h E tk xa fun d v G1 H1 h1 s1 r1 => ?_
  obtain ⟨n, rfl, n0, n1, hR⟩ := h1
  cases r1
  exact ⟨n, rfl, RgOk.of_le (by decide) n1 (by decide) n0, newL s1.ext (reps_rg n) hR fun o d v G' H' hR s r => k o d v G' H' hR (s1.trans s) (r.back s1)⟩
end
/-- range(a, m, 3) -/
theorem rg_three {a m : Int} (ha : 0 ≤ a) (h0 : a ≤ m) (h1 : m < 2 ^ 62) : RgC a m 3 ((m - a + 2) / 3).toNat := by
  have e : Builtin.Range.rangeSize a m 3 = (((m - a + 2) / 3).toNat : Nat) := by
    unfold Builtin.Range.rangeSize
    rw [if_pos (by decide)]
    split <;> omega
  refine ⟨by decide, by decide, ?_, e⟩
  unfold Builtin.Range.small
  rw [e]
  simp only [Builtin.Range.rangeFitsLong, Bool.and_eq_true, Bool.or_eq_true, decide_eq_true_eq, beq_iff_eq, show (3 : Int) > 0 by decide, if_true]
  omega
end DL

/-! DL25: a walk over an own list. -/
namespace DL
open PySem L2
section
variable {K : PySem.W.Frag} {F : Fm} {G : Gh} {H : Hp} {σ : St} {Γ : En}
/-- an own slot's data told otherwise -/
theorem EnvOk.retell {r : Nat} {d d' : D} {p : Addr} (E : EnvOk K F G H σ Γ) (h : Γ[r]? = some (some (true, d))) (hp : σ[r]? = some (some (.ref p))) (w : OwnAt K G H p d') : EnvOk K F G H σ (Γ.set r (some (true, d'))) := by
  obtain ⟨p', h1, h2, h3⟩ := E.loc.own r d h
  rw [hp] at h1; cases h1
  refine ⟨E.loc.promote hp h2 w fun j e hj g3 g4 => E.loc.dis j r e d p hj g3 h g4 hp, E.step, fun j e b g3 g4 => ?_⟩
  rcases set_get g3 with ⟨rfl, _⟩ | ⟨_, g3⟩
  · exact E.lent j _ b h g4
  · exact E.lent j e b g3 g4
end
section
variable {X : Cx} {ex : EX} {Γ : En} {P : Po} {pos p0 : Pos}
/-- for tg in x: body, x an own list that the body leaves as it is -/
theorem w_forO (r : Nat) {x : Str} {xs : List D} {tg : Expr} {body : List Stmt} (hc : X.calm = true) (hN : X.N[r]? = some x) (hv : Vis X.env.scope x) (hΓ : Γ[r]? = some (some (true, .lst xs)))
    (h : ∀ p, ∃ I : Nat → En → Prop, I 0 (Γ.set r (some (true, .adr p (.lst xs)))) ∧ (∀ i Γ', I i Γ' → Γ'[r]? = some (some (true, .adr p (.lst xs)))) ∧ (∀ i d Γ', xs[i]? = some d → I i Γ' → TD X tg d Γ' fun Γ'' => WD X ex body Γ'' { P with nx := I (i + 1), ct := I (i + 1), bk := fun _ => False }) ∧ ∀ Γ', I xs.length Γ' → P.nx (Γ'.set r (some (true, .lst xs))))
    (hs : ∀ x', foldedSetIterable (.Name x p0) X.env x' = pure x' := by intro _; rfl) (hd : (x == ("__debug__" : Str)) = false := by decide) (hcd : (x == ("__classdict__" : Str)) = false := by decide) : W1 X ex (.For tg (.Name x p0) body [] pos) Γ P := by
  intro F σ G H E W xk Dn lk
  refine tW1_of (ps_for xk.po hc (pi_list (tl := _) (pe_var hN hv hd hcd)) (g := tWg X tg) (tb := tWs X body) pg_W pss_W hs) ?_
  obtain ⟨p, h1, h2, h3⟩ := E.loc.own r _ hΓ
  obtain ⟨I, h0, hI, hst, hend⟩ := h p
  have hp3 := h3
  cases h3 with
  | lst hp rr =>
    refine ⟨_, h1, p, rfl, ⟨_, SqL.of hp⟩, ?_⟩
    have E0 := E.retell hΓ h1 (.adr (OwnAt.lst hp rr))
    refine ⟨fun i m σ' H' => m = xs.length - i ∧ i ≤ xs.length ∧ ∃ G' Γ', EnvOk X.K F G' H' σ' Γ' ∧ Le G G' ∧ I i Γ', ⟨xs.length, rfl, Nat.zero_le _, G, _, E0, Le.refl _, h0⟩, ?_⟩
    rintro i m σ' H' ⟨rfl, hi, G', Γ', E', le, hI'⟩
    have hr' := hI i Γ' hI'
    obtain ⟨q, k1, k2, k3⟩ := E'.loc.own r _ hr'
    cases k3 with
    | adr k3 =>
      have k3' := k3
      cases k3 with
      | lst hp' rr' =>
        rename_i vs'
        by_cases hlt : i < xs.length
        · refine .inr ⟨walk_list.goes i H' (by rw [← rr'.length]; exact hlt) (SqL.of hp'), fun σ2 H2 => ∃ G2 Γ2, EnvOk X.K F G2 H2 σ2 Γ2 ∧ Le G G2 ∧ I (i + 1) Γ2, fun σ2 H2 ⟨G2, Γ2, a, b, c⟩ => ⟨xs.length - (i + 1), by omega, rfl, hlt, G2, Γ2, a, b, c⟩, fun y H2 yl => ?_⟩
          obtain ⟨rfl, hx⟩ := walk_list.yields i H' y H2 (by rw [← rr'.length]; exact hlt) (SqL.of hp') yl
          obtain ⟨d, hdd, rd⟩ := rr'.getv hx
          refine hst i d Γ' hdd hI' F σ' G' _ E' y rd _ fun Γ3 σ3 G3 H3 h3 E3 s3 => ?_
          have le3 := le.trans s3.le
          exact h3 F σ3 G3 H3 E3 W (xk.go le3) _ ⟨fun G4 H4 σ4 Γ4 h4 E4 l4 => ⟨G4, Γ4, E4, le3.trans l4, h4⟩, fun o d v G4 H4 σ4 Γ4 h4 E4 r4 l4 => lk.rt o d v G4 H4 σ4 Γ4 h4 E4 r4 (le3.trans l4),
            fun G4 H4 σ4 Γ4 h4 E4 l4 => h4.elim, fun G4 H4 σ4 Γ4 h4 E4 l4 => ⟨G4, Γ4, E4, le3.trans l4, h4⟩, lk.nb⟩
        · have ei : i = xs.length := by omega
          subst ei
          have st := walk_list.stops H' (SqL.of (K := X.K) hp')
          rw [← rr'.length] at st
          exact .inl ⟨st, lk.nx G' H' σ' _ (hend Γ' hI') (E'.retell hr' k1 k3') le⟩
end
end DL

/-! DL26: x.extend(xs), `in` for data of any depth. -/
namespace DL
open PySem L2
section
variable {X : Cx} {ex : EX} {Γ : En} {P : Po} {pos p apos : Pos}
/-- x.extend(e), x an own list -/
theorem w_ext {x : Str} {i : Nat} {xs : List D} {e : Expr} (hN : X.N[i]? = some x) (hv : Vis X.env.scope x) (hΓ : Γ[i]? = some (some (true, .lst xs)))
    (h : ED X (fun x => ex x Γ) e Γ fun _ d => ∃ zs, d = .lst zs ∧ xs.length + zs.length ≤ sizeLine ∧ P.nx (Γ.set i (some (true, .lst (xs ++ zs)))))
    (hs : swapsWith (.Call (.Attribute (.Name x p) "extend" apos) [e] [] pos) none pos.line X.env = pure false := by rfl)
    (hbase : attributeBase (.Name x p) "extend" X.env (eval (.Name x p) X.env) = eval (.Name x p) X.env := by rfl)
    (hfew : ((backTo pos (starEach [e] X.env)).all (fun x => !x.1) && (backToKw pos (keywordEach [] X.env)).all (fun x => x.1.isSome)
      && decide (([e] : List Expr).length + ([] : List Keyword).length + (if ([] : List Keyword).isEmpty then 0 else 1) < 30)) = true := by rfl)
    (hline : (apos.endLine == pos.line) = true := by rfl) (hs1 : starEach (e :: []) X.env = (false, eval e X.env) :: starEach [] X.env := by rfl) (hpl : (backTo pos (starEach [] X.env)).any (·.1) = false := by rfl)
    (hd : (x == ("__debug__" : Str)) = false := by decide) (hcd : (x == ("__classdict__" : Str)) = false := by decide) : W1 X ex (.Expr (.Call (.Attribute (.Name x p) "extend" apos) [e] [] pos) pos) Γ P := by
  intro F σ G H E W xk Dn lk
  refine tW1_of (ps_expr (pe_bm PySem.F.plainAttrs_list PySem.F.slot_list_extend PySem.F.type_list_extend mt_extend (pe_var hN hv hd hcd) (pa_cons (te := tW X e) (t := tWa X []) pe_W pa_W hs1) hbase hfew hline hs1 hpl) hs) ?_
  obtain ⟨q, h1, h2, h3⟩ := E.loc.own i _ hΓ
  cases h3 with
  | lst hp r =>
    refine ⟨_, h1, ty_list hp, ?_⟩
    refine ED.use (R := fun _ d => ∃ zs, d = .lst zs ∧ xs.length + zs.length ≤ sizeLine ∧ P.nx (Γ.set i (some (true, .lst (xs ++ zs))))) (h.imp fun _ _ h => h) E.loc xk.te (xk.lk.at E) fun d v G1 H1 hR s1 r1 => ?_
    obtain ⟨zs, rfl, hR1, hR2⟩ := hR
    refine (ea_nil (ex := fun _ => False) (R := fun ds => ds = []) rfl) σ G1 H1 (E.loc.go s1) (fun _ _ _ _ => False) (.of takes0) (fun _ _ _ _ _ hx => hx.elim) _ fun ds vs G2 H2 e2 s2 r2 => ?_
    subst e2
    cases r2
    have E2 := (E.go s1).go s2
    have hp2 := s2.kept q _ (s1.kept q _ hp h2 id) (s1.gfree hp h2) id
    have r1 := r1.mono s2.le
    cases r1 with
    | lst hb rz =>
      refine ⟨q, _, _, _, rfl, rfl, hp2, E2.loc.ext _ _ hb, by rw [← r.length, ← rz.length]; exact hR1, ?_⟩
      refine lk.nx G2 _ σ _ hR2 (E2.write hΓ h1 (.lst upd_same ?_)) (s1.trans s2).le
      exact ((r.mono (s1.trans s2).le)).append rz
end
section
variable {X : Cx} {ex : Exn → Prop} {Γ : En} {R : Bool → D → Prop} {pos p : Pos}
theorem in_dd {d : D} {xs : List D} {R : Bool → Prop} (hu : X.A.units + 65 < cLine) (h1 : eqOk d = true) (h2 : eqOk (.lst xs) = true) (h : R ((toPys xs).any fun z => PyData.eqv z (toPy d))) : CmpR X .In d (.lst xs) R := .of (op_inD hu) fun G H x y E r1 r2 Q k => by
  unfold eqOk at h1 h2
  rw [Bool.and_eq_true] at h1 h2
  exact ⟨toPy d, toPys xs, r1.dp E h1.1, by have := r2.dp E h2.1; unfold toPy at this; exact this, h1.2, by have := h2.2; unfold toPy at this; exact this, k _ G H h (.refl E)⟩
theorem nin_dd {d : D} {xs : List D} {R : Bool → Prop} (hu : X.A.units + 65 < cLine) (h1 : eqOk d = true) (h2 : eqOk (.lst xs) = true) (h : R (!(toPys xs).any fun z => PyData.eqv z (toPy d))) : CmpR X .NotIn d (.lst xs) R := .of (op_notInD hu) fun G H x y E r1 r2 Q k => by
  unfold eqOk at h1 h2
  rw [Bool.and_eq_true] at h1 h2
  exact ⟨toPy d, toPys xs, r1.dp E h1.1, by have := r2.dp E h2.1; unfold toPy at this; exact this, h1.2, by have := h2.2; unfold toPy at this; exact this, k _ G H h (.refl E)⟩
theorem any_toPys {xs : List D} {f : PyData → Bool} : (toPys xs).any f = xs.any fun d => f (toPy d) := by
  induction xs with
  | nil => unfold toPys; rfl
  | cons x xs ih => unfold toPys; rw [List.any_cons, List.any_cons, ih]
end
end DL

namespace Lw
open PySem L2 DL
def top (i : Nat) : Stmt := PySem.Challenge.pw_joinranks_k82_the_fewest_counted.main.body.getD i (.Pass ⟨0, 0, 0, 0⟩)
abbrev s_wall : Stmt := top 0
abbrev sNoTable_init : Stmt := inClass (top 3) 0
abbrev sNoSign_init : Stmt := inClass (top 4) 0
abbrev sNoNumber_init : Stmt := inClass (top 5) 0
abbrev sis_whole : Stmt := top 7
abbrev slook_at_text : Stmt := top 9
abbrev sbegins : Stmt := top 11
abbrev sheights : Stmt := top 13
abbrev sfewest : Stmt := top 14
abbrev show_many_fewest : Stmt := top 15
abbrev sis_sign : Stmt := top 21
abbrev slook_at_signs : Stmt := top 22
abbrev sis_row : Stmt := top 23
abbrev sTable_init : Stmt := inClass (top 24) 0
abbrev sTable_signs : Stmt := inClass (top 24) 1
abbrev sTable_rows : Stmt := inClass (top 24) 2
abbrev sTable_pieces : Stmt := inClass (top 24) 3
abbrev sTable_which : Stmt := inClass (top 24) 4
abbrev sTable_piece : Stmt := inClass (top 24) 5
abbrev sTable_parts : Stmt := inClass (top 24) 6
abbrev sTable_rank : Stmt := inClass (top 24) 7
abbrev sTable_longest : Stmt := inClass (top 24) 8
abbrev s_law_cell_at : Stmt := top 26
abbrev s_law_numbers : Stmt := top 27
abbrev s_law_signs : Stmt := top 28
abbrev s_law_rows : Stmt := top 29
abbrev s_law_table : Stmt := top 30
abbrev s_law_text : Stmt := top 31
abbrev s_law_pieces_at : Stmt := top 32
abbrev s_law_all : Stmt := top 33
abbrev s_law_counted : Stmt := top 34
abbrev s_law_refused : Stmt := top 35
abbrev slaw : Stmt := top 36
abbrev N_wall : List Str := ["k"]
theorem sc_wall : FnScope N_wall ["k"] (defScope s_wall) := ⟨rfl, rfl, rfl, by decide +kernel, rfl, by decide +kernel, by decide +kernel⟩
theorem e0_wall (d0 : D) : env0 N_wall [d0] = [some (false, d0)] := rfl
abbrev NNoTable_init : List Str := ["self", "part", "number"]
theorem scNoTable_init : FnScope NNoTable_init ["self", "part", "number"] (defScope sNoTable_init) := ⟨rfl, rfl, rfl, by decide +kernel, rfl, by decide +kernel, by decide +kernel⟩
theorem e0NoTable_init (d0 d1 d2 : D) : env0 NNoTable_init [d0, d1, d2] = [some (false, d0), some (false, d1), some (false, d2)] := rfl
abbrev NNoSign_init : List Str := ["self", "place"]
theorem scNoSign_init : FnScope NNoSign_init ["self", "place"] (defScope sNoSign_init) := ⟨rfl, rfl, rfl, by decide +kernel, rfl, by decide +kernel, by decide +kernel⟩
theorem e0NoSign_init (d0 d1 : D) : env0 NNoSign_init [d0, d1] = [some (false, d0), some (false, d1)] := rfl
abbrev NNoNumber_init : List Str := ["self", "place"]
theorem scNoNumber_init : FnScope NNoNumber_init ["self", "place"] (defScope sNoNumber_init) := ⟨rfl, rfl, rfl, by decide +kernel, rfl, by decide +kernel, by decide +kernel⟩
theorem e0NoNumber_init (d0 d1 : D) : env0 NNoNumber_init [d0, d1] = [some (false, d0), some (false, d1)] := rfl
abbrev Nis_whole : List Str := ["thing"]
theorem scis_whole : FnScope Nis_whole ["thing"] (defScope sis_whole) := ⟨rfl, rfl, rfl, by decide +kernel, rfl, by decide +kernel, by decide +kernel⟩
theorem e0is_whole (d0 : D) : env0 Nis_whole [d0] = [some (false, d0)] := rfl
abbrev Nlook_at_text : List Str := ["table", "text", "signs", "place", "sign"]
theorem sclook_at_text : FnScope Nlook_at_text ["table", "text"] (defScope slook_at_text) := ⟨rfl, rfl, rfl, by decide +kernel, rfl, by decide +kernel, by decide +kernel⟩
theorem e0look_at_text (d0 d1 : D) : env0 Nlook_at_text [d0, d1] = [some (false, d0), some (false, d1), none, none, none] := rfl
abbrev Nbegins : List Str := ["table", "text", "end", "found", "begin"]
theorem scbegins : FnScope Nbegins ["table", "text", "end"] (defScope sbegins) := ⟨rfl, rfl, rfl, by decide +kernel, rfl, by decide +kernel, by decide +kernel⟩
theorem e0begins (d0 d1 d2 : D) : env0 Nbegins [d0, d1, d2] = [some (false, d0), some (false, d1), some (false, d2), none, none] := rfl
abbrev Nheights : List Str := ["table", "text", "found", "end", "begin"]
theorem scheights : FnScope Nheights ["table", "text"] (defScope sheights) := ⟨rfl, rfl, rfl, by decide +kernel, rfl, by decide +kernel, by decide +kernel⟩
theorem e0heights (d0 d1 : D) : env0 Nheights [d0, d1] = [some (false, d0), some (false, d1), none, none, none] := rfl
abbrev Nfewest : List Str := ["table", "text", "levels", "row", "end", "begin"]
theorem scfewest : FnScope Nfewest ["table", "text"] (defScope sfewest) := ⟨rfl, rfl, rfl, by decide +kernel, rfl, by decide +kernel, by decide +kernel⟩
theorem e0fewest (d0 d1 : D) : env0 Nfewest [d0, d1] = [some (false, d0), some (false, d1), none, none, none, none] := rfl
abbrev Nhow_many_fewest : List Str := ["table", "text", "levels", "many", "end", "some", "begin"]
theorem schow_many_fewest : FnScope Nhow_many_fewest ["table", "text"] (defScope show_many_fewest) := ⟨rfl, rfl, rfl, by decide +kernel, rfl, by decide +kernel, by decide +kernel⟩
theorem e0how_many_fewest (d0 d1 : D) : env0 Nhow_many_fewest [d0, d1] = [some (false, d0), some (false, d1), none, none, none, none, none] := rfl
abbrev Nis_sign : List Str := ["thing"]
theorem scis_sign : FnScope Nis_sign ["thing"] (defScope sis_sign) := ⟨rfl, rfl, rfl, by decide +kernel, rfl, by decide +kernel, by decide +kernel⟩
theorem e0is_sign (d0 : D) : env0 Nis_sign [d0] = [some (false, d0)] := rfl
abbrev Nlook_at_signs : List Str := ["signs", "place", "sign"]
theorem sclook_at_signs : FnScope Nlook_at_signs ["signs"] (defScope slook_at_signs) := ⟨rfl, rfl, rfl, by decide +kernel, rfl, by decide +kernel, by decide +kernel⟩
theorem e0look_at_signs (d0 : D) : env0 Nlook_at_signs [d0] = [some (false, d0), none, none] := rfl
abbrev Nis_row : List Str := ["by_text", "thing", "left", "right"]
theorem scis_row : FnScope Nis_row ["by_text", "thing"] (defScope sis_row) := ⟨rfl, rfl, rfl, by decide +kernel, rfl, by decide +kernel, by decide +kernel⟩
theorem e0is_row (d0 d1 : D) : env0 Nis_row [d0, d1] = [some (false, d0), some (false, d1), none, none] := rfl
abbrev NTable_init : List Str := ["self", "signs", "rows", "number", "sign", "rank", "row", "'by_text", "'by_pair"]
theorem scTable_init : FnScope NTable_init ["self", "signs", "rows"] (defScope sTable_init) := ⟨rfl, rfl, rfl, by decide +kernel, rfl, by decide +kernel, by decide +kernel⟩
theorem e0Table_init (d0 d1 d2 : D) : env0 NTable_init [d0, d1, d2] = [some (false, d0), some (false, d1), some (false, d2), none, none, none, none, none, none] := rfl
abbrev NTable_signs : List Str := ["self"]
theorem scTable_signs : FnScope NTable_signs ["self"] (defScope sTable_signs) := ⟨rfl, rfl, rfl, by decide +kernel, rfl, by decide +kernel, by decide +kernel⟩
theorem e0Table_signs (d0 : D) : env0 NTable_signs [d0] = [some (false, d0)] := rfl
abbrev NTable_rows : List Str := ["self"]
theorem scTable_rows : FnScope NTable_rows ["self"] (defScope sTable_rows) := ⟨rfl, rfl, rfl, by decide +kernel, rfl, by decide +kernel, by decide +kernel⟩
theorem e0Table_rows (d0 : D) : env0 NTable_rows [d0] = [some (false, d0)] := rfl
abbrev NTable_pieces : List Str := ["self"]
theorem scTable_pieces : FnScope NTable_pieces ["self"] (defScope sTable_pieces) := ⟨rfl, rfl, rfl, by decide +kernel, rfl, by decide +kernel, by decide +kernel⟩
theorem e0Table_pieces (d0 : D) : env0 NTable_pieces [d0] = [some (false, d0)] := rfl
abbrev NTable_which : List Str := ["self", "thing"]
theorem scTable_which : FnScope NTable_which ["self", "thing"] (defScope sTable_which) := ⟨rfl, rfl, rfl, by decide +kernel, rfl, by decide +kernel, by decide +kernel⟩
theorem e0Table_which (d0 d1 : D) : env0 NTable_which [d0, d1] = [some (false, d0), some (false, d1)] := rfl
abbrev NTable_piece : List Str := ["self", "number"]
theorem scTable_piece : FnScope NTable_piece ["self", "number"] (defScope sTable_piece) := ⟨rfl, rfl, rfl, by decide +kernel, rfl, by decide +kernel, by decide +kernel⟩
theorem e0Table_piece (d0 d1 : D) : env0 NTable_piece [d0, d1] = [some (false, d0), some (false, d1)] := rfl
abbrev NTable_parts : List Str := ["self", "piece"]
theorem scTable_parts : FnScope NTable_parts ["self", "piece"] (defScope sTable_parts) := ⟨rfl, rfl, rfl, by decide +kernel, rfl, by decide +kernel, by decide +kernel⟩
theorem e0Table_parts (d0 d1 : D) : env0 NTable_parts [d0, d1] = [some (false, d0), some (false, d1)] := rfl
abbrev NTable_rank : List Str := ["self", "left", "right"]
theorem scTable_rank : FnScope NTable_rank ["self", "left", "right"] (defScope sTable_rank) := ⟨rfl, rfl, rfl, by decide +kernel, rfl, by decide +kernel, by decide +kernel⟩
theorem e0Table_rank (d0 d1 d2 : D) : env0 NTable_rank [d0, d1, d2] = [some (false, d0), some (false, d1), some (false, d2)] := rfl
abbrev NTable_longest : List Str := ["self", "piece"]
theorem scTable_longest : FnScope NTable_longest ["self"] (defScope sTable_longest) := ⟨rfl, rfl, rfl, by decide +kernel, rfl, by decide +kernel, by decide +kernel⟩
theorem e0Table_longest (d0 : D) : env0 NTable_longest [d0] = [some (false, d0), none] := rfl
abbrev N_law_cell_at : List Str := ["_law_script", "_law_k"]
theorem sc_law_cell_at : FnScope N_law_cell_at ["_law_script", "_law_k"] (defScope s_law_cell_at) := ⟨rfl, rfl, rfl, by decide +kernel, rfl, by decide +kernel, by decide +kernel⟩
theorem e0_law_cell_at (d0 d1 : D) : env0 N_law_cell_at [d0, d1] = [some (false, d0), some (false, d1)] := rfl
abbrev N_law_numbers : List Str := ["_law_cell", "_law_salt", "_law_sizes", "_law_number", "_law_left", "_law_found", "_law_k", "_law_one"]
theorem sc_law_numbers : FnScope N_law_numbers ["_law_cell", "_law_salt", "_law_sizes"] (defScope s_law_numbers) := ⟨rfl, rfl, rfl, by decide +kernel, rfl, by decide +kernel, by decide +kernel⟩
theorem e0_law_numbers (d0 d1 d2 : D) : env0 N_law_numbers [d0, d1, d2] = [some (false, d0), some (false, d1), some (false, d2), none, none, none, none, none] := rfl
abbrev N_law_signs : List Str := ["_law_digits", "_law_some", "_law_signs_here", "_law_digit", "_law_turned", "_law_sign"]
theorem sc_law_signs : FnScope N_law_signs ["_law_digits"] (defScope s_law_signs) := ⟨rfl, rfl, rfl, by decide +kernel, rfl, by decide +kernel, by decide +kernel⟩
theorem e0_law_signs (d0 : D) : env0 N_law_signs [d0] = [some (false, d0), none, none, none, none, none] := rfl
abbrev N_law_rows : List Str := ["_law_signs_here", "_law_digits", "_law_pieces", "_law_rows_here", "_law_k", "_law_one", "_law_other"]
theorem sc_law_rows : FnScope N_law_rows ["_law_signs_here", "_law_digits"] (defScope s_law_rows) := ⟨rfl, rfl, rfl, by decide +kernel, rfl, by decide +kernel, by decide +kernel⟩
theorem e0_law_rows (d0 d1 : D) : env0 N_law_rows [d0, d1] = [some (false, d0), some (false, d1), none, none, none, none, none] := rfl
abbrev N_law_table : List Str := ["_law_cell", "_law_salt", "_law_most", "_law_head", "_law_many", "_law_signs_here", "_law_rows_here"]
theorem sc_law_table : FnScope N_law_table ["_law_cell", "_law_salt", "_law_most"] (defScope s_law_table) := ⟨rfl, rfl, rfl, by decide +kernel, rfl, by decide +kernel, by decide +kernel⟩
theorem e0_law_table (d0 d1 d2 : D) : env0 N_law_table [d0, d1, d2] = [some (false, d0), some (false, d1), some (false, d2), none, none, none, none] := rfl
abbrev N_law_text : List Str := ["_law_cell", "_law_salt", "_law_signs_here", "_law_most", "_law_digits", "_law_digit"]
theorem sc_law_text : FnScope N_law_text ["_law_cell", "_law_salt", "_law_signs_here", "_law_most"] (defScope s_law_text) := ⟨rfl, rfl, rfl, by decide +kernel, rfl, by decide +kernel, by decide +kernel⟩
theorem e0_law_text (d0 d1 d2 d3 : D) : env0 N_law_text [d0, d1, d2, d3] = [some (false, d0), some (false, d1), some (false, d2), some (false, d3), none, none] := rfl
abbrev N_law_pieces_at : List Str := ["_law_pieces", "_law_text_here", "_law_place", "_law_piece"]
theorem sc_law_pieces_at : FnScope N_law_pieces_at ["_law_pieces", "_law_text_here", "_law_place"] (defScope s_law_pieces_at) := ⟨rfl, rfl, rfl, by decide +kernel, rfl, by decide +kernel, by decide +kernel⟩
theorem e0_law_pieces_at (d0 d1 d2 : D) : env0 N_law_pieces_at [d0, d1, d2] = [some (false, d0), some (false, d1), some (false, d2), none] := rfl
abbrev N_law_all : List Str := ["_law_pieces", "_law_text_here", "_law_done", "_law_found", "_law_k", "_law_longer", "_law_row", "_law_place", "_law_piece"]
theorem sc_law_all : FnScope N_law_all ["_law_pieces", "_law_text_here"] (defScope s_law_all) := ⟨rfl, rfl, rfl, by decide +kernel, rfl, by decide +kernel, by decide +kernel⟩
theorem e0_law_all (d0 d1 : D) : env0 N_law_all [d0, d1] = [some (false, d0), some (false, d1), none, none, none, none, none, none, none] := rfl
abbrev N_law_counted : List Str := ["_law_pieces", "_law_text_here", "_law_found", "_law_back", "_law_place", "_law_some", "_law_few", "_law_piece", "_law_one", "_law_many"]
theorem sc_law_counted : FnScope N_law_counted ["_law_pieces", "_law_text_here"] (defScope s_law_counted) := ⟨rfl, rfl, rfl, by decide +kernel, rfl, by decide +kernel, by decide +kernel⟩
theorem e0_law_counted (d0 d1 : D) : env0 N_law_counted [d0, d1] = [some (false, d0), some (false, d1), none, none, none, none, none, none, none, none] := rfl
abbrev N_law_refused : List Str := ["_law_table_here", "_law_thing", "_law_deed", "_law_place", "e"]
theorem sc_law_refused : FnScope N_law_refused ["_law_table_here", "_law_thing", "_law_deed"] (defScope s_law_refused) := ⟨rfl, rfl, rfl, by decide +kernel, rfl, by decide +kernel, by decide +kernel⟩
theorem e0_law_refused (d0 d1 d2 : D) : env0 N_law_refused [d0, d1, d2] = [some (false, d0), some (false, d1), some (false, d2), none, none] := rfl
abbrev Nlaw : List Str := ["_law_script", "_law_at", "_law_signs_here", "_law_rows_here", "_law_pieces", "_law_text_here", "_law_table_here", "_law_some", "_law_few", "_law_row", "_law_many", "_law_deed", "_law_thing", "_law_cell", "_law_left", "_law_right", "_law_one"]
theorem sclaw : FnScope Nlaw ["_law_script"] (defScope slaw) := ⟨rfl, rfl, rfl, by decide +kernel, rfl, by decide +kernel, by decide +kernel⟩
theorem e0law (d0 : D) : env0 Nlaw [d0] = [some (false, d0), none, none, none, none, none, none, none, none, none, none, none, none, none, none, none, none] := rfl
/-- what the top says -/
structure Txt (K : PySem.W.Frag) (mg : Str → Option Value) : Prop where
  g_wall : mg "_wall" = some (.ref (He.ga K "_wall"))
  gJoinError : mg "JoinError" = some (.ref (He.ga K "JoinError"))
  gNoTable : mg "NoTable" = some (.ref (He.ga K "NoTable"))
  gNoSign : mg "NoSign" = some (.ref (He.ga K "NoSign"))
  gNoNumber : mg "NoNumber" = some (.ref (He.ga K "NoNumber"))
  gis_whole : mg "is_whole" = some (.ref (He.ga K "is_whole"))
  glook_at_text : mg "look_at_text" = some (.ref (He.ga K "look_at_text"))
  gbegins : mg "begins" = some (.ref (He.ga K "begins"))
  gheights : mg "heights" = some (.ref (He.ga K "heights"))
  gfewest : mg "fewest" = some (.ref (He.ga K "fewest"))
  ghow_many_fewest : mg "how_many_fewest" = some (.ref (He.ga K "how_many_fewest"))
  gis_sign : mg "is_sign" = some (.ref (He.ga K "is_sign"))
  glook_at_signs : mg "look_at_signs" = some (.ref (He.ga K "look_at_signs"))
  gis_row : mg "is_row" = some (.ref (He.ga K "is_row"))
  gTable : mg "Table" = some (.ref (He.ga K "Table"))
  g_law_cell_at : mg "_law_cell_at" = some (.ref (He.ga K "_law_cell_at"))
  g_law_numbers : mg "_law_numbers" = some (.ref (He.ga K "_law_numbers"))
  g_law_signs : mg "_law_signs" = some (.ref (He.ga K "_law_signs"))
  g_law_rows : mg "_law_rows" = some (.ref (He.ga K "_law_rows"))
  g_law_table : mg "_law_table" = some (.ref (He.ga K "_law_table"))
  g_law_text : mg "_law_text" = some (.ref (He.ga K "_law_text"))
  g_law_pieces_at : mg "_law_pieces_at" = some (.ref (He.ga K "_law_pieces_at"))
  g_law_all : mg "_law_all" = some (.ref (He.ga K "_law_all"))
  g_law_counted : mg "_law_counted" = some (.ref (He.ga K "_law_counted"))
  g_law_refused : mg "_law_refused" = some (.ref (He.ga K "_law_refused"))
  glaw : mg "law" = some (.ref (He.ga K "law"))
  zisinstance : mg "isinstance" = none
  zint : mg "int" = none
  zbool : mg "bool" = none
  zenumerate : mg "enumerate" = none
  zstr : mg "str" = none
  zrange : mg "range" = none
  zmax : mg "max" = none
  zlen : mg "len" = none
  zmin : mg "min" = none
  zsum : mg "sum" = none
  ztuple : mg "tuple" = none
  zlist : mg "list" = none
  cSIGNS : ∃ t, mg "SIGNS" = some (.str " !\"#$&'()*+,-./0123456789:;<=>?@ABCDEFGHIJKLMNOPQRSTUVWXYZ[\\]^_`abcdefghijklmnopqrstuvwxyz{|}~" t)
  cMOST_SIGNS : ∃ t, mg "MOST_SIGNS" = some (.int 12 t)
  cMOST_LENGTH : ∃ t, mg "MOST_LENGTH" = some (.int 16 t)
  cMOST_ROWS : ∃ t, mg "MOST_ROWS" = some (.int 24 t)
  mNoTable : PySem.W.findIn K (.ref (He.ga K "NoTable")) "__init__" = some (some (.ref (He.ma K (He.ga K "NoTable") "__init__")))
  nNoTable_part : PySem.W.findIn K (.ref (He.ga K "NoTable")) "part" = some none
  nNoTable_number : PySem.W.findIn K (.ref (He.ga K "NoTable")) "number" = some none
  mNoSign : PySem.W.findIn K (.ref (He.ga K "NoSign")) "__init__" = some (some (.ref (He.ma K (He.ga K "NoSign") "__init__")))
  nNoSign_place : PySem.W.findIn K (.ref (He.ga K "NoSign")) "place" = some none
  mNoNumber : PySem.W.findIn K (.ref (He.ga K "NoNumber")) "__init__" = some (some (.ref (He.ma K (He.ga K "NoNumber") "__init__")))
  nNoNumber_place : PySem.W.findIn K (.ref (He.ga K "NoNumber")) "place" = some none
  kTable : Cls K (He.ga K "Table")
  mkTable : Mk K (He.ga K "Table") (He.ma K (He.ga K "Table") "__init__")
  mTable_signs : Meth K (He.ga K "Table") "signs" (He.ma K (He.ga K "Table") "signs")
  mTable_rows : Meth K (He.ga K "Table") "rows" (He.ma K (He.ga K "Table") "rows")
  mTable_pieces : Meth K (He.ga K "Table") "pieces" (He.ma K (He.ga K "Table") "pieces")
  mTable_which : Meth K (He.ga K "Table") "which" (He.ma K (He.ga K "Table") "which")
  mTable_piece : Meth K (He.ga K "Table") "piece" (He.ma K (He.ga K "Table") "piece")
  mTable_parts : Meth K (He.ga K "Table") "parts" (He.ma K (He.ga K "Table") "parts")
  mTable_rank : Meth K (He.ga K "Table") "rank" (He.ma K (He.ga K "Table") "rank")
  mTable_longest : Meth K (He.ga K "Table") "longest" (He.ma K (He.ga K "Table") "longest")
  nTable_kept_signs : NoAttr K (He.ga K "Table") "kept_signs"
  nTable_by_text : NoAttr K (He.ga K "Table") "by_text"
  nTable_by_pair : NoAttr K (He.ga K "Table") "by_pair"
  nTable_kept_rows : NoAttr K (He.ga K "Table") "kept_rows"
  nTable_kept_pieces : NoAttr K (He.ga K "Table") "kept_pieces"
  oJoinError : OexC K (He.ga K "JoinError")
  hJoinError_NoSign : PySem.W.exmOne K (.ref (He.ga K "JoinError")) (.ref (He.ga K "NoSign")) = some false
  oNoTable : OexC K (He.ga K "NoTable")
  wNoTable : PySem.W.typeIn K (.ref (He.ma K (He.ga K "NoTable") "__init__")) = some (.type "function")
  xNoTable : XfC K (He.ga K "NoTable")
  hNoTable_NoSign : PySem.W.exmOne K (.ref (He.ga K "NoTable")) (.ref (He.ga K "NoSign")) = some false
  oNoSign : OexC K (He.ga K "NoSign")
  wNoSign : PySem.W.typeIn K (.ref (He.ma K (He.ga K "NoSign") "__init__")) = some (.type "function")
  xNoSign : XfC K (He.ga K "NoSign")
  hNoSign_NoSign : PySem.W.exmOne K (.ref (He.ga K "NoSign")) (.ref (He.ga K "NoSign")) = some true
  oNoNumber : OexC K (He.ga K "NoNumber")
  wNoNumber : PySem.W.typeIn K (.ref (He.ma K (He.ga K "NoNumber") "__init__")) = some (.type "function")
  xNoNumber : XfC K (He.ga K "NoNumber")
  hNoNumber_NoSign : PySem.W.exmOne K (.ref (He.ga K "NoNumber")) (.ref (He.ga K "NoSign")) = some false
  jin : JIn K (He.ga K "JoinError")
  d_wall : ∃ fd, FunD K "_wall" "_wall" (defArgs s_wall) (defBody s_wall) (defScope s_wall) [] [] (He.fAd K ("_wall", none)) fd
  dNoTable_init : ∃ fd, FunD K "__init__" "NoTable.__init__" (defArgs sNoTable_init) (defBody sNoTable_init) (defScope sNoTable_init) [] [] (He.fAd K ("NoTable", some "__init__")) fd
  dNoSign_init : ∃ fd, FunD K "__init__" "NoSign.__init__" (defArgs sNoSign_init) (defBody sNoSign_init) (defScope sNoSign_init) [] [] (He.fAd K ("NoSign", some "__init__")) fd
  dNoNumber_init : ∃ fd, FunD K "__init__" "NoNumber.__init__" (defArgs sNoNumber_init) (defBody sNoNumber_init) (defScope sNoNumber_init) [] [] (He.fAd K ("NoNumber", some "__init__")) fd
  dis_whole : ∃ fd, FunD K "is_whole" "is_whole" (defArgs sis_whole) (defBody sis_whole) (defScope sis_whole) [] [] (He.fAd K ("is_whole", none)) fd
  dlook_at_text : ∃ fd, FunD K "look_at_text" "look_at_text" (defArgs slook_at_text) (defBody slook_at_text) (defScope slook_at_text) [] [] (He.fAd K ("look_at_text", none)) fd
  dbegins : ∃ fd, FunD K "begins" "begins" (defArgs sbegins) (defBody sbegins) (defScope sbegins) [] [] (He.fAd K ("begins", none)) fd
  dheights : ∃ fd, FunD K "heights" "heights" (defArgs sheights) (defBody sheights) (defScope sheights) [] [] (He.fAd K ("heights", none)) fd
  dfewest : ∃ fd, FunD K "fewest" "fewest" (defArgs sfewest) (defBody sfewest) (defScope sfewest) [] [] (He.fAd K ("fewest", none)) fd
  dhow_many_fewest : ∃ fd, FunD K "how_many_fewest" "how_many_fewest" (defArgs show_many_fewest) (defBody show_many_fewest) (defScope show_many_fewest) [] [] (He.fAd K ("how_many_fewest", none)) fd
  dis_sign : ∃ fd, FunD K "is_sign" "is_sign" (defArgs sis_sign) (defBody sis_sign) (defScope sis_sign) [] [] (He.fAd K ("is_sign", none)) fd
  dlook_at_signs : ∃ fd, FunD K "look_at_signs" "look_at_signs" (defArgs slook_at_signs) (defBody slook_at_signs) (defScope slook_at_signs) [] [] (He.fAd K ("look_at_signs", none)) fd
  dis_row : ∃ fd, FunD K "is_row" "is_row" (defArgs sis_row) (defBody sis_row) (defScope sis_row) [] [] (He.fAd K ("is_row", none)) fd
  dTable_init : ∃ fd, FunD K "__init__" "Table.__init__" (defArgs sTable_init) (defBody sTable_init) (defScope sTable_init) [] [] (He.fAd K ("Table", some "__init__")) fd
  dTable_signs : ∃ fd, FunD K "signs" "Table.signs" (defArgs sTable_signs) (defBody sTable_signs) (defScope sTable_signs) [] [] (He.fAd K ("Table", some "signs")) fd
  dTable_rows : ∃ fd, FunD K "rows" "Table.rows" (defArgs sTable_rows) (defBody sTable_rows) (defScope sTable_rows) [] [] (He.fAd K ("Table", some "rows")) fd
  dTable_pieces : ∃ fd, FunD K "pieces" "Table.pieces" (defArgs sTable_pieces) (defBody sTable_pieces) (defScope sTable_pieces) [] [] (He.fAd K ("Table", some "pieces")) fd
  dTable_which : ∃ fd, FunD K "which" "Table.which" (defArgs sTable_which) (defBody sTable_which) (defScope sTable_which) [] [] (He.fAd K ("Table", some "which")) fd
  dTable_piece : ∃ fd, FunD K "piece" "Table.piece" (defArgs sTable_piece) (defBody sTable_piece) (defScope sTable_piece) [] [] (He.fAd K ("Table", some "piece")) fd
  dTable_parts : ∃ fd, FunD K "parts" "Table.parts" (defArgs sTable_parts) (defBody sTable_parts) (defScope sTable_parts) [] [] (He.fAd K ("Table", some "parts")) fd
  dTable_rank : ∃ fd, FunD K "rank" "Table.rank" (defArgs sTable_rank) (defBody sTable_rank) (defScope sTable_rank) [] [] (He.fAd K ("Table", some "rank")) fd
  dTable_longest : ∃ fd, FunD K "longest" "Table.longest" (defArgs sTable_longest) (defBody sTable_longest) (defScope sTable_longest) [] [] (He.fAd K ("Table", some "longest")) fd
  d_law_cell_at : ∃ fd, FunD K "_law_cell_at" "_law_cell_at" (defArgs s_law_cell_at) (defBody s_law_cell_at) (defScope s_law_cell_at) [] [] (He.fAd K ("_law_cell_at", none)) fd
  d_law_numbers : ∃ fd, FunD K "_law_numbers" "_law_numbers" (defArgs s_law_numbers) (defBody s_law_numbers) (defScope s_law_numbers) [] [] (He.fAd K ("_law_numbers", none)) fd
  d_law_signs : ∃ fd, FunD K "_law_signs" "_law_signs" (defArgs s_law_signs) (defBody s_law_signs) (defScope s_law_signs) [] [] (He.fAd K ("_law_signs", none)) fd
  d_law_rows : ∃ fd, FunD K "_law_rows" "_law_rows" (defArgs s_law_rows) (defBody s_law_rows) (defScope s_law_rows) [] [] (He.fAd K ("_law_rows", none)) fd
  d_law_table : ∃ fd, FunD K "_law_table" "_law_table" (defArgs s_law_table) (defBody s_law_table) (defScope s_law_table) [] [] (He.fAd K ("_law_table", none)) fd
  d_law_text : ∃ fd, FunD K "_law_text" "_law_text" (defArgs s_law_text) (defBody s_law_text) (defScope s_law_text) [] [] (He.fAd K ("_law_text", none)) fd
  d_law_pieces_at : ∃ fd, FunD K "_law_pieces_at" "_law_pieces_at" (defArgs s_law_pieces_at) (defBody s_law_pieces_at) (defScope s_law_pieces_at) [] [] (He.fAd K ("_law_pieces_at", none)) fd
  d_law_all : ∃ fd, FunD K "_law_all" "_law_all" (defArgs s_law_all) (defBody s_law_all) (defScope s_law_all) [] [] (He.fAd K ("_law_all", none)) fd
  d_law_counted : ∃ fd, FunD K "_law_counted" "_law_counted" (defArgs s_law_counted) (defBody s_law_counted) (defScope s_law_counted) [] [] (He.fAd K ("_law_counted", none)) fd
  d_law_refused : ∃ fd, FunD K "_law_refused" "_law_refused" (defArgs s_law_refused) (defBody s_law_refused) (defScope s_law_refused) [] [] (He.fAd K ("_law_refused", none)) fd
  dlaw : ∃ fd, FunD K "law" "law" (defArgs slaw) (defBody slaw) (defScope slaw) [] [] (He.fAd K ("law", none)) fd
def fn : List He.DefD := [⟨("_wall", none), "_wall", "_wall", defArgs s_wall, defBody s_wall, defScope s_wall, [], []⟩, ⟨("NoTable", some "__init__"), "__init__", "NoTable.__init__", defArgs sNoTable_init, defBody sNoTable_init, defScope sNoTable_init, [], []⟩, ⟨("NoSign", some "__init__"), "__init__", "NoSign.__init__", defArgs sNoSign_init, defBody sNoSign_init, defScope sNoSign_init, [], []⟩, ⟨("NoNumber", some "__init__"), "__init__", "NoNumber.__init__", defArgs sNoNumber_init, defBody sNoNumber_init, defScope sNoNumber_init, [], []⟩, ⟨("is_whole", none), "is_whole", "is_whole", defArgs sis_whole, defBody sis_whole, defScope sis_whole, [], []⟩, ⟨("look_at_text", none), "look_at_text", "look_at_text", defArgs slook_at_text, defBody slook_at_text, defScope slook_at_text, [], []⟩, ⟨("begins", none), "begins", "begins", defArgs sbegins, defBody sbegins, defScope sbegins, [], []⟩, ⟨("heights", none), "heights", "heights", defArgs sheights, defBody sheights, defScope sheights, [], []⟩, ⟨("fewest", none), "fewest", "fewest", defArgs sfewest, defBody sfewest, defScope sfewest, [], []⟩, ⟨("how_many_fewest", none), "how_many_fewest", "how_many_fewest", defArgs show_many_fewest, defBody show_many_fewest, defScope show_many_fewest, [], []⟩, ⟨("is_sign", none), "is_sign", "is_sign", defArgs sis_sign, defBody sis_sign, defScope sis_sign, [], []⟩, ⟨("look_at_signs", none), "look_at_signs", "look_at_signs", defArgs slook_at_signs, defBody slook_at_signs, defScope slook_at_signs, [], []⟩, ⟨("is_row", none), "is_row", "is_row", defArgs sis_row, defBody sis_row, defScope sis_row, [], []⟩, ⟨("Table", some "__init__"), "__init__", "Table.__init__", defArgs sTable_init, defBody sTable_init, defScope sTable_init, [], []⟩, ⟨("Table", some "signs"), "signs", "Table.signs", defArgs sTable_signs, defBody sTable_signs, defScope sTable_signs, [], []⟩, ⟨("Table", some "rows"), "rows", "Table.rows", defArgs sTable_rows, defBody sTable_rows, defScope sTable_rows, [], []⟩, ⟨("Table", some "pieces"), "pieces", "Table.pieces", defArgs sTable_pieces, defBody sTable_pieces, defScope sTable_pieces, [], []⟩, ⟨("Table", some "which"), "which", "Table.which", defArgs sTable_which, defBody sTable_which, defScope sTable_which, [], []⟩, ⟨("Table", some "piece"), "piece", "Table.piece", defArgs sTable_piece, defBody sTable_piece, defScope sTable_piece, [], []⟩, ⟨("Table", some "parts"), "parts", "Table.parts", defArgs sTable_parts, defBody sTable_parts, defScope sTable_parts, [], []⟩, ⟨("Table", some "rank"), "rank", "Table.rank", defArgs sTable_rank, defBody sTable_rank, defScope sTable_rank, [], []⟩, ⟨("Table", some "longest"), "longest", "Table.longest", defArgs sTable_longest, defBody sTable_longest, defScope sTable_longest, [], []⟩, ⟨("_law_cell_at", none), "_law_cell_at", "_law_cell_at", defArgs s_law_cell_at, defBody s_law_cell_at, defScope s_law_cell_at, [], []⟩, ⟨("_law_numbers", none), "_law_numbers", "_law_numbers", defArgs s_law_numbers, defBody s_law_numbers, defScope s_law_numbers, [], []⟩, ⟨("_law_signs", none), "_law_signs", "_law_signs", defArgs s_law_signs, defBody s_law_signs, defScope s_law_signs, [], []⟩, ⟨("_law_rows", none), "_law_rows", "_law_rows", defArgs s_law_rows, defBody s_law_rows, defScope s_law_rows, [], []⟩, ⟨("_law_table", none), "_law_table", "_law_table", defArgs s_law_table, defBody s_law_table, defScope s_law_table, [], []⟩, ⟨("_law_text", none), "_law_text", "_law_text", defArgs s_law_text, defBody s_law_text, defScope s_law_text, [], []⟩, ⟨("_law_pieces_at", none), "_law_pieces_at", "_law_pieces_at", defArgs s_law_pieces_at, defBody s_law_pieces_at, defScope s_law_pieces_at, [], []⟩, ⟨("_law_all", none), "_law_all", "_law_all", defArgs s_law_all, defBody s_law_all, defScope s_law_all, [], []⟩, ⟨("_law_counted", none), "_law_counted", "_law_counted", defArgs s_law_counted, defBody s_law_counted, defScope s_law_counted, [], []⟩, ⟨("_law_refused", none), "_law_refused", "_law_refused", defArgs s_law_refused, defBody s_law_refused, defScope s_law_refused, [], []⟩, ⟨("law", none), "law", "law", defArgs slaw, defBody slaw, defScope slaw, [], []⟩]
def fa : List He.Fa := [.glo "_wall", .glo "JoinError", .glo "NoTable", .glo "NoSign", .glo "NoNumber", .glo "is_whole", .glo "look_at_text", .glo "begins", .glo "heights", .glo "fewest", .glo "how_many_fewest", .glo "is_sign", .glo "look_at_signs", .glo "is_row", .glo "Table", .glo "_law_cell_at", .glo "_law_numbers", .glo "_law_signs", .glo "_law_rows", .glo "_law_table", .glo "_law_text", .glo "_law_pieces_at", .glo "_law_all", .glo "_law_counted", .glo "_law_refused", .glo "law", .free "isinstance", .free "int", .free "bool", .free "enumerate", .free "str", .free "range", .free "max", .free "len", .free "min", .free "sum", .free "tuple", .free "list", .str "SIGNS" " !\"#$&'()*+,-./0123456789:;<=>?@ABCDEFGHIJKLMNOPQRSTUVWXYZ[\\]^_`abcdefghijklmnopqrstuvwxyz{|}~", .int "MOST_SIGNS" 12, .int "MOST_LENGTH" 16, .int "MOST_ROWS" 24, .meth "NoTable" "__init__", .noat "NoTable" "part", .noat "NoTable" "number", .meth "NoSign" "__init__", .noat "NoSign" "place", .meth "NoNumber" "__init__", .noat "NoNumber" "place", .cls "Table", .mkr "Table", .meth "Table" "signs", .meth "Table" "rows", .meth "Table" "pieces", .meth "Table" "which", .meth "Table" "piece", .meth "Table" "parts", .meth "Table" "rank", .meth "Table" "longest", .noat "Table" "kept_signs", .noat "Table" "by_text", .noat "Table" "by_pair", .noat "Table" "kept_rows", .noat "Table" "kept_pieces"]
def ex (K : PySem.W.Frag) : Bool := oexB K (He.ga K "JoinError") && (decide (PySem.W.exmOne K (.ref (He.ga K "JoinError")) (.ref (He.ga K "NoSign")) = some false) && (oexB K (He.ga K "NoTable") && (decide (PySem.W.typeIn K (.ref (He.ma K (He.ga K "NoTable") "__init__")) = some (.type "function")) && (xfB K (He.ga K "NoTable") && (decide (PySem.W.exmOne K (.ref (He.ga K "NoTable")) (.ref (He.ga K "NoSign")) = some false) && (oexB K (He.ga K "NoSign") && (decide (PySem.W.typeIn K (.ref (He.ma K (He.ga K "NoSign") "__init__")) = some (.type "function")) && (xfB K (He.ga K "NoSign") && (decide (PySem.W.exmOne K (.ref (He.ga K "NoSign")) (.ref (He.ga K "NoSign")) = some true) && (oexB K (He.ga K "NoNumber") && (decide (PySem.W.typeIn K (.ref (He.ma K (He.ga K "NoNumber") "__init__")) = some (.type "function")) && (xfB K (He.ga K "NoNumber") && (decide (PySem.W.exmOne K (.ref (He.ga K "NoNumber")) (.ref (He.ga K "NoSign")) = some false) && (jinB K (He.ga K "JoinError")))))))))))))))
theorem txt_of {K : PySem.W.Frag} {mg : Str → Option Value} {h : Heap} (KX : K.In h) (G : h.Ns mainGlobals mg) (c : SaysE fa fn ex K) : Txt K mg := by
  have e := c.x
  obtain ⟨e0, e⟩ := He.ba e
  obtain ⟨e1, e⟩ := He.ba e
  obtain ⟨e2, e⟩ := He.ba e
  obtain ⟨e3, e⟩ := He.ba e
  obtain ⟨e4, e⟩ := He.ba e
  obtain ⟨e5, e⟩ := He.ba e
  obtain ⟨e6, e⟩ := He.ba e
  obtain ⟨e7, e⟩ := He.ba e
  obtain ⟨e8, e⟩ := He.ba e
  obtain ⟨e9, e⟩ := He.ba e
  obtain ⟨e10, e⟩ := He.ba e
  obtain ⟨e11, e⟩ := He.ba e
  obtain ⟨e12, e⟩ := He.ba e
  obtain ⟨e13, e⟩ := He.ba e
  exact {
    g_wall := (He.glo_ok KX G) (c.d.fact 0 rfl)
    gJoinError := (He.glo_ok KX G) (c.d.fact 1 rfl)
    gNoTable := (He.glo_ok KX G) (c.d.fact 2 rfl)
    gNoSign := (He.glo_ok KX G) (c.d.fact 3 rfl)
    gNoNumber := (He.glo_ok KX G) (c.d.fact 4 rfl)
    gis_whole := (He.glo_ok KX G) (c.d.fact 5 rfl)
    glook_at_text := (He.glo_ok KX G) (c.d.fact 6 rfl)
    gbegins := (He.glo_ok KX G) (c.d.fact 7 rfl)
    gheights := (He.glo_ok KX G) (c.d.fact 8 rfl)
    gfewest := (He.glo_ok KX G) (c.d.fact 9 rfl)
    ghow_many_fewest := (He.glo_ok KX G) (c.d.fact 10 rfl)
    gis_sign := (He.glo_ok KX G) (c.d.fact 11 rfl)
    glook_at_signs := (He.glo_ok KX G) (c.d.fact 12 rfl)
    gis_row := (He.glo_ok KX G) (c.d.fact 13 rfl)
    gTable := (He.glo_ok KX G) (c.d.fact 14 rfl)
    g_law_cell_at := (He.glo_ok KX G) (c.d.fact 15 rfl)
    g_law_numbers := (He.glo_ok KX G) (c.d.fact 16 rfl)
    g_law_signs := (He.glo_ok KX G) (c.d.fact 17 rfl)
    g_law_rows := (He.glo_ok KX G) (c.d.fact 18 rfl)
    g_law_table := (He.glo_ok KX G) (c.d.fact 19 rfl)
    g_law_text := (He.glo_ok KX G) (c.d.fact 20 rfl)
    g_law_pieces_at := (He.glo_ok KX G) (c.d.fact 21 rfl)
    g_law_all := (He.glo_ok KX G) (c.d.fact 22 rfl)
    g_law_counted := (He.glo_ok KX G) (c.d.fact 23 rfl)
    g_law_refused := (He.glo_ok KX G) (c.d.fact 24 rfl)
    glaw := (He.glo_ok KX G) (c.d.fact 25 rfl)
    zisinstance := (He.free_ok KX G) (c.d.fact 26 rfl)
    zint := (He.free_ok KX G) (c.d.fact 27 rfl)
    zbool := (He.free_ok KX G) (c.d.fact 28 rfl)
    zenumerate := (He.free_ok KX G) (c.d.fact 29 rfl)
    zstr := (He.free_ok KX G) (c.d.fact 30 rfl)
    zrange := (He.free_ok KX G) (c.d.fact 31 rfl)
    zmax := (He.free_ok KX G) (c.d.fact 32 rfl)
    zlen := (He.free_ok KX G) (c.d.fact 33 rfl)
    zmin := (He.free_ok KX G) (c.d.fact 34 rfl)
    zsum := (He.free_ok KX G) (c.d.fact 35 rfl)
    ztuple := (He.free_ok KX G) (c.d.fact 36 rfl)
    zlist := (He.free_ok KX G) (c.d.fact 37 rfl)
    cSIGNS := (He.str_ok KX G) (c.d.fact 38 rfl)
    cMOST_SIGNS := (He.int_ok KX G) (c.d.fact 39 rfl)
    cMOST_LENGTH := (He.int_ok KX G) (c.d.fact 40 rfl)
    cMOST_ROWS := (He.int_ok KX G) (c.d.fact 41 rfl)
    mNoTable := (fun c => He.eqO_ok (He.ba c).1) (c.d.fact 42 rfl)
    nNoTable_part := (He.eqO_ok) (c.d.fact 43 rfl)
    nNoTable_number := (He.eqO_ok) (c.d.fact 44 rfl)
    mNoSign := (fun c => He.eqO_ok (He.ba c).1) (c.d.fact 45 rfl)
    nNoSign_place := (He.eqO_ok) (c.d.fact 46 rfl)
    mNoNumber := (fun c => He.eqO_ok (He.ba c).1) (c.d.fact 47 rfl)
    nNoNumber_place := (He.eqO_ok) (c.d.fact 48 rfl)
    kTable := (He.cls_ok) (c.d.fact 49 rfl)
    mkTable := (He.mkr_ok) (c.d.fact 50 rfl)
    mTable_signs := (He.meth_ok) (c.d.fact 51 rfl)
    mTable_rows := (He.meth_ok) (c.d.fact 52 rfl)
    mTable_pieces := (He.meth_ok) (c.d.fact 53 rfl)
    mTable_which := (He.meth_ok) (c.d.fact 54 rfl)
    mTable_piece := (He.meth_ok) (c.d.fact 55 rfl)
    mTable_parts := (He.meth_ok) (c.d.fact 56 rfl)
    mTable_rank := (He.meth_ok) (c.d.fact 57 rfl)
    mTable_longest := (He.meth_ok) (c.d.fact 58 rfl)
    nTable_kept_signs := (He.eqO_ok) (c.d.fact 59 rfl)
    nTable_by_text := (He.eqO_ok) (c.d.fact 60 rfl)
    nTable_by_pair := (He.eqO_ok) (c.d.fact 61 rfl)
    nTable_kept_rows := (He.eqO_ok) (c.d.fact 62 rfl)
    nTable_kept_pieces := (He.eqO_ok) (c.d.fact 63 rfl)
    oJoinError := oexB_ok e0
    hJoinError_NoSign := of_decide_eq_true e1
    oNoTable := oexB_ok e2
    wNoTable := of_decide_eq_true e3
    xNoTable := xfB_ok e4
    hNoTable_NoSign := of_decide_eq_true e5
    oNoSign := oexB_ok e6
    wNoSign := of_decide_eq_true e7
    xNoSign := xfB_ok e8
    hNoSign_NoSign := of_decide_eq_true e9
    oNoNumber := oexB_ok e10
    wNoNumber := of_decide_eq_true e11
    xNoNumber := xfB_ok e12
    hNoNumber_NoSign := of_decide_eq_true e13
    jin := jinB_ok e
    d_wall := c.d.def_ 0 rfl
    dNoTable_init := c.d.def_ 1 rfl
    dNoSign_init := c.d.def_ 2 rfl
    dNoNumber_init := c.d.def_ 3 rfl
    dis_whole := c.d.def_ 4 rfl
    dlook_at_text := c.d.def_ 5 rfl
    dbegins := c.d.def_ 6 rfl
    dheights := c.d.def_ 7 rfl
    dfewest := c.d.def_ 8 rfl
    dhow_many_fewest := c.d.def_ 9 rfl
    dis_sign := c.d.def_ 10 rfl
    dlook_at_signs := c.d.def_ 11 rfl
    dis_row := c.d.def_ 12 rfl
    dTable_init := c.d.def_ 13 rfl
    dTable_signs := c.d.def_ 14 rfl
    dTable_rows := c.d.def_ 15 rfl
    dTable_pieces := c.d.def_ 16 rfl
    dTable_which := c.d.def_ 17 rfl
    dTable_piece := c.d.def_ 18 rfl
    dTable_parts := c.d.def_ 19 rfl
    dTable_rank := c.d.def_ 20 rfl
    dTable_longest := c.d.def_ 21 rfl
    d_law_cell_at := c.d.def_ 22 rfl
    d_law_numbers := c.d.def_ 23 rfl
    d_law_signs := c.d.def_ 24 rfl
    d_law_rows := c.d.def_ 25 rfl
    d_law_table := c.d.def_ 26 rfl
    d_law_text := c.d.def_ 27 rfl
    d_law_pieces_at := c.d.def_ 28 rfl
    d_law_all := c.d.def_ 29 rfl
    d_law_counted := c.d.def_ 30 rfl
    d_law_refused := c.d.def_ 31 rfl
    dlaw := c.d.def_ 32 rfl
  }
section
variable {P : Program} {w : World} {K : PySem.W.Frag} {mg : Str → Option Value} {base : Heap}
theorem mk_wall (T : Txt K mg) {k : Nat} {φ : Ph} (hb : ∀ (cdv : Value) (A : Around) (outer : List Env) (s : Shared) (H : Hp) (E : XK), Room k (bodyX P w K mg base N_wall "_wall" s_wall (He.fAd K ("_wall", none)) cdv A outer s H E).A → ∀ ds rt xs, φ ds rt xs → ds.length = 1 →
      WD (bodyX P w K mg base N_wall "_wall" s_wall (He.fAd K ("_wall", none)) cdv A outer s H E) (fun x _ => xs x) (defBody s_wall) (env0 N_wall ds) { nx := fun _ => rt false .non, rt := fun o d _ => rt o d }) : FnD P w K mg base (k + 1) (He.fAd K ("_wall", none)) 1 φ := by
  obtain ⟨fd, F⟩ := T.d_wall
  exact fn_D (He5.fun_of F) sc_wall (F.bindsN fun _ _ _ _ _ _ us hl => match us, hl with | [_], _ => rfl) hb
theorem errNoTable (T : Txt K mg) : ErrC P w K mg base "NoTable" (He.ga K "NoTable") ["part", "number"] := by
  obtain ⟨fd, F0⟩ := T.dNoTable_init
  have F := He5.fun_of F0
  refine ⟨T.gNoTable, T.oNoTable, _, fd, ["self", "part", "number"], T.mNoTable, T.wNoTable, F.ok scNoTable_init (fun vs H Q E h => ?_) (fun cdv A outer s H vs Q E hr h => ?_), F0.bindsN fun _ _ _ _ _ _ us hl => match us, hl with | [_, _, _], _ => rfl⟩
  · obtain ⟨a, ys, rfl, hl, _⟩ := h
    exact congrArg (· + 1) hl
  · obtain ⟨a, ys, rfl, hl, ha, k⟩ := h
    match ys, hl with
    | [y0, y1], _ => exact ⟨_, pss_cons (ps_expr (pe_jinit rfl T.gJoinError T.jin (pa_cons (pv 0) (pa_cons pe_str pa_nil)))) (pss_cons (ps_ost (pv 0) (pv 1)) (pss_one (ps_ost (pv 0) (pv 2)))), err_fin2 T.oNoTable ha T.nNoTable_part T.nNoTable_number rfl k rfl rfl rfl⟩
theorem errNoSign (T : Txt K mg) : ErrC P w K mg base "NoSign" (He.ga K "NoSign") ["place"] := by
  obtain ⟨fd, F0⟩ := T.dNoSign_init
  have F := He5.fun_of F0
  refine ⟨T.gNoSign, T.oNoSign, _, fd, ["self", "place"], T.mNoSign, T.wNoSign, F.ok scNoSign_init (fun vs H Q E h => ?_) (fun cdv A outer s H vs Q E hr h => ?_), F0.bindsN fun _ _ _ _ _ _ us hl => match us, hl with | [_, _], _ => rfl⟩
  · obtain ⟨a, ys, rfl, hl, _⟩ := h
    exact congrArg (· + 1) hl
  · obtain ⟨a, ys, rfl, hl, ha, k⟩ := h
    match ys, hl with
    | [y0], _ => exact ⟨_, pss_cons (ps_expr (pe_jinit rfl T.gJoinError T.jin (pa_cons (pv 0) (pa_cons pe_str pa_nil)))) (pss_one (ps_ost (pv 0) (pv 1))), err_fin1 T.oNoSign ha T.nNoSign_place rfl k rfl rfl⟩
theorem errNoNumber (T : Txt K mg) : ErrC P w K mg base "NoNumber" (He.ga K "NoNumber") ["place"] := by
  obtain ⟨fd, F0⟩ := T.dNoNumber_init
  have F := He5.fun_of F0
  refine ⟨T.gNoNumber, T.oNoNumber, _, fd, ["self", "place"], T.mNoNumber, T.wNoNumber, F.ok scNoNumber_init (fun vs H Q E h => ?_) (fun cdv A outer s H vs Q E hr h => ?_), F0.bindsN fun _ _ _ _ _ _ us hl => match us, hl with | [_, _], _ => rfl⟩
  · obtain ⟨a, ys, rfl, hl, _⟩ := h
    exact congrArg (· + 1) hl
  · obtain ⟨a, ys, rfl, hl, ha, k⟩ := h
    match ys, hl with
    | [y0], _ => exact ⟨_, pss_cons (ps_expr (pe_jinit rfl T.gJoinError T.jin (pa_cons (pv 0) (pa_cons pe_str pa_nil)))) (pss_one (ps_ost (pv 0) (pv 1))), err_fin1 T.oNoNumber ha T.nNoNumber_place rfl k rfl rfl⟩
theorem mkis_whole (T : Txt K mg) {k : Nat} {φ : Ph} (hb : ∀ (cdv : Value) (A : Around) (outer : List Env) (s : Shared) (H : Hp) (E : XK), Room k (bodyX P w K mg base Nis_whole "is_whole" sis_whole (He.fAd K ("is_whole", none)) cdv A outer s H E).A → ∀ ds rt xs, φ ds rt xs → ds.length = 1 →
      WD (bodyX P w K mg base Nis_whole "is_whole" sis_whole (He.fAd K ("is_whole", none)) cdv A outer s H E) (fun x _ => xs x) (defBody sis_whole) (env0 Nis_whole ds) { nx := fun _ => rt false .non, rt := fun o d _ => rt o d }) : FnD P w K mg base (k + 1) (He.fAd K ("is_whole", none)) 1 φ := by
  obtain ⟨fd, F⟩ := T.dis_whole
  exact fn_D (He5.fun_of F) scis_whole (F.bindsN fun _ _ _ _ _ _ us hl => match us, hl with | [_], _ => rfl) hb
theorem mklook_at_text (T : Txt K mg) {k : Nat} {φ : Ph} (hb : ∀ (cdv : Value) (A : Around) (outer : List Env) (s : Shared) (H : Hp) (E : XK), Room k (bodyX P w K mg base Nlook_at_text "look_at_text" slook_at_text (He.fAd K ("look_at_text", none)) cdv A outer s H E).A → ∀ ds rt xs, φ ds rt xs → ds.length = 2 →
      WD (bodyX P w K mg base Nlook_at_text "look_at_text" slook_at_text (He.fAd K ("look_at_text", none)) cdv A outer s H E) (fun x _ => xs x) (defBody slook_at_text) (env0 Nlook_at_text ds) { nx := fun _ => rt false .non, rt := fun o d _ => rt o d }) : FnD P w K mg base (k + 1) (He.fAd K ("look_at_text", none)) 2 φ := by
  obtain ⟨fd, F⟩ := T.dlook_at_text
  exact fn_D (He5.fun_of F) sclook_at_text (F.bindsN fun _ _ _ _ _ _ us hl => match us, hl with | [_, _], _ => rfl) hb
theorem mkbegins (T : Txt K mg) {k : Nat} {φ : Ph} (hb : ∀ (cdv : Value) (A : Around) (outer : List Env) (s : Shared) (H : Hp) (E : XK), Room k (bodyX P w K mg base Nbegins "begins" sbegins (He.fAd K ("begins", none)) cdv A outer s H E).A → ∀ ds rt xs, φ ds rt xs → ds.length = 3 →
      WD (bodyX P w K mg base Nbegins "begins" sbegins (He.fAd K ("begins", none)) cdv A outer s H E) (fun x _ => xs x) (defBody sbegins) (env0 Nbegins ds) { nx := fun _ => rt false .non, rt := fun o d _ => rt o d }) : FnD P w K mg base (k + 1) (He.fAd K ("begins", none)) 3 φ := by
  obtain ⟨fd, F⟩ := T.dbegins
  exact fn_D (He5.fun_of F) scbegins (F.bindsN fun _ _ _ _ _ _ us hl => match us, hl with | [_, _, _], _ => rfl) hb
theorem mkheights (T : Txt K mg) {k : Nat} {φ : Ph} (hb : ∀ (cdv : Value) (A : Around) (outer : List Env) (s : Shared) (H : Hp) (E : XK), Room k (bodyX P w K mg base Nheights "heights" sheights (He.fAd K ("heights", none)) cdv A outer s H E).A → ∀ ds rt xs, φ ds rt xs → ds.length = 2 →
      WD (bodyX P w K mg base Nheights "heights" sheights (He.fAd K ("heights", none)) cdv A outer s H E) (fun x _ => xs x) (defBody sheights) (env0 Nheights ds) { nx := fun _ => rt false .non, rt := fun o d _ => rt o d }) : FnD P w K mg base (k + 1) (He.fAd K ("heights", none)) 2 φ := by
  obtain ⟨fd, F⟩ := T.dheights
  exact fn_D (He5.fun_of F) scheights (F.bindsN fun _ _ _ _ _ _ us hl => match us, hl with | [_, _], _ => rfl) hb
theorem mkfewest (T : Txt K mg) {k : Nat} {φ : Ph} (hb : ∀ (cdv : Value) (A : Around) (outer : List Env) (s : Shared) (H : Hp) (E : XK), Room k (bodyX P w K mg base Nfewest "fewest" sfewest (He.fAd K ("fewest", none)) cdv A outer s H E).A → ∀ ds rt xs, φ ds rt xs → ds.length = 2 →
      WD (bodyX P w K mg base Nfewest "fewest" sfewest (He.fAd K ("fewest", none)) cdv A outer s H E) (fun x _ => xs x) (defBody sfewest) (env0 Nfewest ds) { nx := fun _ => rt false .non, rt := fun o d _ => rt o d }) : FnD P w K mg base (k + 1) (He.fAd K ("fewest", none)) 2 φ := by
  obtain ⟨fd, F⟩ := T.dfewest
  exact fn_D (He5.fun_of F) scfewest (F.bindsN fun _ _ _ _ _ _ us hl => match us, hl with | [_, _], _ => rfl) hb
theorem mkhow_many_fewest (T : Txt K mg) {k : Nat} {φ : Ph} (hb : ∀ (cdv : Value) (A : Around) (outer : List Env) (s : Shared) (H : Hp) (E : XK), Room k (bodyX P w K mg base Nhow_many_fewest "how_many_fewest" show_many_fewest (He.fAd K ("how_many_fewest", none)) cdv A outer s H E).A → ∀ ds rt xs, φ ds rt xs → ds.length = 2 →
      WD (bodyX P w K mg base Nhow_many_fewest "how_many_fewest" show_many_fewest (He.fAd K ("how_many_fewest", none)) cdv A outer s H E) (fun x _ => xs x) (defBody show_many_fewest) (env0 Nhow_many_fewest ds) { nx := fun _ => rt false .non, rt := fun o d _ => rt o d }) : FnD P w K mg base (k + 1) (He.fAd K ("how_many_fewest", none)) 2 φ := by
  obtain ⟨fd, F⟩ := T.dhow_many_fewest
  exact fn_D (He5.fun_of F) schow_many_fewest (F.bindsN fun _ _ _ _ _ _ us hl => match us, hl with | [_, _], _ => rfl) hb
theorem mkis_sign (T : Txt K mg) {k : Nat} {φ : Ph} (hb : ∀ (cdv : Value) (A : Around) (outer : List Env) (s : Shared) (H : Hp) (E : XK), Room k (bodyX P w K mg base Nis_sign "is_sign" sis_sign (He.fAd K ("is_sign", none)) cdv A outer s H E).A → ∀ ds rt xs, φ ds rt xs → ds.length = 1 →
      WD (bodyX P w K mg base Nis_sign "is_sign" sis_sign (He.fAd K ("is_sign", none)) cdv A outer s H E) (fun x _ => xs x) (defBody sis_sign) (env0 Nis_sign ds) { nx := fun _ => rt false .non, rt := fun o d _ => rt o d }) : FnD P w K mg base (k + 1) (He.fAd K ("is_sign", none)) 1 φ := by
  obtain ⟨fd, F⟩ := T.dis_sign
  exact fn_D (He5.fun_of F) scis_sign (F.bindsN fun _ _ _ _ _ _ us hl => match us, hl with | [_], _ => rfl) hb
theorem mklook_at_signs (T : Txt K mg) {k : Nat} {φ : Ph} (hb : ∀ (cdv : Value) (A : Around) (outer : List Env) (s : Shared) (H : Hp) (E : XK), Room k (bodyX P w K mg base Nlook_at_signs "look_at_signs" slook_at_signs (He.fAd K ("look_at_signs", none)) cdv A outer s H E).A → ∀ ds rt xs, φ ds rt xs → ds.length = 1 →
      WD (bodyX P w K mg base Nlook_at_signs "look_at_signs" slook_at_signs (He.fAd K ("look_at_signs", none)) cdv A outer s H E) (fun x _ => xs x) (defBody slook_at_signs) (env0 Nlook_at_signs ds) { nx := fun _ => rt false .non, rt := fun o d _ => rt o d }) : FnD P w K mg base (k + 1) (He.fAd K ("look_at_signs", none)) 1 φ := by
  obtain ⟨fd, F⟩ := T.dlook_at_signs
  exact fn_D (He5.fun_of F) sclook_at_signs (F.bindsN fun _ _ _ _ _ _ us hl => match us, hl with | [_], _ => rfl) hb
theorem mkis_row (T : Txt K mg) {k : Nat} {φ : Ph} (hb : ∀ (cdv : Value) (A : Around) (outer : List Env) (s : Shared) (H : Hp) (E : XK), Room k (bodyX P w K mg base Nis_row "is_row" sis_row (He.fAd K ("is_row", none)) cdv A outer s H E).A → ∀ ds rt xs, φ ds rt xs → ds.length = 2 →
      WD (bodyX P w K mg base Nis_row "is_row" sis_row (He.fAd K ("is_row", none)) cdv A outer s H E) (fun x _ => xs x) (defBody sis_row) (env0 Nis_row ds) { nx := fun _ => rt false .non, rt := fun o d _ => rt o d }) : FnD P w K mg base (k + 1) (He.fAd K ("is_row", none)) 2 φ := by
  obtain ⟨fd, F⟩ := T.dis_row
  exact fn_D (He5.fun_of F) scis_row (F.bindsN fun _ _ _ _ _ _ us hl => match us, hl with | [_, _], _ => rfl) hb
theorem mkTable_init (T : Txt K mg) {k : Nat} {φ : PhI} (hb : ∀ (cdv : Value) (A : Around) (outer : List Env) (s : Shared) (H : Hp) (E : XK), Room k (bodyX P w K mg base NTable_init "Table.__init__" sTable_init (He.fAd K ("Table", some "__init__")) cdv A outer s H E).A → ∀ x ds rt xs, φ ds rt xs → ds.length = 2 →
      WD (bodyX P w K mg base NTable_init "Table.__init__" sTable_init (He.fAd K ("Table", some "__init__")) cdv A outer s H E) (fun y _ => xs y) (defBody sTable_init) (envI NTable_init x (He.ga K "Table") ds) { nx := fun Γ => ∃ fs, Γ[0]? = some (some (true, .adr x (.ins (He.ga K "Table") fs))) ∧ rt fs, rt := fun _ _ _ => False, lb := [x] }) : FnI P w K mg base (k + 1) (He.fAd K ("Table", some "__init__")) (He.ga K "Table") 2 φ := by
  obtain ⟨fd, F⟩ := T.dTable_init
  exact fn_I (He5.fun_of F) scTable_init (F.bindsN fun _ _ _ _ _ _ us hl => match us, hl with | [_, _, _], _ => rfl) rfl hb
theorem mkTable_signs (T : Txt K mg) {k : Nat} {φ : Ph} (hb : ∀ (cdv : Value) (A : Around) (outer : List Env) (s : Shared) (H : Hp) (E : XK), Room k (bodyX P w K mg base NTable_signs "Table.signs" sTable_signs (He.fAd K ("Table", some "signs")) cdv A outer s H E).A → ∀ ds rt xs, φ ds rt xs → ds.length = 1 →
      WD (bodyX P w K mg base NTable_signs "Table.signs" sTable_signs (He.fAd K ("Table", some "signs")) cdv A outer s H E) (fun x _ => xs x) (defBody sTable_signs) (env0 NTable_signs ds) { nx := fun _ => rt false .non, rt := fun o d _ => rt o d }) : FnD P w K mg base (k + 1) (He.fAd K ("Table", some "signs")) 1 φ := by
  obtain ⟨fd, F⟩ := T.dTable_signs
  exact fn_D (He5.fun_of F) scTable_signs (F.bindsN fun _ _ _ _ _ _ us hl => match us, hl with | [_], _ => rfl) hb
theorem mkTable_rows (T : Txt K mg) {k : Nat} {φ : Ph} (hb : ∀ (cdv : Value) (A : Around) (outer : List Env) (s : Shared) (H : Hp) (E : XK), Room k (bodyX P w K mg base NTable_rows "Table.rows" sTable_rows (He.fAd K ("Table", some "rows")) cdv A outer s H E).A → ∀ ds rt xs, φ ds rt xs → ds.length = 1 →
      WD (bodyX P w K mg base NTable_rows "Table.rows" sTable_rows (He.fAd K ("Table", some "rows")) cdv A outer s H E) (fun x _ => xs x) (defBody sTable_rows) (env0 NTable_rows ds) { nx := fun _ => rt false .non, rt := fun o d _ => rt o d }) : FnD P w K mg base (k + 1) (He.fAd K ("Table", some "rows")) 1 φ := by
  obtain ⟨fd, F⟩ := T.dTable_rows
  exact fn_D (He5.fun_of F) scTable_rows (F.bindsN fun _ _ _ _ _ _ us hl => match us, hl with | [_], _ => rfl) hb
theorem mkTable_pieces (T : Txt K mg) {k : Nat} {φ : Ph} (hb : ∀ (cdv : Value) (A : Around) (outer : List Env) (s : Shared) (H : Hp) (E : XK), Room k (bodyX P w K mg base NTable_pieces "Table.pieces" sTable_pieces (He.fAd K ("Table", some "pieces")) cdv A outer s H E).A → ∀ ds rt xs, φ ds rt xs → ds.length = 1 →
      WD (bodyX P w K mg base NTable_pieces "Table.pieces" sTable_pieces (He.fAd K ("Table", some "pieces")) cdv A outer s H E) (fun x _ => xs x) (defBody sTable_pieces) (env0 NTable_pieces ds) { nx := fun _ => rt false .non, rt := fun o d _ => rt o d }) : FnD P w K mg base (k + 1) (He.fAd K ("Table", some "pieces")) 1 φ := by
  obtain ⟨fd, F⟩ := T.dTable_pieces
  exact fn_D (He5.fun_of F) scTable_pieces (F.bindsN fun _ _ _ _ _ _ us hl => match us, hl with | [_], _ => rfl) hb
theorem mkTable_which (T : Txt K mg) {k : Nat} {φ : Ph} (hb : ∀ (cdv : Value) (A : Around) (outer : List Env) (s : Shared) (H : Hp) (E : XK), Room k (bodyX P w K mg base NTable_which "Table.which" sTable_which (He.fAd K ("Table", some "which")) cdv A outer s H E).A → ∀ ds rt xs, φ ds rt xs → ds.length = 2 →
      WD (bodyX P w K mg base NTable_which "Table.which" sTable_which (He.fAd K ("Table", some "which")) cdv A outer s H E) (fun x _ => xs x) (defBody sTable_which) (env0 NTable_which ds) { nx := fun _ => rt false .non, rt := fun o d _ => rt o d }) : FnD P w K mg base (k + 1) (He.fAd K ("Table", some "which")) 2 φ := by
  obtain ⟨fd, F⟩ := T.dTable_which
  exact fn_D (He5.fun_of F) scTable_which (F.bindsN fun _ _ _ _ _ _ us hl => match us, hl with | [_, _], _ => rfl) hb
theorem mkTable_piece (T : Txt K mg) {k : Nat} {φ : Ph} (hb : ∀ (cdv : Value) (A : Around) (outer : List Env) (s : Shared) (H : Hp) (E : XK), Room k (bodyX P w K mg base NTable_piece "Table.piece" sTable_piece (He.fAd K ("Table", some "piece")) cdv A outer s H E).A → ∀ ds rt xs, φ ds rt xs → ds.length = 2 →
      WD (bodyX P w K mg base NTable_piece "Table.piece" sTable_piece (He.fAd K ("Table", some "piece")) cdv A outer s H E) (fun x _ => xs x) (defBody sTable_piece) (env0 NTable_piece ds) { nx := fun _ => rt false .non, rt := fun o d _ => rt o d }) : FnD P w K mg base (k + 1) (He.fAd K ("Table", some "piece")) 2 φ := by
  obtain ⟨fd, F⟩ := T.dTable_piece
  exact fn_D (He5.fun_of F) scTable_piece (F.bindsN fun _ _ _ _ _ _ us hl => match us, hl with | [_, _], _ => rfl) hb
theorem mkTable_parts (T : Txt K mg) {k : Nat} {φ : Ph} (hb : ∀ (cdv : Value) (A : Around) (outer : List Env) (s : Shared) (H : Hp) (E : XK), Room k (bodyX P w K mg base NTable_parts "Table.parts" sTable_parts (He.fAd K ("Table", some "parts")) cdv A outer s H E).A → ∀ ds rt xs, φ ds rt xs → ds.length = 2 →
      WD (bodyX P w K mg base NTable_parts "Table.parts" sTable_parts (He.fAd K ("Table", some "parts")) cdv A outer s H E) (fun x _ => xs x) (defBody sTable_parts) (env0 NTable_parts ds) { nx := fun _ => rt false .non, rt := fun o d _ => rt o d }) : FnD P w K mg base (k + 1) (He.fAd K ("Table", some "parts")) 2 φ := by
  obtain ⟨fd, F⟩ := T.dTable_parts
  exact fn_D (He5.fun_of F) scTable_parts (F.bindsN fun _ _ _ _ _ _ us hl => match us, hl with | [_, _], _ => rfl) hb
theorem mkTable_rank (T : Txt K mg) {k : Nat} {φ : Ph} (hb : ∀ (cdv : Value) (A : Around) (outer : List Env) (s : Shared) (H : Hp) (E : XK), Room k (bodyX P w K mg base NTable_rank "Table.rank" sTable_rank (He.fAd K ("Table", some "rank")) cdv A outer s H E).A → ∀ ds rt xs, φ ds rt xs → ds.length = 3 →
      WD (bodyX P w K mg base NTable_rank "Table.rank" sTable_rank (He.fAd K ("Table", some "rank")) cdv A outer s H E) (fun x _ => xs x) (defBody sTable_rank) (env0 NTable_rank ds) { nx := fun _ => rt false .non, rt := fun o d _ => rt o d }) : FnD P w K mg base (k + 1) (He.fAd K ("Table", some "rank")) 3 φ := by
  obtain ⟨fd, F⟩ := T.dTable_rank
  exact fn_D (He5.fun_of F) scTable_rank (F.bindsN fun _ _ _ _ _ _ us hl => match us, hl with | [_, _, _], _ => rfl) hb
theorem mkTable_longest (T : Txt K mg) {k : Nat} {φ : Ph} (hb : ∀ (cdv : Value) (A : Around) (outer : List Env) (s : Shared) (H : Hp) (E : XK), Room k (bodyX P w K mg base NTable_longest "Table.longest" sTable_longest (He.fAd K ("Table", some "longest")) cdv A outer s H E).A → ∀ ds rt xs, φ ds rt xs → ds.length = 1 →
      WD (bodyX P w K mg base NTable_longest "Table.longest" sTable_longest (He.fAd K ("Table", some "longest")) cdv A outer s H E) (fun x _ => xs x) (defBody sTable_longest) (env0 NTable_longest ds) { nx := fun _ => rt false .non, rt := fun o d _ => rt o d }) : FnD P w K mg base (k + 1) (He.fAd K ("Table", some "longest")) 1 φ := by
  obtain ⟨fd, F⟩ := T.dTable_longest
  exact fn_D (He5.fun_of F) scTable_longest (F.bindsN fun _ _ _ _ _ _ us hl => match us, hl with | [_], _ => rfl) hb
theorem mk_law_cell_at (T : Txt K mg) {k : Nat} {φ : Ph} (hb : ∀ (cdv : Value) (A : Around) (outer : List Env) (s : Shared) (H : Hp) (E : XK), Room k (bodyX P w K mg base N_law_cell_at "_law_cell_at" s_law_cell_at (He.fAd K ("_law_cell_at", none)) cdv A outer s H E).A → ∀ ds rt xs, φ ds rt xs → ds.length = 2 →
      WD (bodyX P w K mg base N_law_cell_at "_law_cell_at" s_law_cell_at (He.fAd K ("_law_cell_at", none)) cdv A outer s H E) (fun x _ => xs x) (defBody s_law_cell_at) (env0 N_law_cell_at ds) { nx := fun _ => rt false .non, rt := fun o d _ => rt o d }) : FnD P w K mg base (k + 1) (He.fAd K ("_law_cell_at", none)) 2 φ := by
  obtain ⟨fd, F⟩ := T.d_law_cell_at
  exact fn_D (He5.fun_of F) sc_law_cell_at (F.bindsN fun _ _ _ _ _ _ us hl => match us, hl with | [_, _], _ => rfl) hb
theorem mk_law_numbers (T : Txt K mg) {k : Nat} {φ : Ph} (hb : ∀ (cdv : Value) (A : Around) (outer : List Env) (s : Shared) (H : Hp) (E : XK), Room k (bodyX P w K mg base N_law_numbers "_law_numbers" s_law_numbers (He.fAd K ("_law_numbers", none)) cdv A outer s H E).A → ∀ ds rt xs, φ ds rt xs → ds.length = 3 →
      WD (bodyX P w K mg base N_law_numbers "_law_numbers" s_law_numbers (He.fAd K ("_law_numbers", none)) cdv A outer s H E) (fun x _ => xs x) (defBody s_law_numbers) (env0 N_law_numbers ds) { nx := fun _ => rt false .non, rt := fun o d _ => rt o d }) : FnD P w K mg base (k + 1) (He.fAd K ("_law_numbers", none)) 3 φ := by
  obtain ⟨fd, F⟩ := T.d_law_numbers
  exact fn_D (He5.fun_of F) sc_law_numbers (F.bindsN fun _ _ _ _ _ _ us hl => match us, hl with | [_, _, _], _ => rfl) hb
theorem mk_law_signs (T : Txt K mg) {k : Nat} {φ : Ph} (hb : ∀ (cdv : Value) (A : Around) (outer : List Env) (s : Shared) (H : Hp) (E : XK), Room k (bodyX P w K mg base N_law_signs "_law_signs" s_law_signs (He.fAd K ("_law_signs", none)) cdv A outer s H E).A → ∀ ds rt xs, φ ds rt xs → ds.length = 1 →
      WD (bodyX P w K mg base N_law_signs "_law_signs" s_law_signs (He.fAd K ("_law_signs", none)) cdv A outer s H E) (fun x _ => xs x) (defBody s_law_signs) (env0 N_law_signs ds) { nx := fun _ => rt false .non, rt := fun o d _ => rt o d }) : FnD P w K mg base (k + 1) (He.fAd K ("_law_signs", none)) 1 φ := by
  obtain ⟨fd, F⟩ := T.d_law_signs
  exact fn_D (He5.fun_of F) sc_law_signs (F.bindsN fun _ _ _ _ _ _ us hl => match us, hl with | [_], _ => rfl) hb
theorem mk_law_rows (T : Txt K mg) {k : Nat} {φ : Ph} (hb : ∀ (cdv : Value) (A : Around) (outer : List Env) (s : Shared) (H : Hp) (E : XK), Room k (bodyX P w K mg base N_law_rows "_law_rows" s_law_rows (He.fAd K ("_law_rows", none)) cdv A outer s H E).A → ∀ ds rt xs, φ ds rt xs → ds.length = 2 →
      WD (bodyX P w K mg base N_law_rows "_law_rows" s_law_rows (He.fAd K ("_law_rows", none)) cdv A outer s H E) (fun x _ => xs x) (defBody s_law_rows) (env0 N_law_rows ds) { nx := fun _ => rt false .non, rt := fun o d _ => rt o d }) : FnD P w K mg base (k + 1) (He.fAd K ("_law_rows", none)) 2 φ := by
  obtain ⟨fd, F⟩ := T.d_law_rows
  exact fn_D (He5.fun_of F) sc_law_rows (F.bindsN fun _ _ _ _ _ _ us hl => match us, hl with | [_, _], _ => rfl) hb
theorem mk_law_table (T : Txt K mg) {k : Nat} {φ : Ph} (hb : ∀ (cdv : Value) (A : Around) (outer : List Env) (s : Shared) (H : Hp) (E : XK), Room k (bodyX P w K mg base N_law_table "_law_table" s_law_table (He.fAd K ("_law_table", none)) cdv A outer s H E).A → ∀ ds rt xs, φ ds rt xs → ds.length = 3 →
      WD (bodyX P w K mg base N_law_table "_law_table" s_law_table (He.fAd K ("_law_table", none)) cdv A outer s H E) (fun x _ => xs x) (defBody s_law_table) (env0 N_law_table ds) { nx := fun _ => rt false .non, rt := fun o d _ => rt o d }) : FnD P w K mg base (k + 1) (He.fAd K ("_law_table", none)) 3 φ := by
  obtain ⟨fd, F⟩ := T.d_law_table
  exact fn_D (He5.fun_of F) sc_law_table (F.bindsN fun _ _ _ _ _ _ us hl => match us, hl with | [_, _, _], _ => rfl) hb
theorem mk_law_text (T : Txt K mg) {k : Nat} {φ : Ph} (hb : ∀ (cdv : Value) (A : Around) (outer : List Env) (s : Shared) (H : Hp) (E : XK), Room k (bodyX P w K mg base N_law_text "_law_text" s_law_text (He.fAd K ("_law_text", none)) cdv A outer s H E).A → ∀ ds rt xs, φ ds rt xs → ds.length = 4 →
      WD (bodyX P w K mg base N_law_text "_law_text" s_law_text (He.fAd K ("_law_text", none)) cdv A outer s H E) (fun x _ => xs x) (defBody s_law_text) (env0 N_law_text ds) { nx := fun _ => rt false .non, rt := fun o d _ => rt o d }) : FnD P w K mg base (k + 1) (He.fAd K ("_law_text", none)) 4 φ := by
  obtain ⟨fd, F⟩ := T.d_law_text
  exact fn_D (He5.fun_of F) sc_law_text (F.bindsN fun _ _ _ _ _ _ us hl => match us, hl with | [_, _, _, _], _ => rfl) hb
theorem mk_law_pieces_at (T : Txt K mg) {k : Nat} {φ : Ph} (hb : ∀ (cdv : Value) (A : Around) (outer : List Env) (s : Shared) (H : Hp) (E : XK), Room k (bodyX P w K mg base N_law_pieces_at "_law_pieces_at" s_law_pieces_at (He.fAd K ("_law_pieces_at", none)) cdv A outer s H E).A → ∀ ds rt xs, φ ds rt xs → ds.length = 3 →
      WD (bodyX P w K mg base N_law_pieces_at "_law_pieces_at" s_law_pieces_at (He.fAd K ("_law_pieces_at", none)) cdv A outer s H E) (fun x _ => xs x) (defBody s_law_pieces_at) (env0 N_law_pieces_at ds) { nx := fun _ => rt false .non, rt := fun o d _ => rt o d }) : FnD P w K mg base (k + 1) (He.fAd K ("_law_pieces_at", none)) 3 φ := by
  obtain ⟨fd, F⟩ := T.d_law_pieces_at
  exact fn_D (He5.fun_of F) sc_law_pieces_at (F.bindsN fun _ _ _ _ _ _ us hl => match us, hl with | [_, _, _], _ => rfl) hb
theorem mk_law_all (T : Txt K mg) {k : Nat} {φ : Ph} (hb : ∀ (cdv : Value) (A : Around) (outer : List Env) (s : Shared) (H : Hp) (E : XK), Room k (bodyX P w K mg base N_law_all "_law_all" s_law_all (He.fAd K ("_law_all", none)) cdv A outer s H E).A → ∀ ds rt xs, φ ds rt xs → ds.length = 2 →
      WD (bodyX P w K mg base N_law_all "_law_all" s_law_all (He.fAd K ("_law_all", none)) cdv A outer s H E) (fun x _ => xs x) (defBody s_law_all) (env0 N_law_all ds) { nx := fun _ => rt false .non, rt := fun o d _ => rt o d }) : FnD P w K mg base (k + 1) (He.fAd K ("_law_all", none)) 2 φ := by
  obtain ⟨fd, F⟩ := T.d_law_all
  exact fn_D (He5.fun_of F) sc_law_all (F.bindsN fun _ _ _ _ _ _ us hl => match us, hl with | [_, _], _ => rfl) hb
theorem mk_law_counted (T : Txt K mg) {k : Nat} {φ : Ph} (hb : ∀ (cdv : Value) (A : Around) (outer : List Env) (s : Shared) (H : Hp) (E : XK), Room k (bodyX P w K mg base N_law_counted "_law_counted" s_law_counted (He.fAd K ("_law_counted", none)) cdv A outer s H E).A → ∀ ds rt xs, φ ds rt xs → ds.length = 2 →
      WD (bodyX P w K mg base N_law_counted "_law_counted" s_law_counted (He.fAd K ("_law_counted", none)) cdv A outer s H E) (fun x _ => xs x) (defBody s_law_counted) (env0 N_law_counted ds) { nx := fun _ => rt false .non, rt := fun o d _ => rt o d }) : FnD P w K mg base (k + 1) (He.fAd K ("_law_counted", none)) 2 φ := by
  obtain ⟨fd, F⟩ := T.d_law_counted
  exact fn_D (He5.fun_of F) sc_law_counted (F.bindsN fun _ _ _ _ _ _ us hl => match us, hl with | [_, _], _ => rfl) hb
theorem mk_law_refused (T : Txt K mg) {k : Nat} {φ : Ph} (hb : ∀ (cdv : Value) (A : Around) (outer : List Env) (s : Shared) (H : Hp) (E : XK), Room k (bodyX P w K mg base N_law_refused "_law_refused" s_law_refused (He.fAd K ("_law_refused", none)) cdv A outer s H E).A → ∀ ds rt xs, φ ds rt xs → ds.length = 3 →
      WD (bodyX P w K mg base N_law_refused "_law_refused" s_law_refused (He.fAd K ("_law_refused", none)) cdv A outer s H E) (fun x _ => xs x) (defBody s_law_refused) (env0 N_law_refused ds) { nx := fun _ => rt false .non, rt := fun o d _ => rt o d }) : FnD P w K mg base (k + 1) (He.fAd K ("_law_refused", none)) 3 φ := by
  obtain ⟨fd, F⟩ := T.d_law_refused
  exact fn_D (He5.fun_of F) sc_law_refused (F.bindsN fun _ _ _ _ _ _ us hl => match us, hl with | [_, _, _], _ => rfl) hb
theorem mklaw (T : Txt K mg) {k : Nat} {φ : Ph} (hb : ∀ (base : Heap) (cdv : Value) (A : Around) (outer : List Env) (s : Shared) (H : Hp) (E : XK), Room k (bodyX P w K mg base Nlaw "law" slaw (He.fAd K ("law", none)) cdv A outer s H E).A → ∀ ds rt xs, φ ds rt xs → ds.length = 1 →
      WD (bodyX P w K mg base Nlaw "law" slaw (He.fAd K ("law", none)) cdv A outer s H E) (fun x _ => xs x) (defBody slaw) (env0 Nlaw ds) { nx := fun _ => rt false .non, rt := fun o d _ => rt o d }) :
    ∃ fd, (∀ (s : Shared) (u : Value), BindsTo s fd ⟨[u], []⟩ [("_law_script", u)]) ∧ ∀ base : Heap, FnOk P w K mg base (L2.CX P w) (k + 1) (He.fAd K ("law", none)) fd ["_law_script"] (spD K 1 φ) := by
  obtain ⟨fd, F⟩ := T.dlaw
  have b := FunD.bindsA (ps := ["_law_script"]) F fun _ _ _ _ _ _ us hl => match us, hl with | [_], _ => rfl
  exact ⟨fd, fun s v => b s [v] rfl, fun base => fn_OK (He5.fun_of F) sclaw (hb base)⟩
end
abbrev R : PySem.W.OpenRow := PySem.W.OpenLaw.row PySem.Challenge.rw_joinranks_k82_the_fewest_counted
abbrev hk : PySem.W.Hook := hookE 4 fa fn ex
def ob (s : PySem.W.SharedT) : He.AlD × Bool := obsEG 4 fa fn ex (HandSHeadRun.getT s)
theorem ob_eq (s : PySem.W.SharedT) : ob s = hk.obs s.abs := obsEG_eq (HandSHeadRun.getT_eq s)
def loose0 : List Str := ["_wall", "JoinError", "NoTable", "NoSign", "NoNumber", "is_whole", "look_at_text", "begins", "heights", "fewest", "how_many_fewest", "SIGNS", "MOST_SIGNS", "MOST_ROWS", "MOST_LENGTH", "is_sign", "look_at_signs", "is_row", "Table", "_law_cell_at", "_law_numbers", "_law_signs", "_law_rows", "_law_table", "_law_text", "_law_pieces_at", "_law_all", "_law_counted", "_law_refused"]
abbrev loose : List Str := loose0
theorem run (w : World) : HandSHeadRun.RunEq R (PySem.W.view R.prog [36]) hk ob 20000 loose w := by
  intro os
  kernel_rfl
end Lw
namespace Lw
open PySem L2 DL TL
def isF (c : Nat) : Bool := decide (c ∈ ("0123456789" : Str).cps.toList)
def wN (z : Str) : Bool := z.cps.toList.all isF && (match z.cps.toList with
  | [] => false
  | c :: _ => !decide ((⟨#[c]⟩ : Str) = "0") || decide (z = "0"))
def numV (z : Str) : Option Int := if wN z = true ∧ z.length ≤ 60 then some ((NumText.digitsVal (tl z) : Nat) : Int) else none
theorem figs : ("0123456789" : Str).cps.toList = [48, 49, 50, 51, 52, 53, 54, 55, 56, 57] := by decide +kernel
theorem isF_iff {c : Nat} : isF c = true ↔ 48 ≤ c ∧ c ≤ 57 := by
  unfold isF
  rw [figs, decide_eq_true_iff]
  simp only [List.mem_cons, List.not_mem_nil, or_false]
  omega
theorem wN_digits {z : Str} (h : wN z = true) : NumText.AllDigits (tl z) ∧ tl z ≠ [] := by
  unfold wN at h
  rw [Bool.and_eq_true] at h
  refine ⟨fun c hc => isF_iff.mp (List.all_eq_true.mp h.1 c hc), fun e => ?_⟩
  have e' : z.cps.toList = [] := e
  rw [e'] at h
  cases h.2
theorem str_ne_empty {z : Str} : z = "" ↔ tl z = [] := by
  constructor
  · intro e; rw [e]; decide +kernel
  · intro e; exact ext_tl (e.trans (by decide +kernel : ([] : List Nat) = tl ("" : Str)))
def showNs (ns : List Int) : Str := Txt.join " " (ns.map fun n => (toString n : Str))
/-- what a text of numbers says -/
def allSome : List (Option Int) → Option (List Int)
  | [] => some []
  | none :: _ => none
  | some n :: r => (allSome r).map (n :: ·)
def readN (z : Str) : Option (List Int) := if z = "" then some [] else allSome ((Txt.split z " ").map numV)
def readD : D → Option (List Int)
  | .str z => readN z
  | _ => none
theorem allSome_eq {l : List (Option Int)} {ns : List Int} (h : l = ns.map some) : allSome l = some ns := by
  subst h
  induction ns with
  | nil => rfl
  | cons n r ih => show (allSome (r.map some)).map (n :: ·) = _; rw [ih]; rfl
theorem allSome_none {l : List (Option Int)} (h : none ∈ l) : allSome l = none := by
  induction l with
  | nil => cases h
  | cons a r ih =>
    cases a with
    | none => rfl
    | some n =>
      have : none ∈ r := by simpa using h
      show (allSome r).map (n :: ·) = _
      rw [ih this]; rfl
theorem allSome_some {l : List (Option Int)} (h : none ∉ l) : ∃ ns : List Int, l = ns.map some := by
  induction l with
  | nil => exact ⟨[], rfl⟩
  | cons a r ih =>
    obtain ⟨ns, e⟩ := ih fun z => h (List.mem_cons_of_mem _ z)
    cases a with
    | none => exact absurd List.mem_cons_self h
    | some n => exact ⟨n :: ns, by rw [e]; rfl⟩
/-- the parts of a text are no longer than it -/
theorem spl_len (S : List Nat) : ∀ (l : List Nat) (k : Nat) (acc p : List Nat), p ∈ spl S k acc l → p.length ≤ acc.length + l.length
  | [], k, acc, p, h => by rw [spl_nil] at h; rw [List.mem_singleton.mp h]; simp
  | c :: r, 0, acc, p, h => by
    unfold spl at h
    by_cases e : pre S (c :: r) = true
    · rw [if_pos e] at h
      rcases List.mem_cons.mp h with h | h
      · rw [h]; omega
      · have := spl_len S r _ [] p h
        simp only [List.length_nil, List.length_cons] at *; omega
    · rw [if_neg e] at h
      have := spl_len S r 0 _ p h
      simp only [List.length_append, List.length_cons, List.length_nil] at *; omega
  | c :: r, k + 1, acc, p, h => by
    unfold spl at h
    have := spl_len S r k acc p h
    simp only [List.length_cons] at *; omega
theorem spl_count (S : List Nat) : ∀ (l : List Nat) (k : Nat) (acc : List Nat), (spl S k acc l).length ≤ l.length + 1
  | [], k, acc => by rw [spl_nil]; simp
  | c :: r, 0, acc => by
    unfold spl
    by_cases e : pre S (c :: r) = true
    · rw [if_pos e]
      have := spl_count S r (S.length - 1) []
      simp only [List.length_cons] at *; omega
    · rw [if_neg e]
      have := spl_count S r 0 (acc ++ [c])
      simp only [List.length_cons] at *; omega
  | c :: r, k + 1, acc => by
    unfold spl
    have := spl_count S r k acc
    simp only [List.length_cons] at *; omega
theorem blank_tl : tl (" " : Str) = [32] := by decide +kernel
theorem split_tl (z : Str) : (Txt.split z " ").map tl = spl [32] 0 [] (tl z) := by
  rw [split_spl z " " (by rw [blank_tl]; simp) (kind_ok (by decide +kernel)), blank_tl]
theorem split_len {z p : Str} (h : p ∈ Txt.split z " ") : p.length ≤ z.length := by
  have h' : tl p ∈ spl [32] 0 [] (tl z) := by rw [← split_tl]; exact List.mem_map_of_mem h
  have := spl_len _ _ _ _ _ h'
  rw [len_tl, len_tl]
  simpa using this
theorem split_count (z : Str) : (Txt.split z " ").length ≤ z.length + 1 := by
  have := spl_count [32] (tl z) 0 []
  rw [← split_tl, List.length_map, ← len_tl] at this
  exact this
def isStr : D → Bool
  | .str _ => true
  | _ => false
end Lw

namespace Lw
open PySem L2 DL TL
section
variable {P : Program} {w : World} {K : PySem.W.Frag} {mg : Str → Option Value} {base : Heap}
/-! ### the law's numbers -/
def Below (ns sizes : List Int) : Prop := ∀ (j : Nat) (n s : Int), ns[j]? = some n → sizes[j]? = some s → 0 ≤ n ∧ n < s
theorem Below.snoc {ns sizes : List Int} {n s : Int} (h : Below ns sizes) (hs : sizes[ns.length]? = some s) (h0 : 0 ≤ n) (h1 : n < s) : Below (ns ++ [n]) sizes := fun j m t e1 e2 => by
  by_cases hj : j < ns.length
  · rw [List.getElem?_append_left hj] at e1
    exact h j m t e1 e2
  · have hj2 : j = ns.length := by
      have := (List.getElem?_eq_some_iff.mp e1).1
      simp only [List.length_append, List.length_cons, List.length_nil] at this
      omega
    subst hj2
    rw [List.getElem?_append_right (Nat.le_refl _), Nat.sub_self] at e1
    cases e1
    rw [hs] at e2; cases e2
    exact ⟨h0, h1⟩
def phNums : Ph := fun ds rt _ => ∃ (cell salt : Int) (sizes : List Int), ds = [.int cell, .int salt, .lst (sizes.map D.int)] ∧ (∀ s ∈ sizes, 0 < s ∧ s.natAbs.log2 < 9000) ∧ 0 ≤ salt ∧ salt ≤ 1000000 ∧ sizes.length ≤ 1000 ∧
  ∀ ns : List Int, ns.length = sizes.length → Below ns sizes → rt true (.lst (ns.map D.int))
theorem p__law_numbers (T : Txt K mg) : FnD P w K mg base 1 (He.fAd K ("_law_numbers", none)) 3 phNums := mk_law_numbers T fun cdv A outer s H E hr ds rt xs hφ hl => by
  obtain ⟨cell, salt, sizes, rfl, hs, hs0, hs1, hsz, h⟩ := hφ
  have e60 : CPow 10 18 := ⟨by decide, by decide, by decide⟩
  refine wd_cons (w_asg sc_law_numbers.nd rfl (.inl rfl) (i := 3) (ed_max2 (ed_name (i := 0) rfl rfl (.inl rfl) (ed_bin (ed_neg (ed_int ⟨1, rfl, ed_name (i := 0) rfl rfl (.inl rfl) (sub_ii ⟨_, _, rfl, rfl, ?_⟩)⟩)))) rfl T.zmax rfl))
  refine wd_cons (w_asg sc_law_numbers.nd rfl (.inl rfl) (i := 4) (ed_name (i := 3) rfl rfl (.inl rfl) ?_))
  refine wd_cons (w_asg sc_law_numbers.nd rfl (.inl rfl) (i := 5) (ed_lst (ea_nil ⟨by decide, ?_⟩)))
  have hx0 : 0 ≤ max cell (-1 - cell) := by omega
  generalize max cell (-1 - cell) = x at hx0 ⊢
  refine wd_cons (w_for rfl (ei_range1 (ed_len (ed_name (i := 2) rfl rfl (.inl rfl) ⟨_, rfl, ⟨_, rfl, by omega, by rw [List.length_map]; omega, fun i Γ => ∃ (left : Int) (ns : List Int) (o6 o7 : Option (Bool × D)),
    Γ = [some (false, .int cell), some (false, .int salt), some (false, .lst (sizes.map D.int)), some (false, .int x), some (false, .int left), some (true, .lst (ns.map D.int)), o6, o7] ∧ ns.length = i ∧ Below ns sizes ∧ 0 ≤ left,
    ⟨x, [], none, none, rfl, rfl, fun j n s e => by (cases j <;> cases e), hx0⟩, fun i d Γ' hd ⟨left, ns, o6, o7, e, hi, hb, hl0⟩ => ?_, fun Γ' ⟨left, ns, o6, o7, e, hi, hb, hl0⟩ => ?_⟩⟩) T.zlen rfl) T.zrange rfl))
  · subst e
    obtain ⟨hlt, rfl⟩ := rangeD_get hd
    rw [Int.zero_add]
    have hlt' : i < sizes.length := by
      have : i < ((sizes.map D.int).length : Int).toNat := hlt
      rw [List.length_map] at this
      omega
    obtain ⟨sz, hsz'⟩ : ∃ sz, sizes[i]? = some sz := ⟨_, List.getElem?_eq_getElem hlt'⟩
    obtain ⟨hp, hlog⟩ := hs sz (List.mem_of_getElem? hsz')
    have hat : L2.atI (sizes.map D.int) (i : Int) = some (.int sz) := atI_map D.int (at_nat hsz')
    have hl5 : (ns.map D.int).length < sizeLine := by
      rw [List.length_map, hi]
      exact Nat.lt_of_lt_of_le (Nat.lt_of_lt_of_le hlt' hsz) (by decide)
    have go : ∀ (n left' : Int) (o7' : Option (Bool × D)), 0 ≤ n → n < sz → 0 ≤ left' → ∃ (left : Int) (ns' : List Int) (o6 o7 : Option (Bool × D)),
        [some (false, D.int cell), some (false, .int salt), some (false, .lst (sizes.map D.int)), some (false, .int x), some (false, .int left'), some (true, .lst (ns.map D.int ++ [.int n])), some (false, .int (i : Int)), o7'] =
        [some (false, .int cell), some (false, .int salt), some (false, .lst (sizes.map D.int)), some (false, .int x), some (false, .int left), some (true, .lst (ns'.map D.int)), o6, o7] ∧ ns'.length = i + 1 ∧ Below ns' sizes ∧ 0 ≤ left := fun n left' o7' h0 h1 hl' =>
      ⟨left', ns ++ [n], some (false, .int (i : Int)), o7', by rw [List.map_append]; rfl, by rw [List.length_append, hi]; rfl, hb.snoc (by rw [hi]; exact hsz') h0 h1, hl'⟩
    refine td_name (i := 6) sc_law_numbers.nd rfl (.inl rfl) ?_
    refine wd_one (w_if (et_w (ew_and (et_cmp (ed_name (i := 3) rfl rfl (.inl rfl) (ed_bin (ed_int (ed_int (pow_ii e60 (ge_ii ⟨fun _ => ew_and1 (et_cmp (ed_name (i := 4) rfl rfl (.inl rfl) (ed_int (gt_ii ⟨fun _ => ?_, fun _ => ?_⟩)))), fun _ => ⟨fun e => (nomatch e), fun _ => ?_⟩⟩))))))))))
    · refine wd_cons (w_app (i := 5) rfl (.inl rfl) rfl (ed_bin (ed_name (i := 4) rfl rfl (.inl rfl) (ed_ix (ed_name (i := 2) rfl rfl (.inl rfl) (ed_name (i := 6) rfl rfl (.inl rfl) ⟨_, hat, mod_ii hp ⟨hl5, ?_⟩⟩))))))
      refine wd_one (w_asg sc_law_numbers.nd rfl (.inl rfl) (i := 4) (ed_bin (ed_name (i := 4) rfl rfl (.inl rfl) (ed_ix (ed_name (i := 2) rfl rfl (.inl rfl) (ed_name (i := 6) rfl rfl (.inl rfl) ⟨_, hat, fdiv_ii ⟨hp, hlog⟩ ?_⟩))))))
      exact go _ _ o7 (Int.emod_nonneg _ (by omega)) (Int.emod_lt_of_pos _ hp) (Int.ediv_nonneg hl0 (by omega))
    all_goals
      have hsx : (x % 2147483629 + 7919 * salt + 1).natAbs < 2 ^ 64 := by
        have h1 := Int.emod_nonneg x (show (2147483629 : Int) ≠ 0 by decide)
        have h2 := Int.emod_lt_of_pos x (show (0 : Int) < 2147483629 by decide)
        omega
      refine wd_cons <| asg 7 sc_law_numbers.nd rfl rfl <| ed_bin <| ed_bin <| ed_bin <| ed_bin <| ed_bin <| nl 3 rfl rfl rfl <| ed_int <| mod_ii (by decide) <| ed_bin <| ed_int <| nl 1 rfl rfl rfl <| mul_ii (.inl ⟨by decide, by decide⟩) <| add_ii <| ed_int <| add_ii <|
        ed_int <| pow_ii ⟨by decide, by decide, hsx⟩ <| ed_int <| mod_ii (by decide) ?_
      generalize hv1 : (_ : Int) % 2147483647 = v1
      have b1 : 0 ≤ v1 := hv1 ▸ Int.emod_nonneg _ (by decide)
      have c1 : v1 < 2147483647 := hv1 ▸ Int.emod_lt_of_pos _ (by decide)
      clear hv1
      refine wd_cons <| asg 7 sc_law_numbers.nd rfl rfl <| ed_bin <| ed_bin <| ed_bin <| nl 7 rfl rfl rfl <| ed_bin <| ed_int <| ed_bin <| nl 6 rfl rfl rfl <| ed_int <| add_ii <| mul_ii (.inl ⟨by decide, by decide⟩) <| add_ii <| ed_bin <| nl 6 rfl rfl rfl <| ed_int <| add_ii <|
        mul_ii (.inr ⟨by omega, by omega⟩) <| ed_int <| mod_ii (by decide) ?_
      generalize hv2 : (_ : Int) % 2147483629 = v2
      have b2 : 0 ≤ v2 := hv2 ▸ Int.emod_nonneg _ (by decide)
      have c2 : v2 < 2147483629 := hv2 ▸ Int.emod_lt_of_pos _ (by decide)
      clear hv2
      refine wd_cons <| asg 7 sc_law_numbers.nd rfl rfl <| ed_bin <| ed_bin <| ed_bin <| ed_bin <| nl 7 rfl rfl rfl <| ed_int <| pow_ii ⟨by decide, by decide, by omega⟩ <| ed_int <| mod_ii (by decide) <| ed_int <| mul_ii (.inr ⟨by decide, by decide⟩) <| ed_int <| mod_ii (by decide) ?_
      generalize (_ : Int) % 2147483629 = v3
      refine wd_one <| app 5 rfl (.inl rfl) rfl <| ed_bin <| ed_bin <| nl 7 rfl rfl rfl <| ed_int <| fdiv_ii ⟨by decide, by decide +kernel⟩ <| ed_ix <| nl 2 rfl rfl rfl <| nl 6 rfl rfl rfl <| ix_lst hat <| mod_ii hp ⟨hl5, ?_⟩
      exact go _ _ _ (Int.emod_nonneg _ (by omega)) (Int.emod_lt_of_pos _ hp) hl0
  · subst e
    refine wd_one (w_retO (i := 5) rfl (.inl rfl) rfl rfl (h ns ?_ hb))
    have : ns.length = ((sizes.map D.int).length : Int).toNat := by rw [hi]; exact rangeD_length _ _
    rw [List.length_map] at this
    omega
end
end Lw

namespace Lw
open PySem L2 DL TL
theorem log2_lt {n k : Nat} (h : n < 2 ^ k) (hk : 0 < k) : n.log2 < k := by
  by_cases e : n = 0
  · subst e; simpa using hk
  · exact (Nat.log2_lt e).mpr h
theorem b200 (n : Int) (h0 : 0 ≤ n) (h1 : n < 10 ^ 60) : n.natAbs < 2 ^ 200 := by
  have : (10 : Int) ^ 60 < 2 ^ 200 := by decide +kernel
  omega
/-! ### what is written is read -/
theorem numL_head : ∀ n : Nat, 1 ≤ n → ∃ c r, numL n = c :: r ∧ c ≠ 48 := by
  intro n
  induction n using Nat.strongRecOn with
  | ind n ih =>
    intro h1
    by_cases h : n < 10
    · exact ⟨48 + n, [], numL_lt h, by omega⟩
    · obtain ⟨c, r, e, hc⟩ := ih (n / 10) (by omega) (by omega)
      exact ⟨c, r ++ [48 + n % 10], by rw [numL_step (by omega), e]; rfl, hc⟩
theorem tl_int (n : Nat) : (Str.ofString (toString ((n : Nat) : Int))).cps.toList = numL n := tl_num n
theorem wN_num (n : Nat) : wN (Str.ofString (toString ((n : Nat) : Int))) = true := by
  unfold wN
  rw [tl_int]
  have ha : (numL n).all isF = true := List.all_eq_true.mpr fun c hc => isF_iff.mpr (numL_digits n c hc)
  rw [ha]
  by_cases h0 : n = 0
  · subst h0; decide +kernel
  · obtain ⟨c, r, e, hc⟩ := numL_head n (by omega)
    rw [e]
    have : decide ((⟨#[c]⟩ : Str) = "0") = false := decide_eq_false fun q => hc (by
      have := congrArg tl q
      have e48 : tl ("0" : Str) = [48] := by decide +kernel
      rw [e48] at this
      have : [c] = [48] := this
      cases this; rfl)
    simp [this]
theorem numV_num {n : Int} (h0 : 0 ≤ n) (h1 : n < 10 ^ 60) : numV (toString n : Str) = some n := by
  obtain ⟨m, rfl⟩ := Int.eq_ofNat_of_zero_le h0
  have hl : (Str.ofString (toString ((m : Nat) : Int))).length ≤ 60 := by
    rw [len_tl, tl_num]
    refine numL_len (by decide) ?_
    have : ((m : Nat) : Int) < ((10 ^ 60 : Nat) : Int) := by simpa using h1
    exact Int.ofNat_lt.mp this
  unfold numV
  rw [if_pos ⟨wN_num m, hl⟩, tl_num, numL_val]
theorem read_show {ms : List Int} (h : ∀ n ∈ ms, 0 ≤ n ∧ n < 10 ^ 60) : readN (showNs ms) = some ms := by
  by_cases h0 : ms = []
  · subst h0
    have e : showNs [] = "" := by decide +kernel
    unfold readN
    rw [if_pos e]
  · have hs : Txt.split (showNs ms) " " = ms.map fun n => (toString n : Str) := by
      refine split_join (s := 32) (S := []) blank_tl (by decide +kernel) (fun e => h0 (List.map_eq_nil_iff.mp e)) fun p hp => ?_
      obtain ⟨n, hn, rfl⟩ := List.mem_map.mp hp
      obtain ⟨m, rfl⟩ := Int.eq_ofNat_of_zero_le (h n hn).1
      show 32 ∉ tl (Str.ofString (toString ((m : Nat) : Int)))
      rw [tl_num]
      exact numL_free (.inl (by decide))
    have ne : ¬ showNs ms = "" := fun e => by
      rw [e] at hs
      have e2 : Txt.split ("" : Str) " " = [("" : Str)] := by decide +kernel
      rw [e2] at hs
      cases ms with
      | nil => exact h0 rfl
      | cons n r =>
        rw [List.map_cons] at hs
        injection hs with a b
        obtain ⟨m, rfl⟩ := Int.eq_ofNat_of_zero_le (h n List.mem_cons_self).1
        have := congrArg tl a
        have e3 : tl (Str.ofString (toString ((m : Nat) : Int))) = numL m := tl_num m
        have this : tl ("" : Str) = tl (Str.ofString (toString ((m : Nat) : Int))) := this
        rw [e3] at this
        exact numL_ne m (this.symm.trans (by decide +kernel))
    unfold readN
    rw [if_neg ne, hs]
    refine allSome_eq ?_
    rw [List.map_map]
    exact List.map_congr_left fun n hn => numV_num (h n hn).1 (h n hn).2
theorem show_len {n : Int} (h0 : 0 ≤ n) (h1 : n < 10 ^ 60) : (Str.ofString (toString n)).length ≤ 60 := by
  obtain ⟨m, rfl⟩ := Int.eq_ofNat_of_zero_le h0
  rw [len_tl]
  have e : tl (Str.ofString (toString ((m : Nat) : Int))) = numL m := tl_num m
  show (tl (Str.ofString (toString ((m : Nat) : Int)))).length ≤ 60
  rw [e]
  refine numL_len (by decide) ?_
  have : ((m : Nat) : Int) < ((10 ^ 60 : Nat) : Int) := by simpa using h1
  exact Int.ofNat_lt.mp this
theorem sum_le {l : List Nat} {b : Nat} (h : ∀ x ∈ l, x ≤ b) : l.sum ≤ l.length * b := by
  induction l with
  | nil => simp
  | cons x r ih =>
    have h1 := h x List.mem_cons_self
    have h2 := ih fun y hy => h y (List.mem_cons_of_mem _ hy)
    rw [List.sum_cons, List.length_cons, Nat.succ_mul]
    omega
theorem shows_sum {ms : List Int} (h : ∀ n ∈ ms, 0 ≤ n ∧ n < 10 ^ 60) : ((ms.map fun n => (toString n : Str)).map (·.length)).sum ≤ ms.length * 60 := by
  have := sum_le (l := (ms.map fun n => (toString n : Str)).map (·.length)) (b := 60) fun x hx => by
    obtain ⟨z, hz, rfl⟩ := List.mem_map.mp hx
    obtain ⟨n, hn, rfl⟩ := List.mem_map.mp hz
    exact show_len (h n hn).1 (h n hn).2
  rw [List.length_map, List.length_map] at this
  exact this
theorem showNs_len {ms : List Int} (h : ∀ n ∈ ms, 0 ≤ n ∧ n < 10 ^ 60) : (showNs ms).length ≤ ms.length * 60 + ms.length := by
  have h1 := StrLaws.join_length_le " " (ms.map fun n => (toString n : Str))
  have h2 := shows_sum h
  have e1 : (" " : Str).length = 1 := by decide +kernel
  rw [List.length_map, e1, Nat.mul_one] at h1
  unfold showNs
  rw [join_eq]
  omega
theorem cutS_len (z : Str) (lo hi : Option Int) : (cutS z lo hi).length ≤ z.length := by
  rw [len_tl, len_tl]
  show (((z.cps.toList.drop _).take _).toArray.toList).length ≤ _
  rw [List.toList_toArray, List.length_take, List.length_drop]
  exact Nat.le_trans (Nat.min_le_right _ _) (Nat.sub_le _ _)
theorem cutD_len {α : Type} (xs : List α) (lo hi : Option Int) : (cutD xs lo hi).length ≤ xs.length := by
  unfold cutD
  rw [List.length_take, List.length_drop]
  exact Nat.le_trans (Nat.min_le_right _ _) (Nat.sub_le _ _)
theorem app_len (a b : Str) : (a ++ b).length = a.length + b.length := by rw [len_tl, len_tl, len_tl, tl_append, List.length_append]
theorem atI_ex {α : Type} {xs : List α} {j : Int} (h0 : 0 ≤ j) (h1 : j < xs.length) : ∃ c, L2.atI xs j = some c := by
  obtain ⟨k, rfl⟩ := Int.eq_ofNat_of_zero_le h0
  have hk : k < xs.length := Int.ofNat_lt.mp h1
  exact ⟨xs[k], at_nat (List.getElem?_eq_getElem hk)⟩
theorem small_log {n : Int} (h0 : 0 ≤ n) (h1 : n < 10 ^ 60) : n.natAbs.log2 < 1920 := log2_lt (Nat.lt_of_lt_of_le (b200 n h0 h1) (by decide +kernel)) (by decide)
end Lw

namespace Lw
open PySem L2 DL TL
/-! ### tables, plainly -/
abbrev Row := Str × Str
def rowD (r : Row) : D := .tup [.str r.1, .str r.2]
def oneS (c : Nat) : Str := ⟨#[c]⟩
/-- the pieces, in turn -/
def pcs (s : Str) (rows : List Row) : List Str := (signs s) ++ rows.map fun r => r.1 ++ r.2
/-- the dict of the pieces' numbers -/
def numbered (n : Nat) : List Str → List (Key × D)
  | [] => []
  | p :: r => (.inr p, .int (n : Nat)) :: numbered (n + 1) r
def pairD (n : Nat) : List Row → List (List Key × D)
  | [] => []
  | r :: t => ([.inr r.1, .inr r.2], .int (n : Nat)) :: pairD (n + 1) t
theorem numbered_length : ∀ (ps : List Str) (n : Nat), (numbered n ps).length = ps.length
  | [], _ => rfl
  | p :: r, n => congrArg (· + 1) (numbered_length r (n + 1))
theorem pairD_length : ∀ (ps : List Row) (n : Nat), (pairD n ps).length = ps.length
  | [], _ => rfl
  | p :: r, n => congrArg (· + 1) (pairD_length r (n + 1))
theorem numbered_snoc : ∀ (ps : List Str) (n : Nat) (p : Str), numbered n (ps ++ [p]) = numbered n ps ++ [(.inr p, .int ((n + ps.length : Nat) : Int))]
  | [], n, p => rfl
  | q :: r, n, p => by
    show _ :: numbered (n + 1) (r ++ [p]) = _
    rw [numbered_snoc r (n + 1) p]
    show _ = _ :: _
    rw [show n + 1 + r.length = n + (q :: r).length from by rw [List.length_cons]; omega]
    rfl
theorem pairD_snoc : ∀ (ps : List Row) (n : Nat) (p : Row), pairD n (ps ++ [p]) = pairD n ps ++ [([.inr p.1, .inr p.2], .int ((n + ps.length : Nat) : Int))]
  | [], n, p => rfl
  | q :: r, n, p => by
    show _ :: pairD (n + 1) (r ++ [p]) = _
    rw [pairD_snoc r (n + 1) p]
    show _ = _ :: _
    rw [show n + 1 + r.length = n + (q :: r).length from by rw [List.length_cons]; omega]
    rfl
theorem numbered_keys : ∀ (ps : List Str) (n : Nat), keyD (numbered n ps) = ps.map D.str
  | [], _ => rfl
  | p :: r, n => by
    show kD (.inr p) :: keyD (numbered (n + 1) r) = _
    rw [numbered_keys r (n + 1)]; rfl
/-- a piece's number -/
def idx (p : Str) : List Str → Option Nat
  | [] => none
  | q :: r => if q = p then some 0 else (idx p r).map (· + 1)
theorem numbered_val : ∀ (ps : List Str) (n : Nat) (p : Str), valD (numbered n ps) (.inr p) = (idx p ps).map fun i => .int ((n + i : Nat) : Int)
  | [], _, _ => rfl
  | q :: r, n, p => by
    unfold valD idx
    by_cases e : q = p
    · rw [if_pos e]
      show (List.find? _ ((Sum.inr q, D.int ((n : Nat) : Int)) :: numbered (n + 1) r)).map _ = _
      rw [List.find?_cons_of_pos (by rw [e]; simp)]
      rfl
    · rw [if_neg e]
      show (List.find? _ ((Sum.inr q, D.int ((n : Nat) : Int)) :: numbered (n + 1) r)).map _ = _
      rw [List.find?_cons_of_neg (by simpa using e)]
      have := numbered_val r (n + 1) p
      unfold valD at this
      rw [this]
      cases idx p r with
      | none => rfl
      | some i =>
        show some (D.int ((n + 1 + i : Nat) : Int)) = some (D.int ((n + (i + 1) : Nat) : Int))
        rw [show n + 1 + i = n + (i + 1) from by omega]
theorem idx_none {p : Str} : ∀ {ps : List Str}, idx p ps = none ↔ p ∉ ps
  | [] => by simp [idx]
  | q :: r => by
    unfold idx
    by_cases e : q = p
    · rw [if_pos e]; simp [e]
    · rw [if_neg e, Option.map_eq_none_iff, idx_none]
      simp only [List.mem_cons, not_or]
      exact ⟨fun h => ⟨fun z => e z.symm, h⟩, fun h => h.2⟩
theorem idx_some {p : Str} : ∀ {ps : List Str} {i : Nat}, idx p ps = some i → ps[i]? = some p
  | [], i, h => by cases h
  | q :: r, i, h => by
    unfold idx at h
    by_cases e : q = p
    · rw [if_pos e] at h; cases h; rw [e]; rfl
    · rw [if_neg e] at h
      obtain ⟨j, hj, rfl⟩ := Option.map_eq_some_iff.mp h
      simpa using idx_some hj
theorem idx_at {p : Str} : ∀ {ps : List Str} {i : Nat}, ps.Nodup → ps[i]? = some p → idx p ps = some i
  | [], i, _, h => by simp at h
  | q :: r, 0, nd, h => by
    have : q = p := by simpa using h
    unfold idx; rw [if_pos this]
  | q :: r, i + 1, nd, h => by
    have h' : r[i]? = some p := by simpa using h
    unfold idx
    rw [if_neg fun z => (List.nodup_cons.mp nd).1 (by rw [z]; exact List.mem_of_getElem? h'), idx_at (List.nodup_cons.mp nd).2 h']
    rfl
theorem putD_new {κ : Type} [DecidableEq κ] {kvs : List (κ × D)} {k : κ} {v : D} (h : valD kvs k = none) : putD kvs k v = kvs ++ [(k, v)] := by
  unfold putD
  rw [if_neg]
  intro z
  obtain ⟨kv, hm, e⟩ := List.any_eq_true.mp z
  unfold valD at h
  rw [Option.map_eq_none_iff, List.find?_eq_none] at h
  exact h kv hm e
/-- may a row stand behind pieces ps -/
def okRow (ps : List Str) (r : Row) : Bool := decide (r.1 ∈ ps) && (decide (r.2 ∈ ps) && (decide (r.1.length + r.2.length ≤ 16) && !decide (r.1 ++ r.2 ∈ ps)))
/-- the first row, from n on, that may not stand -/
def badRow (ps : List Str) (n : Nat) : List Row → Option Nat
  | [] => none
  | r :: t => if okRow ps r = true then badRow (ps ++ [r.1 ++ r.2]) (n + 1) t else some n
theorem badRow_take {rows : List Row} : ∀ {ps : List Str} {n i : Nat} {r : Row}, (badRow ps n (rows.take i)) = none → rows[i]? = some r → okRow (ps ++ (rows.take i).map fun r => r.1 ++ r.2) r = true → badRow ps n (rows.take (i + 1)) = none := by
  induction rows with
  | nil => intro ps n i r _ h; simp at h
  | cons q t ih =>
    intro ps n i r h1 h2 h3
    cases i with
    | zero =>
      have : q = r := by simpa using h2
      subst this
      simp only [List.take_zero, List.map_nil, List.append_nil] at h3
      show (if okRow ps q = true then badRow _ _ ([].take 0) else some n) = none
      rw [if_pos h3]; rfl
    | succ i =>
      have h1' : (if okRow ps q = true then badRow (ps ++ [q.1 ++ q.2]) (n + 1) (t.take i) else some n) = none := h1
      by_cases e : okRow ps q = true
      · rw [if_pos e] at h1'
        show (if okRow ps q = true then badRow (ps ++ [q.1 ++ q.2]) (n + 1) (t.take (i + 1)) else some n) = none
        rw [if_pos e]
        refine ih h1' (by simpa using h2) ?_
        simpa using h3
      · rw [if_neg e] at h1'; cases h1'
theorem badRow_at {rows : List Row} : ∀ {ps : List Str} {n i : Nat} {r : Row}, (badRow ps n (rows.take i)) = none → rows[i]? = some r → okRow (ps ++ (rows.take i).map fun r => r.1 ++ r.2) r = false → badRow ps n rows = some (n + i) := by
  induction rows with
  | nil => intro ps n i r _ h; simp at h
  | cons q t ih =>
    intro ps n i r h1 h2 h3
    cases i with
    | zero =>
      have : q = r := by simpa using h2
      subst this
      simp only [List.take_zero, List.map_nil, List.append_nil] at h3
      unfold badRow
      rw [h3]; rfl
    | succ i =>
      have h1' : (if okRow ps q = true then badRow (ps ++ [q.1 ++ q.2]) (n + 1) (t.take i) else some n) = none := h1
      by_cases e : okRow ps q = true
      · rw [if_pos e] at h1'
        unfold badRow
        rw [if_pos e, ih h1' (by simpa using h2) (by simpa using h3)]
        congr 1; omega
      · rw [if_neg e] at h1'; cases h1'
end Lw

namespace Lw
open PySem L2 DL TL
/-! ### tables: the program's text -/
/-- the module's signs -/
def isSg (c : Nat) : Bool := decide (c ∈ (" !\"#$&'()*+,-./0123456789:;<=>?@ABCDEFGHIJKLMNOPQRSTUVWXYZ[\\]^_`abcdefghijklmnopqrstuvwxyz{|}~" : Str).cps.toList)
/-- the first bad sign, from n on, behind the signs seen -/
def badSign (seen : List Nat) (n : Nat) : List Nat → Option Nat
  | [] => none
  | c :: r => if (isSg c && !decide (c ∈ seen)) = true then badSign (seen ++ [c]) (n + 1) r else some n
def signErr (s : Str) : Option D := if 1 ≤ s.length ∧ s.length ≤ 12 then (badSign [] 0 s.cps.toList).map fun n => .int (n : Nat) else some .non
def tabErr (s : Str) (rows : List Row) : Option (Str × D) := match signErr s with
  | some p => some ("signs", p)
  | none => if rows.length ≤ 24 then (badRow (signs s) 0 rows).map fun n => ("rows", .int (n : Nat)) else some ("rows", .non)
def tabF (s : Str) (rows : List Row) : List (Str × D) := [("kept_signs", .str s), ("by_text", .dK (numbered 0 (pcs s rows))), ("by_pair", .dT (pairD 0 rows)), ("kept_rows", .lst (rows.map rowD)), ("kept_pieces", .lst ((pcs s rows).map D.str))]
section
variable {P : Program} {w : World} {K : PySem.W.Frag} {mg : Str → Option Value} {base : Heap}
def phSign : Ph := fun ds rt _ => ∃ c : Nat, ds = [.str (oneS c)] ∧ rt false (.bl (isSg c))
theorem p_is_sign (T : Txt K mg) : FnD P w K mg base 1 (He.fAd K ("is_sign", none)) 1 phSign := mkis_sign T fun cdv A outer s H E hr ds rt xs hφ hl => by
  obtain ⟨c, rfl, h⟩ := hφ
  obtain ⟨t, hS⟩ := T.cSIGNS
  refine wd_one <| w_ret <| ed_and <| isi_ "str" T.zisinstance T.zstr bt_str <| nl 0 rfl rfl rfl ⟨_, rfl, _, rfl, fun _ => ?_, fun e => absurd e (by decide +kernel)⟩
  refine ed_and <| ed_cmp <| len_ T.zlen <| nl 0 rfl rfl rfl ⟨_, len_str (by show 1 ≤ sizeLine; decide), ed_int <| eq_ii ⟨_, rfl, fun _ => ?_, fun e => absurd e (by show ¬ decide (((1 : Nat) : Int) = 1) = false; decide)⟩⟩
  exact ed_one <| ed_cmp <| nl 0 rfl rfl rfl <| ed_globS hS rfl <| in_ss h
def phSigns (K : PySem.W.Frag) : Ph := fun ds rt xs => ∃ s : Str, ds = [.str s] ∧ s.length ≤ sizeLine ∧ (signErr s = none → rt false .non) ∧ ∀ p, signErr s = some p → xs ⟨He.ga K "NoTable", [("number", p), ("part", .str "signs")]⟩
theorem badSign_take {l : List Nat} : ∀ {seen : List Nat} {n i c : Nat}, badSign seen n (l.take i) = none → l[i]? = some c → (isSg c && !decide (c ∈ seen ++ l.take i)) = true → badSign seen n (l.take (i + 1)) = none := by
  induction l with
  | nil => intro _ _ _ _ _ h; simp at h
  | cons q t ih =>
    intro seen n i c h1 h2 h3
    cases i with
    | zero =>
      have : q = c := by simpa using h2
      subst this
      rw [List.take_zero, List.append_nil] at h3
      show (if (isSg q && !decide (q ∈ seen)) = true then badSign _ _ ([].take 0) else some n) = none
      rw [if_pos h3]; rfl
    | succ i =>
      have h1' : (if (isSg q && !decide (q ∈ seen)) = true then badSign (seen ++ [q]) (n + 1) (t.take i) else some n) = none := h1
      by_cases e : (isSg q && !decide (q ∈ seen)) = true
      · rw [if_pos e] at h1'
        show (if (isSg q && !decide (q ∈ seen)) = true then badSign (seen ++ [q]) (n + 1) (t.take (i + 1)) else some n) = none
        rw [if_pos e]
        refine ih h1' (by simpa using h2) ?_
        rw [List.append_assoc]
        exact h3
      · rw [if_neg e] at h1'; cases h1'
theorem badSign_at {l : List Nat} : ∀ {seen : List Nat} {n i c : Nat}, badSign seen n (l.take i) = none → l[i]? = some c → (isSg c && !decide (c ∈ seen ++ l.take i)) = false → badSign seen n l = some (n + i) := by
  induction l with
  | nil => intro _ _ _ _ _ h; simp at h
  | cons q t ih =>
    intro seen n i c h1 h2 h3
    cases i with
    | zero =>
      have : q = c := by simpa using h2
      subst this
      rw [List.take_zero, List.append_nil] at h3
      unfold badSign
      rw [h3]; rfl
    | succ i =>
      have h1' : (if (isSg q && !decide (q ∈ seen)) = true then badSign (seen ++ [q]) (n + 1) (t.take i) else some n) = none := h1
      by_cases e : (isSg q && !decide (q ∈ seen)) = true
      · rw [if_pos e] at h1'
        unfold badSign
        rw [if_pos e, ih h1' (by simpa using h2) (by rw [List.append_assoc]; exact h3)]
        congr 1; omega
      · rw [if_neg e] at h1'; cases h1'
theorem cutS_head (s : Str) (i : Nat) (h : i ≤ s.length) : (cutS s none (some (i : Int))).cps.toList = s.cps.toList.take i := by
  show (((s.cps.toList.drop _).take _).toArray).toList = _
  have e1 : HT.sIx s.length 0 none = 0 := rfl
  have e2 : HT.sIx s.length s.length (some (i : Int)) = min i s.length := HT.sIx_nat _ _ _
  rw [e1, e2, List.drop_zero, Nat.sub_zero, Nat.min_eq_left h, List.toList_toArray]
theorem p_look_at_signs (T : Txt K mg) : FnD P w K mg base 4 (He.fAd K ("look_at_signs", none)) 1 (phSigns K) := mklook_at_signs T fun cdv A outer s H E hr ds rt xs hφ hl => by
  obtain ⟨z, rfl, hz, h1, h2⟩ := hφ
  obtain ⟨t, hM⟩ := T.cMOST_SIGNS
  have nd := sclook_at_signs.nd
  have hN : ∀ p, signErr z = some p → flat p = true → xs ⟨He.ga K "NoTable", [("number", p), ("part", .str "signs")]⟩ := fun p e _ => h2 p e
  refine wd_cons <| w_if <| et_w <| ew_or <| et_not <| et_val <| isi_ "str" T.zisinstance T.zstr bt_str <| nl 0 rfl rfl rfl ⟨_, rfl, _, rfl, ⟨fun _ => ?_, fun e => absurd e (by decide +kernel)⟩⟩
  have bad : ¬ (1 ≤ z.length ∧ z.length ≤ 12) → signErr z = some .non := fun e => if_neg e
  refine ew_or1 <| et_not <| et_chainI <| ed_int <| len_ T.zlen <| nl 0 rfl rfl rfl ⟨_, len_str hz, _, _, rfl, rfl, fun e1 => ed_globI hM rfl ⟨_, rfl, ⟨fun e => ?_, fun e => ?_⟩⟩, fun e1 => ⟨fun _ => ?_, fun e => (nomatch e)⟩⟩
  · have l2 : ¬ (z.length : Int) ≤ 12 := by
      have : (!decide ((z.length : Int) ≤ 12)) = true := e
      simpa using this
    refine wd_one <| w_raise (errNoTable T) rfl (hr.mono (by decide)) rfl (ea_cons <| ed_str <| ea_cons <| ed_non <| ea_nil ⟨rfl, rfl, hN _ (bad fun z => by omega) rfl⟩) (by decide)
  · have l1 : (1 : Int) ≤ z.length := of_decide_eq_true e1
    have l2 : (z.length : Int) ≤ 12 := by
      have : (!decide ((z.length : Int) ≤ 12)) = false := e
      simpa using this
    have hE : signErr z = (badSign [] 0 z.cps.toList).map fun n => .int (n : Nat) := if_pos ⟨by omega, by omega⟩
    refine wd_nil <| wd_one <| w_for rfl <| enS T.zenumerate <| nl 0 rfl rfl rfl ⟨z, rfl, fun i Γ => ∃ o1 o2 : Option (Bool × D), Γ = [some (false, .str z), o1, o2] ∧ badSign [] 0 (z.cps.toList.take i) = none, ⟨none, none, rfl, rfl⟩, fun i d Γ' hd ⟨o1, o2, e, hb⟩ => ?_, fun Γ' ⟨o1, o2, e, hb⟩ => ?_⟩
    · subst e
      obtain ⟨a, b, ha, hb', rfl⟩ := pairs_get hd
      obtain ⟨hi, rfl⟩ := rangeD_get ha
      obtain ⟨c, hc, rfl⟩ := signs_get hb'
      rw [signs_length, show z.cps.size = z.length from rfl] at hi
      rw [Int.zero_add]
      have hcut := cutS_head z i (by omega)
      refine td_two rfl <| td_name (i := 1) nd rfl (.inl rfl) <| td_name (i := 2) nd rfl (.inl rfl) ?_
      have no : (isSg c && !decide (c ∈ z.cps.toList.take i)) = false → xs ⟨He.ga K "NoTable", [("number", .int (i : Int)), ("part", .str "signs")]⟩ := fun e => h2 _ (by
        rw [hE, badSign_at hb hc (by rw [List.nil_append]; exact e), Nat.zero_add]; rfl)
      refine wd_one <| w_if <| et_w <| ew_or <| et_not <| et_val <| call_ (p_is_sign T) (hr.mono (by decide)) T.gis_sign <| ea_cons <| nl 2 rfl rfl rfl <| ea_nil ⟨rfl, c, rfl, _, rfl, ⟨fun e => ?_, fun e => ⟨fun _ => ?_, fun e => (nomatch e)⟩⟩⟩
      · refine ew_or1 <| et_cmp <| nl 2 rfl rfl rfl <| ed_slice <| nl 0 rfl rfl rfl <| eo_none <| eo_some <| nl 1 rfl rfl rfl ⟨_, rfl, by show z.length ≤ sizeLine; omega, in_ss ?_⟩
        rw [hcut]
        refine ⟨fun e2 => ?_, fun e2 => ?_⟩
        · refine wd_one <| w_raise (errNoTable T) rfl (hr.mono (by decide)) rfl (ea_cons <| ed_str <| ea_cons <| nl 1 rfl rfl rfl <| ea_nil ⟨rfl, rfl, no (by rw [e2]; simp)⟩) (by decide)
        · refine wd_nil ⟨_, _, rfl, badSign_take hb hc ?_⟩
          have e3 : isSg c = true := by simpa using e
          rw [List.nil_append, e3, e2]; rfl
      · have e3 : isSg c = false := by simpa using e
        refine wd_one <| w_raise (errNoTable T) rfl (hr.mono (by decide)) rfl (ea_cons <| ed_str <| ea_cons <| nl 1 rfl rfl rfl <| ea_nil ⟨rfl, rfl, no (by rw [e3]; rfl)⟩) (by decide)
    · subst e
      rw [pairs_length, rangeD_length, List.length_map, Nat.min_self, signs_length, show z.cps.size = z.cps.toList.length from (Array.length_toList).symm, List.take_length] at hb
      exact h1 (by rw [hE, hb]; rfl)
  · have l1 : ¬ (1 : Int) ≤ z.length := of_decide_eq_false e1
    refine wd_one <| w_raise (errNoTable T) rfl (hr.mono (by decide)) rfl (ea_cons <| ed_str <| ea_cons <| ed_non <| ea_nil ⟨rfl, rfl, hN _ (bad fun z => by omega) rfl⟩) (by decide)
def phIsRow : Ph := fun ds rt _ => ∃ (ps : List Str) (r : Row), ds = [.dK (numbered 0 ps), rowD r] ∧ (∀ p ∈ ps, p.length ≤ 1000) ∧ r.1.length ≤ 1000 ∧ r.2.length ≤ 1000 ∧ rt false (.bl (okRow ps r))
theorem num_isSome {ps : List Str} {p : Str} : (valD (numbered 0 ps) (.inr p)).isSome = decide (p ∈ ps) := by
  rw [numbered_val]
  cases e : idx p ps with
  | none => rw [decide_eq_false (idx_none.mp e)]; rfl
  | some i => rw [decide_eq_true (List.mem_of_getElem? (idx_some e))]; rfl
theorem p_is_row (T : Txt K mg) : FnD P w K mg base 1 (He.fAd K ("is_row", none)) 2 phIsRow := mkis_row T fun cdv A outer s H E hr ds rt xs hφ hl => by
  obtain ⟨ps, ⟨l, r⟩, rfl, hps, hl1, hr1, h⟩ := hφ
  dsimp only at hl1 hr1
  obtain ⟨t, hM⟩ := T.cMOST_LENGTH
  have nd := scis_row.nd
  have big : (2000 : Nat) ≤ sizeLine := by decide
  have hu : (bodyX P w K mg base Nis_row "is_row" sis_row (He.fAd K ("is_row", none)) cdv A outer s H E).A.units + 1 < cLine := hu_of hr
  refine wd_cons <| w_if <| et_w <| ew_or <| et_not <| et_val <| isi_ "tuple" T.zisinstance T.ztuple bt_tuple <| nl 1 rfl rfl rfl ⟨_, rfl, _, rfl, ⟨fun _ => ?_, fun e => absurd e (by decide +kernel)⟩⟩
  refine ew_or1 <| et_cmp <| len_ T.zlen <| nl 1 rfl rfl rfl ⟨_, rfl, ed_int <| ne_ii ⟨fun e => absurd e (by show ¬ (!decide (((2 : Nat) : Int) = 2)) = true; decide), fun _ => ?_⟩⟩
  refine wd_nil <| wd_cons <| w_asgT <| nl 1 rfl rfl rfl <| td_two rfl <| td_name (i := 2) nd rfl (.inl rfl) <| td_name (i := 3) nd rfl (.inl rfl) ?_
  refine wd_cons <| w_if <| et_w <| ew_or <| et_not <| et_val <| isi_ "str" T.zisinstance T.zstr bt_str <| nl 2 rfl rfl rfl ⟨_, rfl, _, rfl, ⟨fun _ => ?_, fun e => absurd e (by decide +kernel)⟩⟩
  refine ew_or1 <| et_not <| et_val <| isi_ "str" T.zisinstance T.zstr bt_str <| nl 3 rfl rfl rfl ⟨_, rfl, _, rfl, ⟨fun e => absurd e (by decide +kernel), fun _ => ?_⟩⟩
  refine wd_nil <| wd_cons <| w_if <| et_w <| ew_or <| et_cmp <| nl 2 rfl rfl rfl <| nl 0 rfl rfl rfl <| nin_dict hu (.k (.inr l)) ?_
  rw [num_isSome]
  refine ⟨fun e1 => ?_, fun e1 => ⟨fun _ => ?_, fun e => (nomatch e)⟩⟩
  · refine ew_or1 <| et_cmp <| nl 3 rfl rfl rfl <| nl 0 rfl rfl rfl <| nin_dict hu (.k (.inr r)) ?_
    rw [num_isSome]
    refine ⟨fun e2 => ?_, fun e2 => ?_⟩
    · refine wd_one <| w_ret <| ed_bl ?_
      have : okRow ps (l, r) = false := by
        unfold okRow
        have : decide (r ∈ ps) = false := by simpa using e2
        show (_ && (decide (r ∈ ps) && _)) = false
        rw [this]; simp
      rw [this] at h; exact h
    · have m1 : decide (l ∈ ps) = true := by simpa using e1
      have m2 : decide (r ∈ ps) = true := by simpa using e2
      have ok : okRow ps (l, r) = (decide (l.length + r.length ≤ 16) && !decide (l ++ r ∈ ps)) := by
        unfold okRow
        show (decide (l ∈ ps) && (decide (r ∈ ps) && _)) = _
        rw [m1, m2]; rfl
      rw [ok] at h
      refine wd_nil <| wd_one <| w_ret <| ed_and <| ed_cmp <| ed_bin <| len_ T.zlen <| nl 2 rfl rfl rfl ⟨_, len_str (by show l.length ≤ sizeLine; omega), len_ T.zlen <| nl 3 rfl rfl rfl ⟨_, len_str (by show r.length ≤ sizeLine; omega), add_ii <| ed_globI hM rfl <| le_ii ⟨_, rfl, fun e => ?_, fun e => ?_⟩⟩⟩
      · have e' : l.length + r.length ≤ 16 := by
          have e3 : (l.length : Int) + (r.length : Int) ≤ 16 := of_decide_eq_true e
          omega
        rw [decide_eq_true e'] at h
        refine ed_one <| ed_cmp <| ed_bin <| nl 2 rfl rfl rfl <| nl 3 rfl rfl rfl <| add_ss (by show l.length + r.length ≤ sizeLine; omega) <| nl 0 rfl rfl rfl <| nin_dict hu (.k (.inr (l ++ r))) ?_
        rw [num_isSome]
        exact h
      · have e' : ¬ l.length + r.length ≤ 16 := by
          have e3 : ¬ (l.length : Int) + (r.length : Int) ≤ 16 := of_decide_eq_false e
          omega
        rw [decide_eq_false e'] at h
        exact h
  · refine wd_one <| w_ret <| ed_bl ?_
    have : okRow ps (l, r) = false := by
      unfold okRow
      have : decide (l ∈ ps) = false := by simpa using e1
      show (decide (l ∈ ps) && _) = false
      rw [this]; rfl
    rw [this] at h; exact h
/-! ### Table(signs, rows) -/
def phTab (K : PySem.W.Frag) : PhI := fun ds rt xs => ∃ (s : Str) (rows : List Row), ds = [.str s, .lst (rows.map rowD)] ∧ s.length ≤ 100000 ∧ rows.length ≤ 1000 ∧ (∀ r ∈ rows, r.1.length ≤ 1000 ∧ r.2.length ≤ 1000) ∧ (tabErr s rows = none → rt (tabF s rows)) ∧ ∀ a p, tabErr s rows = some (a, p) → xs ⟨He.ga K "NoTable", [("number", p), ("part", .str a)]⟩
theorem badSign_nodup : ∀ {l seen : List Nat} {n : Nat}, badSign seen n l = none → (∀ c ∈ l, isSg c = true) ∧ (∀ c ∈ l, c ∉ seen) ∧ l.Nodup := by
  intro l
  induction l with
  | nil => intro _ _ _; exact ⟨fun _ h => (nomatch h), fun _ h => (nomatch h), List.nodup_nil⟩
  | cons q t ih =>
    intro seen n h
    unfold badSign at h
    by_cases e : (isSg q && !decide (q ∈ seen)) = true
    · rw [if_pos e] at h
      obtain ⟨a, b, c⟩ := ih h
      rw [Bool.and_eq_true] at e
      have e2 : q ∉ seen := by simpa using e.2
      refine ⟨fun x hx => ?_, fun x hx => ?_, List.nodup_cons.mpr ⟨fun hq => b q hq (by simp), c⟩⟩
      · rcases List.mem_cons.mp hx with h | h
        · rw [h]; exact e.1
        · exact a x h
      · rcases List.mem_cons.mp hx with h | h
        · rw [h]; exact e2
        · exact fun z => b x h (List.mem_append_left _ z)
    · rw [if_neg e] at h; cases h
theorem signs_nodup {s : Str} (h : s.cps.toList.Nodup) : (signs s).Nodup := by
  unfold signs
  unfold List.Nodup
  rw [List.pairwise_map]
  refine h.imp fun {a b} hab e => hab ?_
  have : (#[a] : Array Nat) = #[b] := by injection e
  simpa using this
theorem signErr_none {s : Str} (h : signErr s = none) : 1 ≤ s.length ∧ s.length ≤ 12 ∧ (signs s).Nodup ∧ ∀ c ∈ s.cps.toList, isSg c = true := by
  unfold signErr at h
  by_cases e : 1 ≤ s.length ∧ s.length ≤ 12
  · rw [if_pos e, Option.map_eq_none_iff] at h
    obtain ⟨a, _, c⟩ := badSign_nodup h
    exact ⟨e.1, e.2, signs_nodup c, a⟩
  · rw [if_neg e] at h; cases h
theorem pcs_take (s : Str) (rows : List Row) {i : Nat} {r : Row} (h : rows[i]? = some r) : pcs s (rows.take (i + 1)) = pcs s (rows.take i) ++ [r.1 ++ r.2] := by
  unfold pcs
  rw [take_succ h, List.map_append, List.append_assoc]; rfl
theorem okRow_len {ps : List Str} {r : Row} (h : okRow ps r = true) : (r.1 ++ r.2).length ≤ 16 ∧ r.1 ++ r.2 ∉ ps := by
  unfold okRow at h
  simp only [Bool.and_eq_true, decide_eq_true_eq, Bool.not_eq_true', decide_eq_false_iff_not] at h
  have : (r.1 ++ r.2).length = r.1.length + r.2.length := by rw [len_tl, len_tl, len_tl, tl_append, List.length_append]
  exact ⟨by rw [this]; exact h.2.2.1, h.2.2.2⟩
theorem pair_new {ps : List Str} : ∀ {rows : List Row} {n : Nat} {r : Row}, (∀ q ∈ rows, q.1 ++ q.2 ∈ ps) → r.1 ++ r.2 ∉ ps → valD (pairD n rows) [.inr r.1, .inr r.2] = none := by
  intro rows
  induction rows with
  | nil => intro _ _ _ _; rfl
  | cons q t ih =>
    intro n r h1 h2
    have hne : ¬ ([Sum.inr q.1, Sum.inr q.2] : List Key) = [.inr r.1, .inr r.2] := fun e => h2 (by
      injection e with e1 e2
      injection e2 with e2 _
      injection e1 with e1
      injection e2 with e2
      rw [← e1, ← e2]
      exact h1 q List.mem_cons_self)
    unfold valD
    show (List.find? _ (([Sum.inr q.1, Sum.inr q.2], D.int ((n : Nat) : Int)) :: pairD (n + 1) t)).map _ = none
    rw [List.find?_cons_of_neg (by simpa using hne)]
    exact ih (n := n + 1) (fun z hz => h1 z (List.mem_cons_of_mem _ hz)) h2
theorem p_Table_init (T : Txt K mg) : FnI P w K mg base 6 (He.fAd K ("Table", some "__init__")) (He.ga K "Table") 2 (phTab K) := mkTable_init T fun cdv A outer s H E hr x ds rt xs hφ hl => by
  obtain ⟨z, rows, rfl, hz, hrl, hrs, h1, h2⟩ := hφ
  obtain ⟨t, hM⟩ := T.cMOST_ROWS
  have nd := scTable_init.nd
  have big : (200000 : Nat) ≤ sizeLine := by decide
  have hu : (bodyX P w K mg base NTable_init "Table.__init__" sTable_init (He.fAd K ("Table", some "__init__")) cdv A outer s H E).A.units + 1 < cLine := hu_of hr
  -- look_at_signs(signs)
  refine wd_cons <| w_expr <| call_ (p_look_at_signs T) (hr.mono (by decide)) T.glook_at_signs <| ea_cons <| nl 1 rfl rfl rfl <| ea_nil ⟨rfl, z, rfl, by omega, fun e => ?_, fun p e => h2 _ _ (by unfold tabErr; rw [e])⟩
  obtain ⟨q1, q2, q3, q4⟩ := signErr_none e
  have hE : tabErr z rows = if rows.length ≤ 24 then (badRow (signs z) 0 rows).map fun n => (("rows" : Str), D.int (n : Nat)) else some (("rows" : Str), .non) := by unfold tabErr; rw [e]
  -- the rows' number
  refine wd_cons <| w_if <| et_w <| ew_or <| et_not <| et_val <| isi_ "list" T.zisinstance T.zlist bt_list <| nl 2 rfl rfl rfl ⟨_, rfl, _, rfl, ⟨fun _ => ?_, fun e => absurd e (by decide +kernel)⟩⟩
  refine ew_or1 <| et_cmp <| len_ T.zlen <| nl 2 rfl rfl rfl ⟨_, rfl, ed_globI hM rfl <| gt_ii ⟨fun e => ?_, fun e => ?_⟩⟩
  · have e' : (24 : Int) < ((rows.map rowD).length : Nat) := of_decide_eq_true e
    rw [List.length_map] at e'
    refine wd_one <| w_raise (errNoTable T) rfl (hr.mono (by decide)) rfl (ea_cons <| ed_str <| ea_cons <| ed_non <| ea_nil ⟨rfl, rfl, h2 _ _ ?_⟩) (by decide)
    rw [hE, if_neg (by omega)]
  have e' : ¬ (24 : Int) < ((rows.map rowD).length : Nat) := of_decide_eq_false e
  rw [List.length_map] at e'
  rw [if_pos (by omega)] at hE
  -- self.kept_signs = signs; self.by_text = {}
  refine wd_nil <| wd_cons <| w_fld 0 T.kTable T.nTable_kept_signs rfl (.inl rfl) rfl (by decide) <| nl 1 rfl rfl rfl ?_
  refine wd_fldG 0 7 T.kTable T.nTable_by_text rfl (.inl rfl) rfl (by show 1 < 1000; decide) rfl (not_vis rfl) (by decide) rfl <| ed_dnewK ⟨rfl, fun q => ?_⟩
  have zz : (signs z).length = z.length := signs_length z
  have sl : ∀ p ∈ signs z, p.length ≤ 1000 := fun p hp => by
    unfold signs at hp
    obtain ⟨c, _, rfl⟩ := List.mem_map.mp hp
    show 1 ≤ 1000
    decide
  refine wd_cons <| w_for rfl <| enS T.zenumerate <| nl 1 rfl rfl rfl ⟨z, rfl, fun i Γ => ∃ o3 o4 : Option (Bool × D), Γ = [some (true, .adr x (.ins (He.ga K "Table") [("kept_signs", .str z), ("by_text", .ref q)])), some (false, .str z), some (false, .lst (rows.map rowD)), o3, o4, none, none,
    some (true, .adr q (.dK (numbered 0 ((signs z).take i)))), none], ⟨none, none, rfl⟩, fun i d Γ' hd ⟨o3, o4, e⟩ => ?_, fun Γ' ⟨o3, o4, e⟩ => ?_⟩
  · subst e
    obtain ⟨a, b, ha, hb, rfl⟩ := pairs_get hd
    obtain ⟨hi, rfl⟩ := rangeD_get ha
    obtain ⟨p, hp, rfl⟩ := map_get hb
    rw [Int.zero_add]
    refine td_two rfl <| td_name (i := 3) nd rfl (.inl rfl) <| td_name (i := 4) nd rfl (.inl rfl) ?_
    have hnew : valD (numbered 0 ((signs z).take i)) (.inr p) = none := by
      rw [numbered_val, idx_none.mpr]
      · rfl
      · intro hm
        have := (List.getElem?_eq_some_iff.mp hp).1
        have nd2 : ((signs z).take (i + 1)).Nodup := q3.sublist (List.take_sublist _ _)
        rw [take_succ hp] at nd2
        exact (List.nodup_append.mp nd2).2.2 _ hm _ (List.mem_singleton.mpr rfl) rfl
    refine wd_one <| w_dputF 0 7 T.kTable T.nTable_by_text hu rfl (.inl rfl) rfl rfl rfl <| nl 3 rfl rfl rfl <| nl 4 rfl rfl rfl ⟨_, .k (.inr p) _ ?_, some (false, .int (i : Int)), some (false, .str p), ?_⟩
    · rw [numbered_length, List.length_take]; omega
    · rw [putD_new hnew, take_succ hp, numbered_snoc, List.length_take, Nat.zero_add, Nat.min_eq_left (Nat.le_of_lt (List.getElem?_eq_some_iff.mp hp).1)]
      rfl
  · subst e
    rw [pairs_length, rangeD_length, List.length_map, Nat.min_self, List.take_length]
    refine wd_fldG 0 8 T.kTable T.nTable_by_pair rfl (.inl rfl) rfl (by show 2 < 1000; decide) rfl (not_vis rfl) (by decide) rfl <| ed_dnewT ⟨rfl, fun q2 => ?_⟩
    refine wd_cons <| w_for rfl <| enL T.zenumerate <| nl 2 rfl rfl rfl ⟨_, rfl, fun i Γ => ∃ o3 o4 o5 o6 : Option (Bool × D), Γ = [some (true, .adr x (.ins (He.ga K "Table") [("kept_signs", .str z), ("by_text", .ref q), ("by_pair", .ref q2)])), some (false, .str z), some (false, .lst (rows.map rowD)), o3, o4, o5, o6,
      some (true, .adr q (.dK (numbered 0 (pcs z (rows.take i))))), some (true, .adr q2 (.dT (pairD 0 (rows.take i))))] ∧ badRow (signs z) 0 (rows.take i) = none ∧ ∀ p ∈ pcs z (rows.take i), p.length ≤ 1000,
      ⟨o3, o4, none, none, (by unfold pcs; rw [List.take_zero, List.map_nil, List.append_nil]; rfl), rfl, fun p hp => sl p (by simpa [pcs] using hp)⟩, fun i d Γ' hd ⟨o3, o4, o5, o6, e, hbad, hps⟩ => ?_, fun Γ' ⟨o3, o4, o5, o6, e, hbad, hps⟩ => ?_⟩
    · subst e
      obtain ⟨a, b, ha, hb, rfl⟩ := pairs_get hd
      obtain ⟨hi, rfl⟩ := rangeD_get ha
      obtain ⟨⟨l, r⟩, hr1, rfl⟩ := map_get hb
      rw [Int.zero_add]
      have hi2 : i < rows.length := (List.getElem?_eq_some_iff.mp hr1).1
      obtain ⟨hl1, hr2⟩ := hrs (l, r) (List.mem_of_getElem? hr1)
      dsimp only at hl1 hr2
      refine td_two rfl <| td_name (i := 5) nd rfl (.inl rfl) <| td_name (i := 6) nd rfl (.inl rfl) ?_
      refine wd_cons <| w_if <| et_not <| et_val <| call_ (p_is_row T) (hr.mono (by decide)) T.gis_row <| ea_cons <| ed_at 7 rfl <| fld T.kTable T.nTable_by_text <| na 0 rfl rfl rfl ⟨rfl, rfl, rfl, ea_cons <| nl 6 rfl rfl rfl <| ea_nil ⟨rfl, _, (l, r), rfl, hps, hl1, hr2, _, rfl, ⟨fun e => ?_, fun e => ?_⟩⟩⟩
      · have e2 : okRow (pcs z (rows.take i)) (l, r) = false := by simpa using e
        refine wd_one <| w_raise (errNoTable T) rfl (hr.mono (by decide)) rfl (ea_cons <| ed_str <| ea_cons <| nl 5 rfl rfl rfl <| ea_nil ⟨rfl, rfl, h2 _ _ ?_⟩) (by decide)
        rw [hE, badRow_at hbad hr1 e2, Nat.zero_add]; rfl
      · have e2 : okRow (pcs z (rows.take i)) (l, r) = true := by simpa using e
        obtain ⟨k1, k2⟩ := okRow_len e2
        dsimp only at k1 k2
        have hin : ∀ qq ∈ rows.take i, qq.1 ++ qq.2 ∈ pcs z (rows.take i) := fun qq hq => List.mem_append_right _ (List.mem_map.mpr ⟨qq, hq, rfl⟩)
        refine wd_nil <| wd_cons <| w_dputF 0 8 T.kTable T.nTable_by_pair hu rfl (.inl rfl) rfl rfl rfl <| nl 5 rfl rfl rfl <| nl 6 rfl rfl rfl ⟨_, .t [.inr l, .inr r] _ (by rw [pairD_length, List.length_take]; omega), ?_⟩
        rw [putD_new (pair_new (r := (l, r)) hin k2)]
        refine wd_one <| w_dputF 0 7 T.kTable T.nTable_by_text hu rfl (.inl rfl) rfl rfl rfl <| ed_bin <| len_ T.zlen <| nl 1 rfl rfl rfl ⟨_, len_str (by omega), nl 5 rfl rfl rfl <| add_ii <| ed_bin <| ed_ix <| nl 6 rfl rfl rfl <| ed_int <| ix_tup rfl <| ed_ix <| nl 6 rfl rfl rfl <| ed_int <| ix_tup rfl <|
          add_ss (by show l.length + r.length ≤ sizeLine; omega) ⟨_, .k (.inr (l ++ r)) _ ?_, o3, o4, some (false, .int (i : Int)), some (false, rowD (l, r)), ?_, ?_, ?_⟩⟩
        · rw [numbered_length]; unfold pcs; rw [List.length_append, List.length_map, List.length_take, zz]; omega
        · rw [putD_new (by rw [numbered_val, idx_none.mpr k2]; rfl), pcs_take z rows hr1, numbered_snoc, take_succ hr1, pairD_snoc, List.length_take, Nat.min_eq_left (Nat.le_of_lt hi2)]
          have e3 : (((0 + (pcs z (rows.take i)).length : Nat)) : Int) = (z.length : Int) + (i : Int) := by
            unfold pcs; rw [List.length_append, List.length_map, List.length_take, zz]; omega
          rw [e3, Nat.zero_add]
          rfl
        · exact badRow_take hbad hr1 e2
        · intro p hp
          rw [pcs_take z rows hr1] at hp
          rcases List.mem_append.mp hp with h | h
          · exact hps p h
          · rw [List.mem_singleton.mp h]
            show (l ++ r).length ≤ 1000
            omega
    · subst e
      rw [pairs_length, rangeD_length, List.length_map, Nat.min_self, List.take_length] at hbad ⊢
      have hx : ∀ (Γ0 : En) (i : Nat), i ≠ 0 → (∃ e, Γ0[0]? = some (some (true, .adr x e))) → ∀ a ∈ [x], ∃ j e, j ≠ i ∧ Γ0[j]? = some (some (true, .adr a e)) := fun Γ0 i hi ⟨e, h⟩ a ha => by
        rw [List.mem_singleton.mp ha]; exact ⟨0, e, Ne.symm hi, h⟩
      refine wd_cons <| w_fld 0 T.kTable T.nTable_kept_rows rfl (.inl rfl) rfl (by show 3 < 1000; decide) <| list_ T.zlist <| nl 2 rfl rfl rfl ⟨_, .inl rfl, ?_⟩
      refine wd_knowL 7 rfl ?_ (hx _ 7 (by decide) ⟨_, rfl⟩)
      refine wd_link 0 7 rfl rfl (f := "by_text") rfl ?_
      refine wd_knowL 8 rfl ?_ (hx _ 8 (by decide) ⟨_, rfl⟩)
      refine wd_link 0 8 rfl rfl (f := "by_pair") rfl ?_
      refine wd_one <| w_fld 0 T.kTable T.nTable_kept_pieces rfl (.inl rfl) rfl (by show 4 < 1000; decide) <| list_dK T.zlist <| fldO 0 T.kTable T.nTable_by_text rfl rfl (.inl rfl) rfl ⟨_, rfl, _, rfl, ?_⟩
      rw [numbered_keys]
      exact h1 (by rw [hE, hbad]; rfl)
end
end Lw

namespace Lw
open PySem L2 DL TL
def tabD (K : PySem.W.Frag) (s : Str) (rows : List Row) : D := .ins (He.ga K "Table") (tabF s rows)
theorem badRow_rows {rows : List Row} : ∀ {ps : List Str} {n : Nat}, badRow ps n rows = none → ∀ r ∈ rows, r.1 ∈ ps ++ rows.map (fun r => r.1 ++ r.2) ∧ r.2 ∈ ps ++ rows.map (fun r => r.1 ++ r.2) ∧ r.1.length + r.2.length ≤ 16 := by
  induction rows with
  | nil => intro _ _ _ r h; cases h
  | cons q t ih =>
    intro ps n h r hr
    unfold badRow at h
    by_cases e : okRow ps q = true
    · rw [if_pos e] at h
      have hh := ih h
      rcases List.mem_cons.mp hr with h2 | h2
      · subst h2
        unfold okRow at e
        simp only [Bool.and_eq_true, decide_eq_true_eq] at e
        exact ⟨List.mem_append_left _ e.1, List.mem_append_left _ e.2.1, e.2.2.1⟩
      · obtain ⟨a, b, c⟩ := hh r h2
        rw [List.append_assoc] at a b
        exact ⟨a, b, c⟩
    · rw [if_neg e] at h; cases h
theorem tabErr_none {s : Str} {rows : List Row} (h : tabErr s rows = none) : signErr s = none ∧ rows.length ≤ 24 ∧ badRow (signs s) 0 rows = none := by
  unfold tabErr at h
  cases e : signErr s with
  | some p => rw [e] at h; cases h
  | none =>
    rw [e] at h
    by_cases e2 : rows.length ≤ 24
    · have h : (if rows.length ≤ 24 then (badRow (signs s) 0 rows).map fun n => (("rows" : Str), D.int (n : Nat)) else some (("rows" : Str), .non)) = none := h
      rw [if_pos e2, Option.map_eq_none_iff] at h
      exact ⟨rfl, e2, h⟩
    · have h : (if rows.length ≤ 24 then (badRow (signs s) 0 rows).map fun n => (("rows" : Str), D.int (n : Nat)) else some (("rows" : Str), .non)) = none := h
      rw [if_neg e2] at h; cases h
theorem tab_rows {s : Str} {rows : List Row} (h : tabErr s rows = none) : ∀ r ∈ rows, r.1 ∈ pcs s rows ∧ r.2 ∈ pcs s rows ∧ r.1.length + r.2.length ≤ 16 := badRow_rows (tabErr_none h).2.2
theorem pcs_length (s : Str) (rows : List Row) : (pcs s rows).length = s.length + rows.length := by
  unfold pcs; rw [List.length_append, List.length_map, signs_length]; rfl
theorem tab_small {s : Str} {rows : List Row} (h : tabErr s rows = none) : s.length ≤ 12 ∧ rows.length ≤ 24 ∧ (pcs s rows).length ≤ 36 := by
  obtain ⟨a, b, _⟩ := tabErr_none h
  have := (signErr_none a).2.1
  exact ⟨this, b, by rw [pcs_length]; omega⟩
theorem idx_lt {p : Str} {ps : List Str} (h : p ∈ ps) : ∃ i, idx p ps = some i ∧ i < ps.length := by
  cases e : idx p ps with
  | none => exact absurd h (idx_none.mp e)
  | some i => exact ⟨i, rfl, (List.getElem?_eq_some_iff.mp (idx_some e)).1⟩
theorem pcs_len {s : Str} {rows : List Row} (h : tabErr s rows = none) : ∀ p ∈ pcs s rows, p.length ≤ 16 := by
  intro p hp
  unfold pcs at hp
  rcases List.mem_append.mp hp with h1 | h1
  · unfold signs at h1
    obtain ⟨c, _, rfl⟩ := List.mem_map.mp h1
    show 1 ≤ 16
    decide
  · obtain ⟨r, hr, rfl⟩ := List.mem_map.mp h1
    rw [app_len]
    exact (tab_rows h r hr).2.2
section
variable {P : Program} {w : World} {K : PySem.W.Frag} {mg : Str → Option Value} {base : Heap}
def phTs (K : PySem.W.Frag) : Ph := fun ds rt _ => ∃ (s : Str) (rows : List Row), ds = [tabD K s rows] ∧ rt false (.str s)
def phTr (K : PySem.W.Frag) : Ph := fun ds rt _ => ∃ (s : Str) (rows : List Row), ds = [tabD K s rows] ∧ rt true (.lst (rows.map rowD))
def phTp (K : PySem.W.Frag) : Ph := fun ds rt _ => ∃ (s : Str) (rows : List Row), ds = [tabD K s rows] ∧ rt true (.lst ((pcs s rows).map D.str))
def phTw (K : PySem.W.Frag) : Ph := fun ds rt _ => ∃ (s : Str) (rows : List Row) (p : Str), ds = [tabD K s rows, .str p] ∧ rt false (((idx p (pcs s rows)).map fun i => D.int (i : Nat)).getD .non)
theorem p_Table_signs (T : Txt K mg) : FnD P w K mg base 1 (He.fAd K ("Table", some "signs")) 1 (phTs K) := mkTable_signs T fun cdv A outer s H E hr ds rt xs hφ hl => by
  obtain ⟨z, rows, rfl, h⟩ := hφ
  exact wd_one <| w_ret <| fld T.kTable T.nTable_kept_signs <| nl 0 rfl rfl rfl ⟨rfl, rfl, h⟩
theorem p_Table_rows (T : Txt K mg) : FnD P w K mg base 1 (He.fAd K ("Table", some "rows")) 1 (phTr K) := mkTable_rows T fun cdv A outer s H E hr ds rt xs hφ hl => by
  obtain ⟨z, rows, rfl, h⟩ := hφ
  exact wd_one <| w_ret <| list_ T.zlist <| fld T.kTable T.nTable_kept_rows <| nl 0 rfl rfl rfl ⟨rfl, rfl, _, .inl rfl, h⟩
theorem p_Table_pieces (T : Txt K mg) : FnD P w K mg base 1 (He.fAd K ("Table", some "pieces")) 1 (phTp K) := mkTable_pieces T fun cdv A outer s H E hr ds rt xs hφ hl => by
  obtain ⟨z, rows, rfl, h⟩ := hφ
  exact wd_one <| w_ret <| list_ T.zlist <| fld T.kTable T.nTable_kept_pieces <| nl 0 rfl rfl rfl ⟨rfl, rfl, _, .inl rfl, h⟩
theorem p_Table_which (T : Txt K mg) : FnD P w K mg base 1 (He.fAd K ("Table", some "which")) 2 (phTw K) := mkTable_which T fun cdv A outer s H E hr ds rt xs hφ hl => by
  obtain ⟨z, rows, p, rfl, h⟩ := hφ
  refine wd_cons <| w_if <| et_not <| et_val <| isi_ "str" T.zisinstance T.zstr bt_str <| nl 1 rfl rfl rfl ⟨_, rfl, _, rfl, ⟨fun e => absurd e (by decide +kernel), fun _ => ?_⟩⟩
  refine wd_nil <| wd_one <| w_ret <| ed_dget1 (fld T.kTable T.nTable_by_text <| nl 0 rfl rfl rfl ⟨rfl, rfl, rfl, nl 1 rfl rfl rfl ⟨_, .k (.inr p), ?_⟩⟩) (hu_of hr)
  rw [numbered_val]
  have e : ((idx p (pcs z rows)).map fun i => D.int ((0 + i : Nat) : Int)) = (idx p (pcs z rows)).map fun i => D.int (i : Nat) := by
    cases idx p (pcs z rows) with
    | none => rfl
    | some i => simp
  rw [e]
  exact h
end
end Lw

namespace Lw
open PySem L2 DL TL
/-! ### the law's tables -/
theorem nodup_le {α : Type} [DecidableEq α] : ∀ {l m : List α}, l.Nodup → (∀ x ∈ l, x ∈ m) → l.length ≤ m.length
  | [], _, _, _ => Nat.zero_le _
  | x :: r, m, nd, h => by
    have hx := h x List.mem_cons_self
    obtain ⟨n1, n2⟩ := List.nodup_cons.mp nd
    have := nodup_le (l := r) (m := m.erase x) n2 fun y hy => (List.mem_erase_of_ne fun e => n1 (by rw [← e]; exact hy)).mpr (h y (List.mem_cons_of_mem _ hy))
    rw [List.length_erase_of_mem hx] at this
    have hp : 0 < m.length := List.length_pos_of_mem hx
    rw [List.length_cons]
    omega
def allS : List Nat := (" !\"#$&'()*+,-./0123456789:;<=>?@ABCDEFGHIJKLMNOPQRSTUVWXYZ[\\]^_`abcdefghijklmnopqrstuvwxyz{|}~" : Str).cps.toList
theorem isSg_iff {c : Nat} : isSg c = true ↔ c ∈ allS := by unfold isSg allS; exact decide_eq_true_iff
theorem allS_len : allS.length = 94 := by decide +kernel
theorem allS_nodup : allS.Nodup := by decide +kernel
theorem badSign_ok : ∀ {l seen : List Nat} {n : Nat}, (∀ c ∈ l, isSg c = true) → (∀ c ∈ l, c ∉ seen) → l.Nodup → badSign seen n l = none := by
  intro l
  induction l with
  | nil => intros; rfl
  | cons q t ih =>
    intro seen n h1 h2 h3
    obtain ⟨n1, n2⟩ := List.nodup_cons.mp h3
    unfold badSign
    rw [h1 q List.mem_cons_self, decide_eq_false (h2 q List.mem_cons_self)]
    refine (if_pos rfl).trans (ih (fun c hc => h1 c (List.mem_cons_of_mem _ hc)) (fun c hc hm => ?_) n2)
    rcases List.mem_append.mp hm with h | h
    · exact h2 c (List.mem_cons_of_mem _ hc) h
    · rw [List.mem_singleton.mp h] at hc; exact n1 hc
theorem signErr_ok {s : Str} (h0 : 1 ≤ s.length) (h1 : s.length ≤ 12) (h2 : ∀ c ∈ s.cps.toList, isSg c = true) (h3 : s.cps.toList.Nodup) : signErr s = none := by
  unfold signErr
  rw [if_pos ⟨h0, h1⟩, badSign_ok h2 (fun _ _ => List.not_mem_nil) h3]; rfl
section
variable {P : Program} {w : World} {K : PySem.W.Frag} {mg : Str → Option Value} {base : Heap}
def phLawSigns : Ph := fun ds rt _ => ∃ ns : List Int, ds = [.lst (ns.map D.int)] ∧ 1 ≤ ns.length ∧ ns.length ≤ 12 ∧ (∀ n ∈ ns, 0 ≤ n ∧ n < 94) ∧ ∀ s : Str, signErr s = none → s.length = ns.length → rt false (.str s)
theorem cut_rot (z : Str) (n : Int) (h0 : 0 ≤ n) : (cutS z (some n) none).cps.toList = z.cps.toList.drop n.toNat ∧ (cutS z none (some n)).cps.toList = z.cps.toList.take n.toNat := by
  obtain ⟨k, rfl⟩ := Int.eq_ofNat_of_zero_le h0
  have hl : z.length = z.cps.toList.length := len_tl z
  constructor
  · show (((z.cps.toList.drop _).take _).toArray).toList = _
    have e1 : HT.sIx z.length 0 (some (k : Int)) = min k z.length := HT.sIx_nat _ _ _
    have e2 : HT.sIx z.length z.length none = z.length := rfl
    rw [e1, e2, List.toList_toArray, hl]
    by_cases hk : k ≤ z.cps.toList.length
    · rw [Nat.min_eq_left hk, List.take_of_length_le (by rw [List.length_drop]; exact Nat.le_refl _)]; rfl
    · rw [Nat.min_eq_right (by omega), List.drop_length, List.take_nil, List.drop_eq_nil_of_le (by show z.cps.toList.length ≤ k; omega)]
  · show (((z.cps.toList.drop _).take _).toArray).toList = _
    have e1 : HT.sIx z.length 0 none = 0 := rfl
    have e2 : HT.sIx z.length z.length (some (k : Int)) = min k z.length := HT.sIx_nat _ _ _
    rw [e1, e2, List.toList_toArray, List.drop_zero, Nat.sub_zero, hl]
    by_cases hk : k ≤ z.cps.toList.length
    · rw [Nat.min_eq_left hk]; rfl
    · rw [Nat.min_eq_right (by omega), List.take_length, List.take_of_length_le (by show z.cps.toList.length ≤ k; omega)]
theorem p__law_signs (T : Txt K mg) : FnD P w K mg base 1 (He.fAd K ("_law_signs", none)) 1 phLawSigns := mk_law_signs T fun cdv A outer s H E hr ds rt xs hφ hl => by
  obtain ⟨ns, rfl, hn0, hn1, hns, h⟩ := hφ
  have nd := sc_law_signs.nd
  have big : (2000 : Nat) ≤ sizeLine := by decide
  refine wd_cons <| asg 1 nd rfl rfl <| ed_str ?_
  refine wd_cons <| asg 1 nd rfl rfl <| ed_bin <| nl 1 rfl rfl rfl <| ed_str <| add_ss (by decide +kernel) ?_
  generalize hsome : (Str.ofString _ ++ Str.ofString _ : Str) = some_
  have hS : some_.cps.toList = allS := by rw [← hsome]; decide +kernel
  have hS2 : some_.length = 94 := by
    rw [len_tl]
    show some_.cps.toList.length = 94
    rw [hS]; exact allS_len
  clear hsome
  have e0 : ("" : Str).cps.toList = [] := by decide +kernel
  refine wd_cons <| asgc 2 nd rfl rfl rfl <| ed_str ?_
  refine wd_cons <| w_for rfl <| ei_list <| nl 0 rfl rfl rfl <| .inl ⟨_, rfl, fun i Γ => ∃ (sh : Str) (o3 o4 : Option (Bool × D)), Γ = [some (false, .lst (ns.map D.int)), some (false, .str some_), some (false, .str sh), o3, o4, none] ∧ sh.length = i ∧ (∀ c ∈ sh.cps.toList, c ∈ allS) ∧ sh.cps.toList.Nodup,
    ⟨"", none, none, rfl, by decide +kernel, fun c hc => (by rw [e0] at hc; cases hc), (by rw [e0]; exact List.nodup_nil)⟩, fun i d Γ' hd ⟨sh, o3, o4, e, hi, hsub, hnd⟩ => ?_, fun Γ' ⟨sh, o3, o4, e, hi, hsub, hnd⟩ => ?_⟩
  · subst e
    obtain ⟨n, hn, rfl⟩ := map_get hd
    obtain ⟨n0, n94⟩ := hns n (List.mem_of_getElem? hn)
    have hi2 : i < ns.length := (List.getElem?_eq_some_iff.mp hn).1
    obtain ⟨c1, c2⟩ := cut_rot some_ n n0
    have l1 := cutS_len some_ (some n) none
    have l2 := cutS_len some_ none (some n)
    refine td_name (i := 3) nd rfl (.inl rfl) ?_
    refine wd_cons <| asg 4 nd rfl rfl <| ed_bin <| ed_slice <| nl 1 rfl rfl rfl <| eo_some <| nl 3 rfl rfl rfl ⟨_, rfl, eo_none ⟨by omega, ed_slice <| nl 1 rfl rfl rfl <| eo_none <| eo_some <| nl 3 rfl rfl rfl ⟨_, rfl, by omega, add_ss (by omega) ?_⟩⟩⟩
    generalize htu : cutS some_ (some n) none ++ cutS some_ none (some n) = tu
    have htl : tu.cps.toList = allS.drop n.toNat ++ allS.take n.toNat := by
      rw [← htu, ← hS, ← c1, ← c2]; exact tl_append _ _
    have hmem : ∀ c, c ∈ tu.cps.toList ↔ c ∈ allS := fun c => by
      rw [htl, List.mem_append]
      conv => rhs; rw [← List.take_append_drop n.toNat allS, List.mem_append]
      exact Or.comm
    have htlen : tu.length ≤ 94 := by rw [len_tl, show tl tu = _ from htl, List.length_append, List.length_drop, List.length_take, allS_len]; omega
    clear htu
    refine wd_one <| asgc 2 nd rfl rfl rfl <| ed_bin <| nc 2 rfl rfl rfl <| ed_ix <| ed_lc (own := [("_law_sign", 5)]) rfl nd (blkOk_by rfl) <| ei_str <| nl 4 rfl rfl rfl ⟨tu, rfl, fun j acc => acc = (((tu.cps.toList.take j).filter fun c => !decide (c ∈ sh.cps.toList)).map oneS).map D.str, rfl, fun j d acc hd hI s0 H0 C cl fp xe => ?_, fun acc hI => ?_⟩
    · obtain ⟨c, hc, rfl⟩ := signs_get hd
      refine tc_name (i := 5) nd rfl (.inl rfl) (by simp) <| ets_one <| et_cmp <| nl 5 rfl rfl rfl <| nc 2 rfl rfl rfl <| nin_ss ⟨fun e => ?_, fun e => ?_⟩
      · refine nl 5 rfl rfl rfl ⟨?_, ?_⟩
        · rw [hI, List.length_map, List.length_map]
          have := List.length_filter_le (fun c => !decide (c ∈ sh.cps.toList)) (tu.cps.toList.take j)
          rw [List.length_take, ← len_tl] at this
          omega
        · dsimp only at hI ⊢
          rw [hI, take_succ hc, List.filter_append, List.map_append, List.map_append, List.filter_cons_of_pos (p := fun c => !decide (c ∈ sh.cps.toList)) e]
          rfl
      · dsimp only at hI ⊢
        rw [hI, take_succ hc, List.filter_append, List.map_append, List.map_append, List.filter_cons_of_neg (p := fun c => !decide (c ∈ sh.cps.toList)) (by rw [e]; exact Bool.false_ne_true)]
        simp
    · rw [List.length_map, signs_length, show tu.cps.size = tu.cps.toList.length from (Array.length_toList).symm, List.take_length] at hI
      obtain ⟨c, hc1, hc2⟩ : ∃ c ∈ allS, c ∉ sh.cps.toList := by
        refine Classical.byContradiction fun hno => ?_
        have := nodup_le allS_nodup (m := sh.cps.toList) fun x hx => Classical.byContradiction fun hx2 => hno ⟨x, hx, hx2⟩
        rw [allS_len, ← len_tl] at this
        omega
      have hne : (tu.cps.toList.filter fun c => !decide (c ∈ sh.cps.toList)) ≠ [] := fun e => by
        have : c ∈ tu.cps.toList.filter fun c => !decide (c ∈ sh.cps.toList) := List.mem_filter.mpr ⟨(hmem c).mpr hc1, by simpa using hc2⟩
        rw [e] at this; cases this
      cases q : (tu.cps.toList.filter fun c => !decide (c ∈ sh.cps.toList)) with
      | nil => exact absurd q hne
      | cons b r =>
        rw [q] at hI
        have hb : b ∈ tu.cps.toList.filter fun c => !decide (c ∈ sh.cps.toList) := by rw [q]; exact List.mem_cons_self
        obtain ⟨hb1, hb2⟩ := List.mem_filter.mp hb
        have hb2 : b ∉ sh.cps.toList := by simpa using hb2
        refine ed_int <| hI ▸ ix_lst (d := .str (oneS b)) (atI_map D.str (at_nat (i := 0) rfl)) (add_ss (by show sh.length + 1 ≤ sizeLine; omega) ⟨sh ++ oneS b, _, _, rfl, ?_, ?_, ?_⟩)
        · rw [app_len, hi]; rfl
        · intro x hx
          rw [show (sh ++ oneS b).cps.toList = sh.cps.toList ++ [b] from tl_append _ _] at hx
          rcases List.mem_append.mp hx with h | h
          · exact hsub x h
          · rw [List.mem_singleton.mp h]; exact (hmem b).mp hb1
        · rw [show (sh ++ oneS b).cps.toList = sh.cps.toList ++ [b] from tl_append _ _]
          exact List.nodup_append.mpr ⟨hnd, by simp, fun x hx y hy e => hb2 (by rw [List.mem_singleton.mp hy] at e; rw [← e]; exact hx)⟩
  · subst e
    rw [List.length_map] at hi
    exact wd_one <| w_ret <| nc 2 rfl rfl rfl <| h sh (signErr_ok (by omega) (by omega) (fun c hc => isSg_iff.mpr (hsub c hc)) hnd) hi
end
end Lw

namespace Lw
open PySem L2 DL TL
theorem in4_strs {x : Str} : ∀ {l : List Str}, in4 (.str x) (l.map D.str) = decide (x ∈ l)
  | [] => by simp [in4]
  | y :: r => by
    have e : in4 (.str x) ((y :: r).map D.str) = (eq4 (.str y) (.str x) || in4 (.str x) (r.map D.str)) := by rw [List.map_cons]; unfold in4; rw [List.any_cons]
    rw [e, in4_strs]
    have e2 : eq4 (.str y) (.str x) = decide (x = y) := by
      show (y == x) = _
      by_cases h : x = y
      · rw [decide_eq_true h, h]; simp
      · rw [decide_eq_false h]; simpa using fun z : y = x => h z.symm
    rw [e2]
    by_cases h : x = y
    · simp [h]
    · simp [h]
theorem flat_strs (l : List Str) : (l.map D.str).all flat4 = true := by
  rw [List.all_map, List.all_eq_true]; intro _ _; rfl
theorem badRow_snoc {ps : List Str} {rows : List Row} {r : Row} {n : Nat} (h : badRow ps n rows = none) (hr : okRow (ps ++ rows.map fun r => r.1 ++ r.2) r = true) : badRow ps n (rows ++ [r]) = none := by
  have := badRow_take (rows := rows ++ [r]) (ps := ps) (n := n) (i := rows.length) (r := r) (by rw [List.take_left']; exact h; rfl) (by rw [List.getElem?_append_right (Nat.le_refl _), Nat.sub_self]; rfl) (by rw [List.take_left' rfl]; exact hr)
  rwa [List.take_of_length_le (by rw [List.length_append]; exact Nat.le_refl _)] at this
theorem tabErr_ok {s : Str} {rows : List Row} (h1 : signErr s = none) (h2 : rows.length ≤ 24) (h3 : badRow (signs s) 0 rows = none) : tabErr s rows = none := by
  unfold tabErr
  rw [h1]
  dsimp only
  rw [if_pos h2, h3]; rfl
theorem pcs_snoc (s : Str) (rows : List Row) (r : Row) : pcs s (rows ++ [r]) = pcs s rows ++ [r.1 ++ r.2] := by
  unfold pcs; rw [List.map_append, List.append_assoc]; rfl
section
variable {P : Program} {w : World} {K : PySem.W.Frag} {mg : Str → Option Value} {base : Heap}
def phLawRows : Ph := fun ds rt _ => ∃ (s : Str) (ns : List Int), ds = [.str s, .lst (ns.map D.int)] ∧ signErr s = none ∧ ns.length ≤ 1000 ∧ (∀ n ∈ ns, 0 ≤ n) ∧ ∀ rows : List Row, tabErr s rows = none → rows.length ≤ ns.length / 2 → rt true (.lst (rows.map rowD))
theorem p__law_rows (T : Txt K mg) : FnD P w K mg base 1 (He.fAd K ("_law_rows", none)) 2 phLawRows := mk_law_rows T fun cdv A outer s H E hr ds rt xs hφ hl => by
  obtain ⟨z, ns, rfl, hS, hn, hns, h⟩ := hφ
  have nd := sc_law_rows.nd
  have big : (2000 : Nat) ≤ sizeLine := by decide
  obtain ⟨q1, q2, _, _⟩ := signErr_none hS
  refine wd_cons <| asg 2 nd rfl rfl <| listT T.zlist <| nl 0 rfl rfl rfl ⟨z, rfl, by omega, ?_⟩
  refine wd_cons <| asg 3 nd rfl rfl <| ed_lst <| ea_nil ⟨by decide, ?_⟩
  have hhalf : (((ns.map D.int).length : Nat) : Int) / 2 = ((ns.length / 2 : Nat) : Int) := by rw [List.length_map]; omega
  refine wd_cons <| w_for rfl <| rg1 T.zrange <| ed_bin <| len_ T.zlen <| nl 1 rfl rfl rfl ⟨_, rfl, ed_int <| fdiv_ii ⟨by decide, by decide +kernel⟩ ⟨_, rfl, by rw [hhalf]; omega, by rw [hhalf]; omega, fun i Γ => ∃ (rows : List Row) (o4 o5 o6 : Option (Bool × D)),
    Γ = [some (false, .str z), some (false, .lst (ns.map D.int)), some (true, .lst ((pcs z rows).map D.str)), some (true, .lst (rows.map rowD)), o4, o5, o6] ∧ tabErr z rows = none ∧ rows.length ≤ i,
    ⟨[], none, none, none, (by unfold pcs; rw [List.map_nil, List.append_nil]; rfl), tabErr_ok hS (by decide) rfl, Nat.le_refl _⟩, fun i d Γ' hd ⟨rows, o4, o5, o6, e, hT, hri⟩ => ?_, fun Γ' ⟨rows, o4, o5, o6, e, hT, hri⟩ => ?_⟩⟩
  · subst e
    obtain ⟨hi, rfl⟩ := rangeD_get hd
    rw [hhalf] at hi
    rw [Int.zero_add]
    have hi2 : i < ns.length / 2 := by omega
    obtain ⟨t1, t2, t3⟩ := tab_small hT
    have hplen := pcs_length z rows
    have hpl := pcs_len hT
    obtain ⟨d1, hd1⟩ : ∃ x, ns[2 * i]? = some x := ⟨_, List.getElem?_eq_getElem (by omega)⟩
    obtain ⟨d2, hd2⟩ : ∃ x, ns[2 * i + 1]? = some x := ⟨_, List.getElem?_eq_getElem (by omega)⟩
    have a1 : L2.atI (ns.map D.int) (2 * (i : Int)) = some (.int d1) := by
      have e1 : (2 * (i : Int)) = ((2 * i : Nat) : Int) := by omega
      rw [e1]; exact atI_map D.int (at_nat hd1)
    have a2 : L2.atI (ns.map D.int) (2 * (i : Int) + 1) = some (.int d2) := by
      have e1 : (2 * (i : Int) + 1) = ((2 * i + 1 : Nat) : Int) := by omega
      rw [e1]; exact atI_map D.int (at_nat hd2)
    have pick : ∀ x : Int, 0 ≤ x → ∃ p, L2.atI ((pcs z rows).map D.str) (x % (((pcs z rows).map D.str).length : Nat)) = some (.str p) ∧ p ∈ pcs z rows := fun x hx => by
      rw [List.length_map]
      have hpos : (0 : Int) < ((pcs z rows).length : Nat) := by omega
      obtain ⟨p, hp⟩ := atI_ex (xs := pcs z rows) (Int.emod_nonneg x (by omega)) (Int.emod_lt_of_pos x hpos)
      refine ⟨p, atI_map D.str hp, ?_⟩
      unfold L2.atI at hp
      obtain ⟨j, _, e⟩ := Option.bind_eq_some_iff.mp hp
      exact List.mem_of_getElem? e
    obtain ⟨p, hp, hpm⟩ := pick d1 (hns d1 (List.mem_of_getElem? hd1))
    obtain ⟨r, hr', hrm⟩ := pick d2 (hns d2 (List.mem_of_getElem? hd2))
    have lp := hpl p hpm
    have lr := hpl r hrm
    have hpos : (0 : Int) < (((pcs z rows).map D.str).length : Nat) := by rw [List.length_map]; omega
    refine td_name (i := 4) nd rfl (.inl rfl) ?_
    refine wd_cons <| asg 5 nd rfl rfl <| ed_flat <| ed_ix <| nl 2 rfl rfl rfl <| ed_bin <| ed_ix <| nl 1 rfl rfl rfl <| ed_bin <| ed_int <| nl 4 rfl rfl rfl <| mul_ii (.inl ⟨by decide, by decide⟩) <| ix_lst a1 <| len_ T.zlen <| nl 2 rfl rfl rfl ⟨_, rfl, mod_ii hpos <| ix_lst hp ⟨rfl, ?_⟩⟩
    refine wd_cons <| asg 6 nd rfl rfl <| ed_flat <| ed_ix <| nl 2 rfl rfl rfl <| ed_bin <| ed_ix <| nl 1 rfl rfl rfl <| ed_bin <| ed_bin <| ed_int <| nl 4 rfl rfl rfl <| mul_ii (.inl ⟨by decide, by decide⟩) <| ed_int <| add_ii <| ix_lst a2 <| len_ T.zlen <| nl 2 rfl rfl rfl ⟨_, rfl, mod_ii hpos <| ix_lst hr' ⟨rfl, ?_⟩⟩
    have skip : ∃ (rows' : List Row) (o4 o5 o6 : Option (Bool × D)), [some (false, D.str z), some (false, .lst (ns.map D.int)), some (true, .lst ((pcs z rows).map D.str)), some (true, .lst (rows.map rowD)), some (false, .int (i : Int)), some (false, .str p), some (false, .str r)] =
        [some (false, .str z), some (false, .lst (ns.map D.int)), some (true, .lst ((pcs z rows').map D.str)), some (true, .lst (rows'.map rowD)), o4, o5, o6] ∧ tabErr z rows' = none ∧ rows'.length ≤ i + 1 := ⟨rows, _, _, _, rfl, hT, by omega⟩
    have hal := app_len p r
    refine wd_one <| w_if <| et_w <| ew_and <| et_cmp <| len_ T.zlen <| ed_bin <| nl 5 rfl rfl rfl <| nl 6 rfl rfl rfl <| add_ss (by omega) ⟨_, len_str (by omega), ed_int <| le_ii ⟨fun e1 => ?_, fun e1 => ⟨fun e => (nomatch e), fun _ => wd_nil skip⟩⟩⟩
    refine ew_and <| et_cmp <| ed_bin <| nl 5 rfl rfl rfl <| nl 6 rfl rfl rfl <| add_ss (by omega) <| nl 2 rfl rfl rfl <| nin_dl rfl (flat_strs _) ?_
    rw [in4_strs]
    refine ⟨fun e2 => ?_, fun e2 => ⟨fun e => (nomatch e), fun _ => wd_nil skip⟩⟩
    refine ew_and1 <| et_cmp <| len_ T.zlen <| nl 3 rfl rfl rfl ⟨_, rfl, ed_int <| lt_ii ⟨fun e3 => ?_, fun e3 => wd_nil skip⟩⟩
    have l16 : p.length + r.length ≤ 16 := by
      have : ((p ++ r).length : Int) ≤ 16 := of_decide_eq_true e1
      omega
    have hnew : p ++ r ∉ pcs z rows := by simpa using e2
    have l24 : rows.length < 24 := by
      have : (((rows.map rowD).length : Nat) : Int) < 24 := of_decide_eq_true e3
      rw [List.length_map] at this
      omega
    have hT' : tabErr z (rows ++ [(p, r)]) = none := by
      refine tabErr_ok hS (by rw [List.length_append]; simp only [List.length_cons, List.length_nil]; omega) (badRow_snoc (tabErr_none hT).2.2 ?_)
      unfold okRow
      show (decide (p ∈ pcs z rows) && (decide (r ∈ pcs z rows) && (decide (p.length + r.length ≤ 16) && !decide (p ++ r ∈ pcs z rows)))) = true
      rw [decide_eq_true hpm, decide_eq_true hrm, decide_eq_true l16, decide_eq_false hnew]; rfl
    refine wd_cons <| app 3 rfl (.inl rfl) rfl <| ed_tup <| ea_cons <| nl 5 rfl rfl rfl <| ea_cons <| nl 6 rfl rfl rfl <| ea_nil ⟨(by show 2 ≤ sizeLine; decide), by rw [List.length_map]; omega, ?_⟩
    refine wd_one <| app 2 rfl (.inl rfl) rfl <| ed_bin <| nl 5 rfl rfl rfl <| nl 6 rfl rfl rfl <| add_ss (by omega) ⟨by rw [List.length_map]; omega, rows ++ [(p, r)], some (false, .int (i : Int)), some (false, .str p), some (false, .str r), ?_, hT', by rw [List.length_append]; simp only [List.length_cons, List.length_nil]; omega⟩
    rw [pcs_snoc, List.map_append, List.map_append]; rfl
  · subst e
    rw [rangeD_length, hhalf] at hri
    exact wd_one <| w_retO (i := 3) rfl (.inl rfl) rfl rfl <| h rows hT (by omega)
end
end Lw

namespace Lw
open PySem L2 DL TL
theorem cutD_map {α β : Type} (f : α → β) (xs : List α) (lo hi : Option Int) : cutD (xs.map f) lo hi = (cutD xs lo hi).map f := by
  unfold cutD
  rw [List.length_map, List.map_take, List.map_drop]
theorem cutD_nat {α : Type} (xs : List α) (a b : Nat) (h : b ≤ xs.length) (hab : a ≤ b) : cutD xs (some (a : Int)) (some (b : Int)) = (xs.drop a).take (b - a) := by
  unfold cutD
  rw [HT.sIx_nat, HT.sIx_nat, Nat.min_eq_left h, Nat.min_eq_left (Nat.le_trans hab h)]
theorem cutD_from {α : Type} (xs : List α) (a : Nat) (h : a ≤ xs.length) : cutD xs (some (a : Int)) none = xs.drop a := by
  unfold cutD
  rw [HT.sIx_nat, Nat.min_eq_left h]
  show (xs.drop a).take (xs.length - a) = _
  rw [List.take_of_length_le (by rw [List.length_drop]; exact Nat.le_refl _)]
theorem cutD_to {α : Type} (xs : List α) (b : Nat) : cutD xs none (some (b : Int)) = xs.take b := by
  unfold cutD
  rw [HT.sIx_nat]
  show (xs.drop 0).take (min b xs.length - 0) = _
  rw [List.drop_zero, Nat.sub_zero]
  by_cases h : b ≤ xs.length
  · rw [Nat.min_eq_left h]
  · rw [Nat.min_eq_right (by omega), List.take_length, List.take_of_length_le (by omega)]
theorem badRow_prefix {rows : List Row} : ∀ {ps : List Str} {n i : Nat}, badRow ps n rows = none → badRow ps n (rows.take i) = none := by
  induction rows with
  | nil => intro ps n i h; rw [List.take_nil]; exact h
  | cons q t ih =>
    intro ps n i h
    cases i with
    | zero => rfl
    | succ i =>
      have h' : (if okRow ps q = true then badRow (ps ++ [q.1 ++ q.2]) (n + 1) t else some n) = none := h
      show (if okRow ps q = true then badRow (ps ++ [q.1 ++ q.2]) (n + 1) (t.take i) else some n) = none
      by_cases e : okRow ps q = true
      · rw [if_pos e] at h' ⊢; exact ih h'
      · rw [if_neg e] at h'; cases h'
theorem tabErr_take {s : Str} {rows : List Row} (i : Nat) (h : tabErr s rows = none) : tabErr s (rows.take i) = none := by
  obtain ⟨a, b, c⟩ := tabErr_none h
  exact tabErr_ok a (by rw [List.length_take]; omega) (badRow_prefix c)
theorem sl_lst {R : Bool → D → Prop} {xs : List D} {lo hi : Option Int} (h : R true (.lst (cutD xs lo hi))) : SlD R lo hi (.lst xs) := h
def sizesT (most : Int) : List Int := [4, 12, 3, 4, 4, most + 1] ++ List.replicate 12 94 ++ List.replicate (2 * most).toNat 36
section
variable {P : Program} {w : World} {K : PySem.W.Frag} {mg : Str → Option Value} {base : Heap}
def phLawTable : Ph := fun ds rt _ => ∃ cell salt most : Int, ds = [.int cell, .int salt, .int most] ∧ 0 ≤ salt ∧ salt ≤ 1000000 ∧ 0 ≤ most ∧ most ≤ 100 ∧ ∀ (s : Str) (rows : List Row), tabErr s rows = none → rt false (.tup [.str s, .lst (rows.map rowD)])
theorem p__law_table (T : Txt K mg) : FnD P w K mg base 2 (He.fAd K ("_law_table", none)) 3 phLawTable := mk_law_table T fun cdv A outer s H E hr ds rt xs hφ hl => by
  obtain ⟨cell, salt, most, rfl, s0, s1, m0, m1, h⟩ := hφ
  have nd := sc_law_table.nd
  have big : (2000 : Nat) ≤ sizeLine := by decide
  have hSl : (sizesT most).length = 18 + (2 * most).toNat := by
    unfold sizesT; rw [List.length_append, List.length_append, List.length_replicate, List.length_replicate]; rfl
  refine wd_cons <| asg 3 nd rfl rfl <| call_ (p__law_numbers T) (hr.mono (by decide)) T.g_law_numbers <| ea_cons <| nl 0 rfl rfl rfl <| ea_cons <| nl 1 rfl rfl rfl <| ea_cons <| ed_bin <| ed_bin <| ed_lst <| ea_cons <| ed_int <| ea_cons <| ed_int <| ea_cons <| ed_int <| ea_cons <| ed_int <| ea_cons <| ed_int <|
    ea_cons <| ed_bin <| nl 2 rfl rfl rfl <| ed_int <| add_ii <| ea_nil ⟨(by show 6 ≤ sizeLine; decide), ed_bin <| ed_lst <| ea_cons <| ed_int <| ea_nil ⟨(by show 1 ≤ sizeLine; decide), ed_int <| mul_li (by show 1 * 12 ≤ sizeLine; decide) (by decide) (by decide) <| add_ll (by show 6 + 12 ≤ sizeLine; decide) <| ed_bin <| ed_lst <| ea_cons <| ed_int <| ea_nil ⟨(by show 1 ≤ sizeLine; decide),
      ed_bin <| ed_int <| nl 2 rfl rfl rfl <| mul_ii (.inl ⟨by decide, by decide⟩) <| mul_li (by show 1 * (2 * most).toNat ≤ sizeLine; omega) (by omega) (by omega) <| add_ll ?_ <| ea_nil ⟨rfl, cell, salt, sizesT most, ?_, fun x hx => ?_, s0, s1, by rw [hSl]; omega, fun gs hg hb => ?_⟩⟩⟩⟩
  · rw [List.flatten_replicate_singleton, List.flatten_replicate_singleton, List.length_append, List.length_replicate, List.length_replicate]
    show 6 + (12 : Int).toNat + (2 * most).toNat ≤ sizeLine
    have : (12 : Int).toNat = 12 := rfl
    omega
  · rw [List.flatten_replicate_singleton, List.flatten_replicate_singleton]
    unfold sizesT
    rw [List.map_append, List.map_append, List.map_replicate, List.map_replicate]
    rfl
  · have hx' : x = 4 ∨ x = 12 ∨ x = 3 ∨ x = most + 1 ∨ x = 94 ∨ x = 36 := by
      unfold sizesT at hx
      simp only [List.mem_append, List.mem_cons, List.not_mem_nil, or_false, List.mem_replicate] at hx
      omega
    have hb : 0 < x ∧ x ≤ 101 := by omega
    have : x.natAbs < 2 ^ 7 := by omega
    exact ⟨hb.1, Nat.lt_trans (log2_lt this (by decide)) (by decide)⟩
  rw [hSl] at hg
  refine wd_n (by simp only [e0_law_table, List.set_cons_zero, List.set_cons_succ]; rfl) ?_
  refine wd_know 3 rfl ?_
  have dig : ∀ (j : Nat) (s : Int), (sizesT most)[j]? = some s → ∃ n, gs[j]? = some n ∧ L2.atI (gs.map D.int) (j : Int) = some (.int n) ∧ 0 ≤ n ∧ n < s := fun j s hs => by
    have hj : j < gs.length := by rw [hg, ← hSl]; exact (List.getElem?_eq_some_iff.mp hs).1
    have e := List.getElem?_eq_getElem hj
    exact ⟨gs[j], e, atI_map D.int (at_nat e), hb j _ s e hs⟩
  obtain ⟨a0, _, g0, l0, u0⟩ := dig 0 4 rfl
  obtain ⟨a1, _, g1, l1, u1⟩ := dig 1 12 rfl
  obtain ⟨a2, _, g2, l2, u2⟩ := dig 2 3 rfl
  obtain ⟨a3, _, g3, l3, u3⟩ := dig 3 4 rfl
  obtain ⟨a4, _, g4, l4, u4⟩ := dig 4 4 rfl
  obtain ⟨a5, _, g5, l5, u5⟩ := dig 5 (most + 1) rfl
  obtain ⟨m, hm, hm0, hm1⟩ : ∃ m, L2.atI [D.int a2, .int a2, .int a3, .int a1] a0 = some (.int m) ∧ 0 ≤ m ∧ m < 12 := by
    rcases (by omega : a0 = 0 ∨ a0 = 1 ∨ a0 = 2 ∨ a0 = 3) with h | h | h | h <;> subst h
    · exact ⟨a2, rfl, by omega, by omega⟩
    · exact ⟨a2, rfl, by omega, by omega⟩
    · exact ⟨a3, rfl, by omega, by omega⟩
    · exact ⟨a1, rfl, by omega, by omega⟩
  refine wd_n (by simp only [e0_law_table, List.set_cons_zero, List.set_cons_succ]; rfl) ?_
  refine wd_cons <| asg 4 nd rfl rfl <| ed_bin <| ed_int <| ed_ix <| ed_lst <| ea_cons <| ed_ix <| nl 3 rfl rfl rfl <| ed_int <| ix_lst g2 <| ea_cons <| ed_ix <| nl 3 rfl rfl rfl <| ed_int <| ix_lst g2 <| ea_cons <| ed_ix <| nl 3 rfl rfl rfl <| ed_int <| ix_lst g3 <| ea_cons <| ed_ix <| nl 3 rfl rfl rfl <| ed_int <| ix_lst g1 <|
    ea_nil ⟨(by show 4 ≤ sizeLine; decide), ed_ix <| nl 3 rfl rfl rfl <| ed_int <| ix_lst g0 <| ix_lst hm <| add_ii ?_⟩
  have e6 : (6 : Int) + (1 + m) = ((6 + (1 + m.toNat) : Nat) : Int) := by omega
  have hc1 : cutD gs (some (6 : Int)) (some (6 + (1 + m))) = (gs.drop 6).take (1 + m.toNat) := by
    rw [e6]
    have := cutD_nat gs 6 (6 + (1 + m.toNat)) (by omega) (by omega)
    rw [Nat.add_sub_cancel_left] at this
    exact this
  refine wd_n (by simp only [e0_law_table, List.set_cons_zero, List.set_cons_succ]; rfl) ?_
  refine wd_cons <| asg 5 nd rfl rfl <| call_ (p__law_signs T) (hr.mono (by decide)) T.g_law_signs <| ea_cons <| ed_slice <| nl 3 rfl rfl rfl <| eo_some <| ed_int ⟨_, rfl, eo_some <| ed_bin <| ed_int <| nl 4 rfl rfl rfl <| add_ii ⟨_, rfl, ea_nil ⟨rfl, cutD gs (some 6) (some (6 + (1 + m))), by rw [cutD_map], ?_, ?_, fun n hn => ?_, fun z hz hzl => ?_⟩⟩⟩
  · rw [hc1, List.length_take, List.length_drop]; omega
  · rw [hc1, List.length_take, List.length_drop]; omega
  · rw [hc1] at hn
    obtain ⟨j, hj⟩ := List.getElem?_of_mem hn
    have hj1 : j < 1 + m.toNat := by
      have := (List.getElem?_eq_some_iff.mp hj).1
      rw [List.length_take] at this; omega
    rw [List.getElem?_take_of_lt hj1, List.getElem?_drop] at hj
    have hs : (sizesT most)[6 + j]? = some 94 := by
      unfold sizesT
      rw [List.getElem?_append_left (by rw [List.length_append, List.length_replicate]; show 6 + j < 6 + 12; omega), List.getElem?_append_right (by show 6 ≤ 6 + j; omega)]
      show (List.replicate 12 (94 : Int))[6 + j - 6]? = _
      rw [List.getElem?_replicate, if_pos (by omega)]
    exact hb (6 + j) n 94 hj hs
  · have hc2 : cutD gs (some (18 : Int)) none = gs.drop 18 := cutD_from gs 18 (by omega)
    refine wd_n (by simp only [e0_law_table, List.set_cons_zero, List.set_cons_succ]; rfl) ?_
    refine wd_cons <| asg 6 nd rfl rfl <| call_ (p__law_rows T) (hr.mono (by decide)) T.g_law_rows <| ea_cons <| nl 5 rfl rfl rfl <| ea_cons <| ed_slice <| nl 3 rfl rfl rfl <| eo_some <| ed_int ⟨_, rfl, eo_none <| ea_nil ⟨rfl, z, cutD gs (some 18) none, by rw [cutD_map], hz, ?_, fun n hn => ?_, fun rows hT hrl => ?_⟩⟩
    · rw [hc2, List.length_drop]; omega
    · rw [hc2] at hn
      obtain ⟨j, hj⟩ := List.getElem?_of_mem hn
      rw [List.getElem?_drop] at hj
      have hjl := (List.getElem?_eq_some_iff.mp hj).1
      have hs : (sizesT most)[18 + j]? = some 36 := by
        unfold sizesT
        rw [List.getElem?_append_right (by rw [List.length_append, List.length_replicate]; show 6 + 12 ≤ 18 + j; omega), List.length_append, List.length_replicate]
        show (List.replicate (2 * most).toNat (36 : Int))[18 + j - (6 + 12)]? = _
        rw [List.getElem?_replicate, if_pos (by omega)]
      exact (hb (18 + j) n 36 hj hs).1
    · refine wd_n (by simp only [e0_law_table, List.set_cons_zero, List.set_cons_succ]; rfl) ?_
      refine wd_know 6 rfl <| wd_cons <| w_if <| et_cmp <| ed_ix <| nl 3 rfl rfl rfl <| ed_int <| ix_lst g4 <| ed_int <| eq_ii ⟨fun _ => ?_, fun _ => ?_⟩
      · have e5 : a5 = ((a5.toNat : Nat) : Int) := by omega
        refine wd_one <| asg 6 nd rfl rfl <| ed_slice <| nl 6 rfl rfl rfl <| eo_none <| eo_some <| ed_ix <| nl 3 rfl rfl rfl <| ed_int <| ix_lst g5 ⟨_, rfl, sl_lst ?_⟩
        rw [e5, cutD_to, ← List.map_take]
        exact wd_know 6 rfl <| wd_one <| w_ret <| ed_tup <| ea_cons <| nl 5 rfl rfl rfl <| ea_cons <| nl 6 rfl rfl rfl <| ea_nil ⟨(by show 2 ≤ sizeLine; decide), h z _ (tabErr_take _ hT)⟩
      · exact wd_nil <| wd_one <| w_ret <| ed_tup <| ea_cons <| nl 5 rfl rfl rfl <| ea_cons <| nl 6 rfl rfl rfl <| ea_nil ⟨(by show 2 ≤ sizeLine; decide), h z _ hT⟩
end
end Lw

namespace Lw
open PySem L2 DL TL
section
variable {P : Program} {w : World} {K : PySem.W.Frag} {mg : Str → Option Value} {base : Heap}
/-! ### the script's cells -/
def phCell : Ph := fun ds rt _ => ∃ (ns : List Int) (k : Int), ds = [.scr ns, .int k] ∧ 0 ≤ k ∧ ∀ n : Int, rt false (.int n)
theorem p__law_cell_at (T : Txt K mg) : FnD P w K mg base 1 (He.fAd K ("_law_cell_at", none)) 2 phCell := mk_law_cell_at T fun cdv A outer s H E hr ds rt xs hφ hl => by
  obtain ⟨ns, k, rfl, hk, h⟩ := hφ
  refine wd_cons <| w_if <| et_cmp <| nl 1 rfl rfl rfl <| len_ T.zlen <| nl 0 rfl rfl rfl ⟨_, rfl, lt_ii ⟨fun e => ?_, fun e => ?_⟩⟩
  · have e' : k < (ns.length : Nat) := of_decide_eq_true e
    obtain ⟨n, hn⟩ := atI_ex hk e'
    exact wd_one <| w_ret <| ed_ix <| nl 0 rfl rfl rfl <| nl 1 rfl rfl rfl <| ix_scr hn <| h n
  · exact wd_nil <| wd_one <| w_ret <| ed_int <| h 0
end
end Lw

namespace Lw
open PySem L2 DL TL
/-! ### texts of a table -/
/-- the first sign, from n on, that is not among s -/
def badAt (s : List Nat) (n : Nat) : List Nat → Option Nat
  | [] => none
  | c :: r => if c ∈ s then badAt s (n + 1) r else some n
def errT (s : Str) : D → Option D
  | .str z => (badAt s.cps.toList 0 z.cps.toList).map fun n => .int (n : Nat)
  | _ => some .non
theorem badAt_none {s : List Nat} : ∀ {l : List Nat} {n : Nat}, badAt s n l = none ↔ ∀ c ∈ l, c ∈ s
  | [], n => by simp [badAt]
  | c :: r, n => by
    unfold badAt
    by_cases h : c ∈ s
    · rw [if_pos h, badAt_none]; simp [h]
    · rw [if_neg h]; simp [h]
theorem badAt_at {s : List Nat} {l : List Nat} : ∀ {n i c : Nat}, (∀ x ∈ l.take i, x ∈ s) → l[i]? = some c → c ∉ s → badAt s n l = some (n + i) := by
  induction l with
  | nil => intro n i c _ h; simp at h
  | cons q t ih =>
    intro n i c h1 h2 h3
    cases i with
    | zero =>
      have : q = c := by simpa using h2
      subst this
      unfold badAt
      rw [if_neg h3]; rfl
    | succ i =>
      have hq : q ∈ s := h1 q (by simp)
      unfold badAt
      rw [if_pos hq, ih (fun x hx => h1 x (by rw [List.take_succ_cons]; exact List.mem_cons_of_mem _ hx)) (by simpa using h2) h3]
      congr 1; omega
/-- a thing as text: its kind is known -/
def TxK (d : D) : Prop := isiD "str" d = some (isStr d) ∧ ∀ z, d = .str z → z.length ≤ 100000
def whichD (ps : List Str) : D → D
  | .str p => ((idx p ps).map fun i => D.int (i : Nat)).getD .non
  | _ => .non
theorem join_sum {ys : List Str} {n : Nat} (hn : ys.length ≤ 100000) (h : ∀ y ∈ ys, y.length ≤ 100) : (ys.map (·.length)).sum + ys.length * ("" : Str).length ≤ 16777216 := by
  have e1 : ("" : Str).length = 0 := by decide +kernel
  have h1 := sum_le (l := ys.map (·.length)) (b := 100) fun x hx => by
    obtain ⟨z, hz, rfl⟩ := List.mem_map.mp hx
    exact h z hz
  rw [List.length_map] at h1
  rw [e1]
  omega
def isLst : D → Bool
  | .lst _ => true
  | _ => false
/-- a thing as a list: its kind is known, and that of its things -/
def LsK (d : D) : Prop := isiD "list" d = some (isLst d) ∧ ∀ xs, d = .lst xs → xs.length ≤ 100000 ∧ ∀ x ∈ xs, isiD "str" x = some (isStr x)
theorem flatTs_strs (ys : List Str) : flatTs (ys.map D.str) = true := by
  induction ys with
  | nil => simp [flatTs]
  | cons y r ih => rw [List.map_cons]; unfold flatTs; rw [ih]; simp [flatT, flat]
section
variable {P : Program} {w : World} {K : PySem.W.Frag} {mg : Str → Option Value} {base : Heap}
def phLook (K : PySem.W.Frag) : Ph := fun ds rt xs => ∃ (s : Str) (rows : List Row) (t : D), ds = [tabD K s rows, t] ∧ TxK t ∧ (errT s t = none → rt false .non) ∧ ∀ p, errT s t = some p → xs ⟨He.ga K "NoSign", [("place", p)]⟩
theorem p_look_at_text (T : Txt K mg) : FnD P w K mg base 3 (He.fAd K ("look_at_text", none)) 2 (phLook K) := mklook_at_text T fun cdv A outer s H E hr ds rt xs hφ hl => by
  obtain ⟨s, rows, t, rfl, ⟨hi, hz⟩, h1, h2⟩ := hφ
  have nd := sclook_at_text.nd
  refine wd_cons <| w_if <| et_not <| et_val <| isi_ "str" T.zisinstance T.zstr bt_str <| nl 1 rfl rfl rfl ⟨_, hi, _, rfl, ⟨fun e => ?_, fun e => ?_⟩⟩
  · refine wd_one <| w_raise (errNoSign T) rfl hr rfl (ea_cons <| ed_non <| ea_nil ⟨rfl, rfl, h2 _ ?_⟩) (by decide)
    cases t <;> first | rfl | cases e
  · have e2 : isStr t = true := by simpa using e
    obtain ⟨z, rfl⟩ : ∃ z, t = .str z := by cases t <;> first | exact ⟨_, rfl⟩ | cases e2
    have hz := hz z rfl
    refine wd_nil <| wd_cons <| asg 2 nd rfl rfl <| meth0 T.kTable T.mTable_signs (p_Table_signs T) (hr.mono (by decide)) <| nl 0 rfl rfl rfl ⟨rfl, rfl, s, rows, rfl, ?_⟩
    refine wd_one <| w_for rfl <| enS T.zenumerate <| nl 1 rfl rfl rfl ⟨z, rfl, fun i Γ => ∃ o3 o4 : Option (Bool × D), Γ = [some (false, tabD K s rows), some (false, .str z), some (false, .str s), o3, o4] ∧ ∀ x ∈ z.cps.toList.take i, x ∈ s.cps.toList,
      ⟨none, none, rfl, fun x hx => by rw [List.take_zero] at hx; cases hx⟩, fun i d Γ' hd ⟨o3, o4, e, hb⟩ => ?_, fun Γ' ⟨o3, o4, e, hb⟩ => ?_⟩
    · subst e
      obtain ⟨a, b, ha, hb', rfl⟩ := pairs_get hd
      obtain ⟨hi, rfl⟩ := rangeD_get ha
      obtain ⟨c, hc, rfl⟩ := signs_get hb'
      rw [Int.zero_add]
      refine td_two rfl <| td_name (i := 3) nd rfl (.inl rfl) <| td_name (i := 4) nd rfl (.inl rfl) ?_
      refine wd_one <| w_if <| et_cmp <| nl 4 rfl rfl rfl <| nl 2 rfl rfl rfl <| nin_ss ⟨fun e => ?_, fun e => ?_⟩
      · have e' : c ∉ s.cps.toList := by simpa using e
        refine wd_one <| w_raise (errNoSign T) rfl hr rfl (ea_cons <| nl 3 rfl rfl rfl <| ea_nil ⟨rfl, rfl, h2 _ ?_⟩) (by decide)
        show (badAt _ 0 _).map _ = _
        rw [badAt_at hb hc e', Nat.zero_add]; rfl
      · have e' : c ∈ s.cps.toList := by simpa using e
        refine wd_nil ⟨_, _, rfl, fun x hx => ?_⟩
        rw [take_succ hc] at hx
        rcases List.mem_append.mp hx with h | h
        · exact hb x h
        · rw [List.mem_singleton.mp h]; exact e'
    · subst e
      rw [pairs_length, rangeD_length, List.length_map, Nat.min_self, signs_length, show z.cps.size = z.cps.toList.length from (Array.length_toList).symm, List.take_length] at hb
      exact h1 (by show (badAt _ 0 _).map _ = _; rw [badAt_none.mpr hb]; rfl)
def phTwA (K : PySem.W.Frag) : Ph := fun ds rt _ => ∃ (s : Str) (rows : List Row) (d : D), ds = [tabD K s rows, d] ∧ isiD "str" d = some (isStr d) ∧ rt false (whichD (pcs s rows) d)
theorem p_Table_whichA (T : Txt K mg) : FnD P w K mg base 1 (He.fAd K ("Table", some "which")) 2 (phTwA K) := mkTable_which T fun cdv A outer s H E hr ds rt xs hφ hl => by
  obtain ⟨z, rows, d, rfl, hi, h⟩ := hφ
  refine wd_cons <| w_if <| et_not <| et_val <| isi_ "str" T.zisinstance T.zstr bt_str <| nl 1 rfl rfl rfl ⟨_, hi, _, rfl, ⟨fun e => ?_, fun e => ?_⟩⟩
  · refine wd_one <| w_ret <| ed_non ?_
    have : whichD (pcs z rows) d = .non := by cases d <;> first | rfl | cases e
    rw [this] at h; exact h
  · have e2 : isStr d = true := by simpa using e
    obtain ⟨p, rfl⟩ : ∃ z, d = .str z := by cases d <;> first | exact ⟨_, rfl⟩ | cases e2
    refine wd_nil <| wd_one <| w_ret <| ed_dget1 (fld T.kTable T.nTable_by_text <| nl 0 rfl rfl rfl ⟨rfl, rfl, rfl, nl 1 rfl rfl rfl ⟨_, .k (.inr p), ?_⟩⟩) (hu_of hr)
    rw [numbered_val]
    have e : ((idx p (pcs z rows)).map fun i => D.int ((0 + i : Nat) : Int)) = (idx p (pcs z rows)).map fun i => D.int (i : Nat) := by
      cases idx p (pcs z rows) with
      | none => rfl
      | some i => simp
    rw [e]
    exact h
def isPc (ps : List Str) : D → Bool
  | .str p => decide (p ∈ ps)
  | _ => false
theorem which_non {ps : List Str} {d : D} : DL.isNon (whichD ps d) = !isPc ps d := by
  cases d with
  | str p =>
    show DL.isNon (((idx p ps).map fun i => D.int (i : Nat)).getD .non) = !decide (p ∈ ps)
    cases e : idx p ps with
    | none => rw [decide_eq_false (idx_none.mp e)]; rfl
    | some i => rw [decide_eq_true (List.mem_of_getElem? (idx_some e))]; rfl
  | _ => rfl
end
end Lw

namespace Lw
open PySem L2 DL TL
/-! ### texts of signs, rows of such -/
/-- the signs that these texts have -/
def Lit (z : Str) : Prop := ∀ c ∈ z.cps.toList, isSg c = true ∨ c = 9 ∨ c = 10
theorem litC {z : Str} (h : z.cps.toList.all (fun c => isSg c || decide (c = 9) || decide (c = 10)) = true) : Lit z := fun c hc => by
  have := List.all_eq_true.mp h c hc
  simp only [Bool.or_eq_true, decide_eq_true_eq] at this
  rcases this with (h | h) | h
  · exact .inl h
  · exact .inr (.inl h)
  · exact .inr (.inr h)
theorem Lit.app {a b : Str} (ha : Lit a) (hb : Lit b) : Lit (a ++ b) := fun c hc => by
  rw [show (a ++ b).cps.toList = tl a ++ tl b from tl_append a b] at hc
  rcases List.mem_append.mp hc with h | h
  · exact ha c h
  · exact hb c h
theorem cutS_sub {z : Str} {lo hi : Option Int} {c : Nat} (h : c ∈ (cutS z lo hi).cps.toList) : c ∈ z.cps.toList := by
  have : c ∈ ((z.cps.toList.drop (HT.sIx z.length 0 lo)).take (HT.sIx z.length z.length hi - HT.sIx z.length 0 lo)).toArray.toList := h
  rw [List.toList_toArray] at this
  exact List.mem_of_mem_drop (List.mem_of_mem_take this)
theorem Lit.cut {a : Str} {lo hi : Option Int} (ha : Lit a) : Lit (cutS a lo hi) := fun c hc => ha c (cutS_sub hc)
theorem Lit.sub {a b : Str} (ha : Lit a) (h : ∀ c ∈ b.cps.toList, c ∈ a.cps.toList) : Lit b := fun c hc => ha c (h c hc)
theorem num_lit : ∀ k : Fin 120, (Str.ofString (toString (((k.val : Nat) : Int) - 20))).cps.toList.all (fun c => isSg c || decide (c = 9) || decide (c = 10)) = true ∧ (Str.ofString (toString (((k.val : Nat) : Int) - 20))).length ≤ 5 := by decide +kernel
theorem num_small {n : Int} (h0 : -20 ≤ n) (h1 : n < 100) : Lit (Str.ofString (toString n)) ∧ (Str.ofString (toString n)).length ≤ 5 := by
  have := num_lit ⟨(n + 20).toNat, by omega⟩
  have e : (((n + 20).toNat : Nat) : Int) - 20 = n := by omega
  rw [e] at this
  exact ⟨litC this.1, this.2⟩
theorem small_log' {n : Int} (h0 : -20 ≤ n) (h1 : n < 100) : n.natAbs.log2 < 1920 := log2_lt (k := 1920) (Nat.lt_of_lt_of_le (show n.natAbs < 128 by omega) (by decide +kernel)) (by decide)
/-- rows of short texts -/
def LsOk (n : Nat) (xs : List D) : Prop := xs.length ≤ n ∧ ∀ x ∈ xs, ∃ z : Str, x = .str z ∧ z.length ≤ 100 ∧ Lit z
theorem LsOk.app {n m : Nat} {xs ys : List D} (h : LsOk n xs) (h' : LsOk m ys) : LsOk (n + m) (xs ++ ys) :=
  ⟨by rw [List.length_append]; exact Nat.add_le_add h.1 h'.1, fun x hx => (List.mem_append.mp hx).elim (h.2 x) (h'.2 x)⟩
theorem LsOk.cut {n : Nat} {xs : List D} {lo hi : Option Int} (h : LsOk n xs) : LsOk n (cutD xs lo hi) :=
  ⟨Nat.le_trans (cutD_len _ _ _) h.1, fun x hx => h.2 x (List.mem_of_mem_drop (List.mem_of_mem_take hx))⟩
theorem LsOk.one {z : Str} (h : z.length ≤ 100) (h' : Lit z) : LsOk 1 [.str z] := ⟨Nat.le_refl _, fun x hx => ⟨z, List.mem_singleton.mp hx, h, h'⟩⟩
theorem LsOk.rev {n : Nat} {xs : List D} (h : LsOk n xs) : LsOk n xs.reverse := ⟨by rw [List.length_reverse]; exact h.1, fun x hx => h.2 x (List.mem_reverse.mp hx)⟩
theorem LsOk.more {n m : Nat} {xs : List D} (h : LsOk n xs) (hm : n ≤ m) : LsOk m xs := ⟨Nat.le_trans h.1 hm, h.2⟩
theorem LsOk.of {n : Nat} {ls : List Str} (h : ls.length ≤ n) (h' : ∀ z ∈ ls, z.length ≤ 100 ∧ Lit z) : LsOk n (ls.map D.str) :=
  ⟨by rw [List.length_map]; exact h, fun x hx => by obtain ⟨z, hz, rfl⟩ := List.mem_map.mp hx; exact ⟨z, rfl, h' z hz⟩⟩
theorem LsOk.strs {n : Nat} : ∀ {xs : List D}, LsOk n xs → ∃ ys : List Str, xs = ys.map D.str ∧ ys.length ≤ n ∧ ∀ z ∈ ys, z.length ≤ 100 ∧ Lit z := by
  have key : ∀ xs : List D, (∀ x ∈ xs, ∃ z : Str, x = .str z ∧ z.length ≤ 100 ∧ Lit z) → ∃ ys : List Str, xs = ys.map D.str ∧ ∀ z ∈ ys, z.length ≤ 100 ∧ Lit z := by
    intro xs
    induction xs with
    | nil => intro _; exact ⟨[], rfl, fun _ h => (nomatch h)⟩
    | cons x r ih =>
      intro h
      obtain ⟨z, rfl, h1, h2⟩ := h x List.mem_cons_self
      obtain ⟨ys, e, h3⟩ := ih fun y hy => h y (List.mem_cons_of_mem _ hy)
      refine ⟨z :: ys, by rw [e]; rfl, fun y hy => ?_⟩
      rcases List.mem_cons.mp hy with h | h
      · rw [h]; exact ⟨h1, h2⟩
      · exact h3 y h
  intro xs h
  obtain ⟨ys, e, h3⟩ := key xs h.2
  refine ⟨ys, e, ?_, h3⟩
  have := h.1
  rw [e, List.length_map] at this
  exact this
theorem lsz {n m : Nat} {xs ys : List D} (h : LsOk n xs) (h' : LsOk m ys) (hn : n + m ≤ 1000 := by decide) : xs.length + ys.length ≤ sizeLine :=
  Nat.le_trans (Nat.le_trans (Nat.add_le_add h.1 h'.1) hn) (by decide)
theorem isSg_ge {c : Nat} (h : isSg c = true) : 32 ≤ c ∧ c < 127 := by
  have hm := isSg_iff.mp h
  have : ∀ c ∈ allS, 32 ≤ c ∧ c < 127 := by decide +kernel
  exact this c hm
theorem Lit.strOk {z : Str} (h : Lit z) : PyData.strOk z = true := by
  unfold PyData.strOk
  rw [← Array.all_toList, List.all_eq_true]
  intro c hc
  refine decide_eq_true ?_
  rcases h c hc with h | h | h
  · have := (isSg_ge h).2; omega
  · omega
  · omega
theorem badRow_rows_at {rows : List Row} : ∀ {ps : List Str} {n i : Nat} {r : Row}, badRow ps n rows = none → rows[i]? = some r → okRow (ps ++ (rows.take i).map fun r => r.1 ++ r.2) r = true := by
  induction rows with
  | nil => intro _ _ _ _ _ h; simp at h
  | cons q t ih =>
    intro ps n i r h hr
    have h' : (if okRow ps q = true then badRow (ps ++ [q.1 ++ q.2]) (n + 1) t else some n) = none := h
    by_cases e : okRow ps q = true
    · rw [if_pos e] at h'
      cases i with
      | zero =>
        have : q = r := by simpa using hr
        subst this
        simpa using e
      | succ i =>
        have := ih h' (by simpa using hr)
        simpa using this
    · rw [if_neg e] at h'; cases h'
/-- pieces are made of signs -/
theorem pcs_signs {s : Str} {rows : List Row} (hT : tabErr s rows = none) : ∀ p ∈ pcs s rows, ∀ c ∈ p.cps.toList, c ∈ s.cps.toList := by
  have key : ∀ k, k ≤ rows.length → ∀ p ∈ pcs s (rows.take k), ∀ c ∈ p.cps.toList, c ∈ s.cps.toList := by
    intro k
    induction k with
    | zero =>
      intro _ p hp c hc
      unfold pcs at hp
      rw [List.take_zero, List.map_nil, List.append_nil] at hp
      unfold signs at hp
      obtain ⟨x, hx, rfl⟩ := List.mem_map.mp hp
      have : c = x := by simpa using hc
      rw [this]; exact hx
    | succ k ih =>
      intro hk p hp c hc
      have hr := List.getElem?_eq_getElem (show k < rows.length by omega)
      rw [pcs_take s rows hr] at hp
      rcases List.mem_append.mp hp with h | h
      · exact ih (by omega) p h c hc
      · rw [List.mem_singleton.mp h, show (rows[k].1 ++ rows[k].2).cps.toList = tl rows[k].1 ++ tl rows[k].2 from tl_append _ _] at hc
        have ok := badRow_rows_at (tabErr_none hT).2.2 hr
        unfold okRow at ok
        simp only [Bool.and_eq_true, decide_eq_true_eq] at ok
        rcases List.mem_append.mp hc with h | h
        · exact ih (by omega) _ ok.1 c h
        · exact ih (by omega) _ ok.2.1 c h
  have := key rows.length (Nat.le_refl _)
  rwa [List.take_length] at this
theorem sg_lit {s : Str} (hS : signErr s = none) {z : Str} (h : ∀ c ∈ z.cps.toList, c ∈ s.cps.toList) : Lit z := fun c hc => .inl ((signErr_none hS).2.2.2 c (h c hc))
theorem pcs_ls {s : Str} {rows : List Row} (hT : tabErr s rows = none) : ∀ p ∈ pcs s rows, p.length ≤ 16 ∧ Lit p := fun p hp => ⟨pcs_len hT p hp, sg_lit (tabErr_none hT).1 (pcs_signs hT p hp)⟩
theorem pcs_pos {s : Str} {rows : List Row} (hT : tabErr s rows = none) : ∀ p ∈ pcs s rows, 1 ≤ p.length := by
  have key : ∀ k, k ≤ rows.length → ∀ p ∈ pcs s (rows.take k), 1 ≤ p.length := by
    intro k
    induction k with
    | zero =>
      intro _ p hp
      unfold pcs at hp
      rw [List.take_zero, List.map_nil, List.append_nil] at hp
      unfold signs at hp
      obtain ⟨x, hx, rfl⟩ := List.mem_map.mp hp
      exact Nat.le_refl 1
    | succ k ih =>
      intro hk p hp
      have hr := List.getElem?_eq_getElem (show k < rows.length by omega)
      rw [pcs_take s rows hr] at hp
      rcases List.mem_append.mp hp with h | h
      · exact ih (by omega) p h
      · rw [List.mem_singleton.mp h, app_len]
        have ok := badRow_rows_at (tabErr_none hT).2.2 hr
        unfold okRow at ok
        simp only [Bool.and_eq_true, decide_eq_true_eq] at ok
        have := ih (by omega) _ ok.1
        omega
  have := key rows.length (Nat.le_refl _)
  rwa [List.take_length] at this
theorem join_empty (qs : List Str) : tl (Txt.join "" qs) = (qs.map tl).flatten := by
  rw [join_eq, tl_join, show tl ("" : Str) = [] from by decide +kernel]
  generalize qs.map tl = l
  induction l with
  | nil => rfl
  | cons p r ih =>
    cases r with
    | nil => show p = _; simp
    | cons q t => show p ++ ([] ++ joinL [] (q :: t)) = _; rw [ih, List.nil_append]; rfl
/-- a text of a table, as its law makes it -/
def TxOf (s z : Str) : Prop := ∀ c ∈ z.cps.toList, c ∈ s.cps.toList
theorem TxOf.err {s z : Str} (h : TxOf s z) : errT s (.str z) = none := by
  show (badAt _ 0 _).map _ = none
  rw [badAt_none.mpr h]; rfl
theorem one_pc {s z : Str} (rows : List Row) (h : TxOf s z) {c : Nat} (hc : c ∈ z.cps.toList) : (⟨#[c]⟩ : Str) ∈ pcs s rows := by
  unfold pcs signs
  exact List.mem_append_left _ (List.mem_map.mpr ⟨c, h c hc, rfl⟩)
end Lw

namespace Lw
open PySem L2 DL TL
/-! ### stretches of a text that are pieces -/
def subT (z : Str) (b e : Nat) : Str := cutS z (some (b : Int)) (some (e : Int))
theorem tl_sub (z : Str) (b e : Nat) : tl (subT z b e) = ((tl z).take e).drop b := by
  show (((z.cps.toList.drop _).take _).toArray).toList = _
  rw [HT.sIx_nat, HT.sIx_nat, List.toList_toArray]
  have hl : z.length = z.cps.toList.length := len_tl z
  rw [hl]
  show ((z.cps.toList.drop (min b z.cps.toList.length)).take (min e z.cps.toList.length - min b z.cps.toList.length)) = (z.cps.toList.take e).drop b
  generalize z.cps.toList = l
  rw [List.drop_take]
  by_cases ha : b ≤ l.length
  · rw [Nat.min_eq_left ha]
    by_cases hb : e ≤ l.length
    · rw [Nat.min_eq_left hb]
    · rw [Nat.min_eq_right (by omega)]
      rw [List.take_of_length_le (by rw [List.length_drop]; exact Nat.le_refl _), List.take_of_length_le (by rw [List.length_drop]; omega)]
  · rw [Nat.min_eq_right (show l.length ≤ b by omega), List.drop_length, List.take_nil, List.drop_eq_nil_of_le (by omega), List.take_nil]
theorem sub_len {z : Str} {b e : Nat} (he : e ≤ z.length) : (subT z b e).length = e - b := by
  rw [len_tl, tl_sub, List.length_drop, List.length_take, ← len_tl]; omega
def begs (ps : List Str) (z : Str) (e : Nat) : List Nat := (List.range e).filter fun b => decide (subT z b e ∈ ps)
theorem begs_mem {ps : List Str} {z : Str} {b e : Nat} : b ∈ begs ps z e ↔ b < e ∧ subT z b e ∈ ps := by
  unfold begs
  rw [List.mem_filter, List.mem_range, decide_eq_true_iff]
def intD (n : Nat) : D := .int (n : Nat)
section
variable {P : Program} {w : World} {K : PySem.W.Frag} {mg : Str → Option Value} {base : Heap}
def phTlong (K : PySem.W.Frag) : Ph := fun ds rt _ => ∃ (s : Str) (rows : List Row), ds = [tabD K s rows] ∧ tabErr s rows = none ∧ ∀ L : Nat, (∀ p ∈ pcs s rows, p.length ≤ L) → L ≤ 16 → rt false (.int (L : Nat))
theorem p_Table_longest (T : Txt K mg) : FnD P w K mg base 1 (He.fAd K ("Table", some "longest")) 1 (phTlong K) := mkTable_longest T fun cdv A outer s H E hr ds rt xs hφ hl => by
  obtain ⟨z, rows, rfl, hT, h⟩ := hφ
  have nd := scTable_longest.nd
  have big : (2000 : Nat) ≤ sizeLine := by decide
  have hls := pcs_len hT
  obtain ⟨_, _, hs3⟩ := tab_small hT
  obtain ⟨hs1, _, _, _⟩ := signErr_none (tabErr_none hT).1
  refine wd_one <| w_ret <| maxL_ T.zmax <| ed_lc (own := [("piece", 1)]) rfl nd (blkOk_by rfl) <| ei_list <| fld T.kTable T.nTable_kept_pieces <| nl 0 rfl rfl rfl ⟨rfl, rfl, .inl ⟨_, rfl, fun j acc => acc = (((pcs z rows).take j).map fun p => intD p.length), rfl, fun j d acc hd hI s0 H0 C cl fp xe => ?_, fun acc hI => ?_⟩⟩
  · obtain ⟨p, hp, rfl⟩ := map_get hd
    have hj : j < (pcs z rows).length := (List.getElem?_eq_some_iff.mp hp).1
    have := hls p (List.mem_of_getElem? hp)
    refine tc_name (i := 1) nd rfl (.inl rfl) (by simp) <| ets_nil ⟨fun _ => ?_, fun e => (nomatch e)⟩
    refine len_ T.zlen <| nl 1 rfl rfl rfl ⟨_, len_str (by omega), ?_, ?_⟩
    · rw [hI, List.length_map, List.length_take]; omega
    · dsimp only at hI ⊢; rw [hI, take_succ hp, List.map_append]; rfl
  · rw [List.length_map, List.take_length] at hI
    have hne : 0 < (pcs z rows).length := by rw [pcs_length]; omega
    refine ⟨(pcs z rows).map fun p => ((p.length : Nat) : Int), by rw [hI, List.map_map]; rfl, by rw [List.length_map]; exact hne, fun m hm hmax => ?_⟩
    obtain ⟨p, hp, rfl⟩ := List.mem_map.mp hm
    refine h p.length (fun q hq => ?_) (hls p hp)
    have := hmax ((q.length : Nat) : Int) (List.mem_map.mpr ⟨q, hq, rfl⟩)
    omega
def phBegins (K : PySem.W.Frag) : Ph := fun ds rt _ => ∃ (s : Str) (rows : List Row) (z : Str) (e : Nat), ds = [tabD K s rows, .str z, .int (e : Nat)] ∧ tabErr s rows = none ∧ z.length ≤ 100000 ∧ e ≤ z.length ∧ rt true (.lst ((begs (pcs s rows) z e).map intD))
theorem p_begins (T : Txt K mg) : FnD P w K mg base 2 (He.fAd K ("begins", none)) 3 (phBegins K) := mkbegins T fun cdv A outer s H E hr ds rt xs hφ hl => by
  obtain ⟨sg, rows, z, e, rfl, hT, hz, he, h⟩ := hφ
  have nd := scbegins.nd
  have big : (100000 : Nat) ≤ sizeLine := by decide
  have big62 : (100000 : Int) < 2 ^ 62 := by decide
  refine wd_cons <| asg 3 nd rfl rfl <| ed_lst <| ea_nil ⟨by decide, ?_⟩
  refine wd_cons <| w_for rfl <| rg2 T.zrange <| max2_ T.zmax <| ed_int <| ed_bin <| nl 2 rfl rfl rfl <| meth0 T.kTable T.mTable_longest (p_Table_longest T) (hr.mono (by decide)) <| nl 0 rfl rfl rfl ⟨rfl, rfl, sg, rows, rfl, hT, fun L hL hL16 => ?_⟩
  refine sub_ii ⟨_, _, rfl, rfl, nl 2 rfl rfl rfl ?_⟩
  obtain ⟨lo, hlo, hlo1, hlo2⟩ : ∃ lo : Nat, max (0 : Int) (((e : Nat) : Int) - ((L : Nat) : Int)) = ((lo : Nat) : Int) ∧ lo ≤ e ∧ (lo = 0 ∨ lo + L = e) := ⟨(max (0 : Int) (((e : Nat) : Int) - ((L : Nat) : Int))).toNat, by omega, by omega, by omega⟩
  rw [hlo]
  have start : (List.range lo).filter (fun b => decide (subT z b e ∈ pcs sg rows)) = [] := by
    rw [List.filter_eq_nil_iff]
    intro b hb
    rw [decide_eq_true_iff]
    intro hm
    have hb := List.mem_range.mp hb
    have := hL _ hm
    rw [sub_len he] at this
    omega
  refine ⟨_, _, rfl, rfl, ⟨by omega, by omega, by omega, by omega⟩, fun i Γ => ∃ o4 : Option (Bool × D), Γ = [some (false, tabD K sg rows), some (false, .str z), some (false, .int (e : Nat)), some (true, .lst (((List.range (lo + i)).filter fun b => decide (subT z b e ∈ pcs sg rows)).map intD)), o4],
    ⟨none, by rw [Nat.add_zero, start]; rfl⟩, fun i d Γ' hd ⟨o4, eΓ⟩ => ?_, fun Γ' ⟨o4, eΓ⟩ => ?_⟩
  · subst eΓ
    obtain ⟨hi, rfl⟩ := rangeD_get hd
    have hi : lo + i < e := by omega
    rw [show ((lo : Nat) : Int) + (i : Int) = ((lo + i : Nat) : Int) by omega]
    have hr1 : List.range (lo + (i + 1)) = List.range (lo + i) ++ [lo + i] := by rw [← Nat.add_assoc, List.range_succ]
    refine td_name (i := 4) nd rfl (.inl rfl) ?_
    refine wd_one <| w_if <| et_cmp <| meth T.kTable T.mTable_which (p_Table_whichA T) (hr.mono (by decide)) <| nl 0 rfl rfl rfl ⟨rfl, rfl, ea_cons <| ed_slice <| nl 1 rfl rfl rfl <| eo_some <| nl 4 rfl rfl rfl ⟨_, rfl, eo_some <| nl 2 rfl rfl rfl ⟨_, rfl, by omega, ea_nil ⟨rfl, sg, rows, _, rfl, rfl, ed_non <| not_non ?_⟩⟩⟩⟩
    rw [which_non, Bool.not_not]
    show (isPc (pcs sg rows) (.str (subT z (lo + i) e)) = true → _) ∧ (isPc (pcs sg rows) (.str (subT z (lo + i) e)) = false → _)
    refine ⟨fun hc => ?_, fun hc => ?_⟩
    · refine wd_one <| app 3 rfl (.inl rfl) rfl <| nl 4 rfl rfl rfl ⟨?_, some (false, .int ((lo + i : Nat) : Int)), ?_⟩
      · rw [List.length_map]
        have := List.length_filter_le (fun b => decide (subT z b e ∈ pcs sg rows)) (List.range (lo + i))
        rw [List.length_range] at this
        omega
      · rw [hr1, List.filter_append, List.filter_cons_of_pos (p := fun b => decide (subT z b e ∈ pcs sg rows)) hc, List.map_append]; rfl
    · refine wd_nil ⟨some (false, .int ((lo + i : Nat) : Int)), ?_⟩
      rw [hr1, List.filter_append, List.filter_cons_of_neg (p := fun b => decide (subT z b e ∈ pcs sg rows)) (by show ¬ isPc (pcs sg rows) (.str (subT z (lo + i) e)) = true; rw [hc]; exact Bool.false_ne_true)]
      simp
  · subst eΓ
    rw [rangeD_length, show lo + (((e : Nat) : Int) - ((lo : Nat) : Int)).toNat = e by omega]
    exact wd_one <| w_retO (i := 3) rfl (.inl rfl) rfl rfl h
end
end Lw

namespace Lw
open PySem L2 DL TL
/-! ### what heights are -/
def Climb (ps : List Str) (z : Str) (ts : List Int) : Prop := ∀ (b e : Nat) (tb te : Int), b < e → e ≤ z.length → subT z b e ∈ ps → ts[b]? = some tb → ts[e]? = some te → te ≤ tb + 1
/-- it is heights for a text -/
def IsH (ps : List Str) (z : Str) (d : D) : Prop := ∃ ts : List Int, d = .lst (ts.map D.int) ∧ ts.length = z.length + 1 ∧ ts[0]? = some 0 ∧ Climb ps z ts
theorem ints_inj {ts us : List Int} (h : ts.map D.int = us.map D.int) : ts = us := by
  induction ts generalizing us with
  | nil => cases us with
    | nil => rfl
    | cons _ _ => cases h
  | cons t r ih => cases us with
    | nil => cases h
    | cons u v =>
      rw [List.map_cons, List.map_cons] at h
      injection h with h1 h2
      injection h1 with h1
      rw [h1, ih h2]
theorem IsH.of {ps : List Str} {z : Str} {ts : List Int} (h : IsH ps z (.lst (ts.map D.int))) : ts.length = z.length + 1 ∧ ts[0]? = some 0 ∧ Climb ps z ts := by
  obtain ⟨us, e, h⟩ := h
  injection e with e
  rw [ints_inj e]; exact h
end Lw

namespace Lw
open PySem L2 DL TL
/-! ### the fewest pieces -/
def ExTo (ps : List Str) (z : Str) (n : Nat) (ts : List Int) : Prop := ts.length = n + 1 ∧ ts[0]? = some 0 ∧ ∀ (e : Nat) (te : Int), 1 ≤ e → e ≤ n → ts[e]? = some te → (∀ b tb, b ∈ begs ps z e → ts[b]? = some tb → te ≤ tb + 1) ∧ ∃ b tb, b ∈ begs ps z e ∧ ts[b]? = some tb ∧ te = tb + 1
def Exact (ps : List Str) (z : Str) (ts : List Int) : Prop := ExTo ps z z.length ts
theorem Exact.isH {ps : List Str} {z : Str} {ts : List Int} (h : Exact ps z ts) : IsH ps z (.lst (ts.map D.int)) :=
  ⟨ts, rfl, h.1, h.2.1, fun b e tb te h1 h2 h3 h4 h5 => (h.2.2 e te (by omega) h2 h5).1 b tb (begs_mem.mpr ⟨h1, h3⟩) h4⟩
theorem begs_ne {s z : Str} (rows : List Row) (htx : TxOf s z) {e : Nat} (h1 : 1 ≤ e) (h2 : e ≤ z.length) : begs (pcs s rows) z e ≠ [] := by
  have hl : e - 1 < (tl z).length := by rw [← len_tl]; omega
  have hc := List.getElem?_eq_getElem hl
  generalize (tl z)[e - 1] = c at hc
  have hm : e - 1 ∈ begs (pcs s rows) z e := by
    refine begs_mem.mpr ⟨by omega, ?_⟩
    have : subT z (e - 1) e = ⟨#[c]⟩ := ext_tl (by
      rw [tl_sub]
      have := take_succ hc
      rw [show e - 1 + 1 = e by omega] at this
      rw [this, List.drop_append_of_le_length (by rw [List.length_take]; omega), List.drop_eq_nil_of_le (by rw [List.length_take]; omega), List.nil_append])
    rw [this]
    exact one_pc rows htx (List.mem_of_getElem? hc)
  intro e0
  rw [e0] at hm; cases hm
theorem begs_len {ps : List Str} {z : Str} {e : Nat} : (begs ps z e).length ≤ e := by
  have := List.length_filter_le (fun b => decide (subT z b e ∈ ps)) (List.range e)
  rw [List.length_range] at this
  exact this
theorem getD_at {ts : List Int} {b : Nat} (h : b < ts.length) : ts[b]? = some (ts.getD b 0) := by
  rw [List.getD_eq_getElem?_getD, List.getElem?_eq_getElem h]; rfl
section
variable {P : Program} {w : World} {K : PySem.W.Frag} {mg : Str → Option Value} {base : Heap}
def phHeights (K : PySem.W.Frag) : Ph := fun ds rt xs => ∃ (s : Str) (rows : List Row) (t : D), ds = [tabD K s rows, t] ∧ tabErr s rows = none ∧ TxK t ∧ (∀ z ts, t = .str z → errT s t = none → Exact (pcs s rows) z ts → rt true (.lst (ts.map D.int))) ∧ ∀ p, errT s t = some p → xs ⟨He.ga K "NoSign", [("place", p)]⟩
theorem p_heights (T : Txt K mg) : FnD P w K mg base 4 (He.fAd K ("heights", none)) 2 (phHeights K) := mkheights T fun cdv A outer s H E hr ds rt xs hφ hl => by
  obtain ⟨sg, rows, t, rfl, hT, hx, h1, h2⟩ := hφ
  have nd := scheights.nd
  have big : (200000 : Nat) ≤ sizeLine := by decide
  have big62 : (200000 : Int) < 2 ^ 62 := by decide
  refine wd_cons <| w_expr <| call_ (p_look_at_text T) hr T.glook_at_text <| ea_cons <| nl 0 rfl rfl rfl <| ea_cons <| nl 1 rfl rfl rfl <| ea_nil ⟨rfl, sg, rows, t, rfl, hx, fun e => ?_, fun p e => h2 p e⟩
  obtain ⟨z, rfl⟩ : ∃ z, t = .str z := by cases t <;> first | exact ⟨_, rfl⟩ | cases e
  have hz := hx.2 z rfl
  have h1 := fun ts => h1 z ts rfl e
  have htx : TxOf sg z := badAt_none.mp (Option.map_eq_none_iff.mp e)
  refine wd_cons <| asgc 2 nd rfl rfl rfl <| ed_lst <| ea_cons <| ed_int <| ea_nil ⟨(by show 1 ≤ sizeLine; decide), ?_⟩
  refine wd_cons <| w_for rfl <| rg2 T.zrange <| ed_int <| ed_bin <| len_ T.zlen <| nl 1 rfl rfl rfl ⟨_, len_str (by omega), ed_int <| add_ii ⟨1, _, rfl, rfl, ⟨by decide, by decide, by omega, by omega⟩, fun i Γ => ∃ (ts : List Int) (o3 o4 : Option (Bool × D)), Γ = [some (false, tabD K sg rows), some (false, .str z), some (true, .lst (ts.map D.int)), o3, o4] ∧ ExTo (pcs sg rows) z i ts,
    ⟨[0], none, none, rfl, rfl, rfl, fun e te h1 h2 => by omega⟩, fun i d Γ' hd ⟨ts, o3, o4, e, hex⟩ => ?_, fun Γ' ⟨ts, o3, o4, e, hex⟩ => ?_⟩⟩
  · subst e
    obtain ⟨hi, rfl⟩ := rangeD_get hd
    have hi : i + 1 ≤ z.length := by omega
    rw [show (1 : Int) + (i : Int) = ((i + 1 : Nat) : Int) by omega]
    obtain ⟨e1, e2, e3⟩ := hex
    refine td_name (i := 3) nd rfl (.inl rfl) ?_
    refine wd_one <| app 2 rfl (.inr (.inl rfl)) rfl <| ed_bin <| ed_int <| minL_ T.zmin <| ed_lc (own := [("begin", 4)]) rfl nd (blkOk_by rfl) <| ei_list <| call_ (p_begins T) (hr.mono (by decide)) T.gbegins <| ea_cons <| nl 0 rfl rfl rfl <| ea_cons <| nl 1 rfl rfl rfl <| ea_cons <| nl 3 rfl rfl rfl <| ea_nil ⟨rfl, sg, rows, z, i + 1, rfl, hT, hz, hi, .inl ⟨_, rfl, fun j acc => acc = (((begs (pcs sg rows) z (i + 1)).take j).map fun b => ts.getD b 0).map D.int, rfl, fun j d acc hd hI s0 H0 C cl fp xe => ?_, fun acc hI => ?_⟩⟩
    · obtain ⟨b, hb1, rfl⟩ := map_get hd
      have hj := (List.getElem?_eq_some_iff.mp hb1).1
      have hjl := begs_len (ps := pcs sg rows) (z := z) (e := i + 1)
      obtain ⟨b1, b2⟩ := begs_mem.mp (List.mem_of_getElem? hb1)
      have ab : L2.atI (ts.map D.int) ((b : Nat) : Int) = some (.int (ts.getD b 0)) := atI_map D.int (at_nat (getD_at (by omega)))
      refine tc_name (i := 4) nd rfl (.inl rfl) (by simp) <| ets_nil ⟨fun _ => ?_, fun e => (nomatch e)⟩
      refine ed_flat <| ed_ix <| nc 2 rfl rfl rfl <| nl 4 rfl rfl rfl <| ix_lst ab ⟨rfl, ?_, ?_⟩
      · rw [hI, List.length_map, List.length_map, List.length_take]; omega
      · dsimp only at hI ⊢; rw [hI, take_succ hb1, List.map_append, List.map_append]; rfl
    · rw [List.length_map, List.take_length] at hI
      have hne := begs_ne rows htx (e := i + 1) (by omega) hi
      refine ⟨(begs (pcs sg rows) z (i + 1)).map fun b => ts.getD b 0, by rw [hI], by rw [List.length_map]; exact List.length_pos_iff.mpr hne, fun m hm hmin => add_ii ⟨by rw [List.length_map]; omega, ts ++ [1 + m], some (false, .int ((i + 1 : Nat) : Int)), o4, by rw [List.map_append]; rfl, ?_⟩⟩
      have old : ∀ (b : Nat) (tb : Int), (ts ++ [1 + m])[b]? = some tb → b ≤ i → ts[b]? = some tb := fun b tb h hb => by
        rw [List.getElem?_append_left (by omega)] at h; exact h
      refine ⟨by rw [List.length_append, e1]; rfl, by rw [List.getElem?_append_left (by omega)]; exact e2, fun e te h1 h2 h3 => ?_⟩
      by_cases he : e ≤ i
      · have h3 := old e te h3 he
        obtain ⟨f1, b, tb, f2, f3, f4⟩ := e3 e te h1 he h3
        refine ⟨fun b' tb' hb' htb' => f1 b' tb' hb' (old b' tb' htb' (by have := (begs_mem.mp hb').1; omega)), b, tb, f2, ?_, f4⟩
        rw [List.getElem?_append_left (by have := (begs_mem.mp f2).1; omega)]; exact f3
      · have he : e = i + 1 := by omega
        subst he
        have hte : te = 1 + m := by
          rw [List.getElem?_append_right (by omega), e1, Nat.sub_self] at h3
          cases h3; rfl
        subst hte
        refine ⟨fun b' tb' hb' htb' => ?_, ?_⟩
        · have hb2 := (begs_mem.mp hb').1
          have h4 := old b' tb' htb' (by omega)
          have := hmin (ts.getD b' 0) (List.mem_map.mpr ⟨b', hb', rfl⟩)
          rw [getD_at (by omega)] at h4
          have := Option.some.inj h4
          omega
        · obtain ⟨b, hb, ebm⟩ := List.mem_map.mp hm
          have hb2 := (begs_mem.mp hb).1
          refine ⟨b, m, hb, ?_, by omega⟩
          rw [List.getElem?_append_left (by omega), getD_at (by omega), ebm]
  · subst e
    rw [rangeD_length, show (((z.length : Nat) : Int) + 1 - 1).toNat = z.length by omega] at hex
    exact wd_one <| w_retO (i := 2) rfl (.inr (.inl rfl)) rfl rfl <| h1 ts hex
def phFewest (K : PySem.W.Frag) : Ph := fun ds rt xs => ∃ (s : Str) (rows : List Row) (t : D), ds = [tabD K s rows, t] ∧ tabErr s rows = none ∧ TxK t ∧ (∀ z ts qs, t = .str z → errT s t = none → Exact (pcs s rows) z ts → (∀ q ∈ qs, q ∈ pcs s rows) → Txt.join "" qs = z → qs.length ≤ z.length → ts[z.length]? = some ((qs.length : Nat) : Int) → rt true (.lst (qs.map D.str))) ∧ ∀ p, errT s t = some p → xs ⟨He.ga K "NoSign", [("place", p)]⟩
theorem p_fewest (T : Txt K mg) : FnD P w K mg base 5 (He.fAd K ("fewest", none)) 2 (phFewest K) := mkfewest T fun cdv A outer s H E hr ds rt xs hφ hl => by
  obtain ⟨sg, rows, t, rfl, hT, hx, h1, h2⟩ := hφ
  have nd := scfewest.nd
  have big : (200000 : Nat) ≤ sizeLine := by decide
  have big62 : (200000 : Int) < 2 ^ 62 := by decide
  refine wd_cons <| asg 2 nd rfl rfl <| call_ (p_heights T) hr T.gheights <| ea_cons <| nl 0 rfl rfl rfl <| ea_cons <| nl 1 rfl rfl rfl <| ea_nil ⟨rfl, sg, rows, t, rfl, hT, hx, fun z ts e1 e2 hex => ?_, fun p e => h2 p e⟩
  subst e1
  have hz := hx.2 z rfl
  have h1 := fun qs => h1 z ts qs rfl e2 hex
  have htx : TxOf sg z := badAt_none.mp (Option.map_eq_none_iff.mp e2)
  obtain ⟨x1, x2, x3⟩ := hex
  obtain ⟨tz, htz⟩ : ∃ tz, ts[z.length]? = some tz := ⟨_, List.getElem?_eq_getElem (by omega)⟩
  have hsub := fun (b e : Nat) => cutS_len z (some (b : Int)) (some (e : Int))
  refine wd_know 2 rfl <| wd_cons <| asg 3 nd rfl rfl <| ed_lst <| ea_nil ⟨by decide, ?_⟩
  refine wd_cons <| asg 4 nd rfl rfl <| len_ T.zlen <| nl 1 rfl rfl rfl ⟨_, len_str (by omega), ?_⟩
  refine wd_cons <| w_while ⟨fun m Γ => ∃ (qs : List Str) (e : Nat) (te : Int) (o5 : Option (Bool × D)), Γ = [some (false, tabD K sg rows), some (false, .str z), some (false, .lst (ts.map D.int)), some (true, .lst (qs.map D.str)), some (false, .int (e : Nat)), o5] ∧ m = e ∧ e ≤ z.length ∧ qs.length + e ≤ z.length ∧ (∀ q ∈ qs, q ∈ pcs sg rows) ∧ (qs.reverse.map tl).flatten = (tl z).drop e ∧ ts[e]? = some te ∧ tz = te + (qs.length : Nat),
    ⟨_, [], z.length, tz, none, rfl, rfl, Nat.le_refl _, by simp, fun _ h => (nomatch h), by rw [List.drop_eq_nil_of_le (by rw [← len_tl]; exact Nat.le_refl _)]; rfl, htz, by simp⟩, fun m Γ' ⟨qs, e, te, o5, eΓ, hm, he, hqe, hq, hfl, hte, htot⟩ => ?_⟩
  subst eΓ hm
  refine et_cmp <| nl 4 rfl rfl rfl <| ed_int <| gt_ii ⟨fun c => ?_, fun c => ?_⟩
  · have he1 : 1 ≤ m := by have := of_decide_eq_true c; omega
    obtain ⟨_, b0, tb0, g1, g2, g3⟩ := x3 m te he1 he hte
    have ae : L2.atI (ts.map D.int) ((m : Nat) : Int) = some (.int te) := atI_map D.int (at_nat hte)
    refine wd_one <| w_for rfl <| ei_list <| call_ (p_begins T) (hr.mono (by decide)) T.gbegins <| ea_cons <| nl 0 rfl rfl rfl <| ea_cons <| nl 1 rfl rfl rfl <| ea_cons <| nl 4 rfl rfl rfl <| ea_nil ⟨rfl, sg, rows, z, m, rfl, hT, hz, he, .inl ⟨_, rfl, fun j Γ => ∃ o5 : Option (Bool × D), Γ = [some (false, tabD K sg rows), some (false, .str z), some (false, .lst (ts.map D.int)), some (true, .lst (qs.map D.str)), some (false, .int (m : Nat)), o5] ∧ ∀ b ∈ (begs (pcs sg rows) z m).take j, b ≠ b0,
      ⟨o5, rfl, fun b hb => by rw [List.take_zero] at hb; cases hb⟩, fun j d Γ' hd ⟨o5, eΓ, hno⟩ => ?_, fun Γ' ⟨o5, eΓ, hno⟩ => ?_⟩⟩
    · subst eΓ
      obtain ⟨b, hb1, rfl⟩ := map_get hd
      obtain ⟨b1, b2⟩ := begs_mem.mp (List.mem_of_getElem? hb1)
      obtain ⟨tb, htb⟩ : ∃ tb, ts[b]? = some tb := ⟨_, List.getElem?_eq_getElem (by omega)⟩
      have ab : L2.atI (ts.map D.int) ((b : Nat) : Int) = some (.int tb) := atI_map D.int (at_nat htb)
      refine td_name (i := 5) nd rfl (.inl rfl) ?_
      refine wd_one <| w_if <| et_cmp <| ed_ix <| nl 2 rfl rfl rfl <| nl 5 rfl rfl rfl <| ix_lst ab <| ed_bin <| ed_ix <| nl 2 rfl rfl rfl <| nl 4 rfl rfl rfl <| ix_lst ae <| ed_int <| sub_ii <| eq_ii ⟨fun c2 => ?_, fun c2 => ?_⟩
      · have c2 : tb = te - 1 := of_decide_eq_true c2
        have hsl := sub_len (b := b) he
        refine wd_cons <| app 3 rfl (.inl rfl) rfl <| ed_slice <| nl 1 rfl rfl rfl <| eo_some <| nl 5 rfl rfl rfl ⟨_, rfl, eo_some <| nl 4 rfl rfl rfl ⟨_, rfl, by omega, by rw [List.length_map]; omega, ?_⟩⟩
        refine wd_cons <| asg 4 nd rfl rfl <| nl 5 rfl rfl rfl ?_
        refine wd_one <| w_break ⟨b, b1, qs ++ [subT z b m], b, tb, some (false, .int (b : Nat)), by rw [List.map_append]; rfl, rfl, by omega, by rw [List.length_append]; simp only [List.length_cons, List.length_nil]; omega, fun q hq' => ?_, ?_, htb, by rw [List.length_append]; simp only [List.length_cons, List.length_nil]; omega⟩
        · rcases List.mem_append.mp hq' with h | h
          · exact hq q h
          · rw [List.mem_singleton.mp h]; exact b2
        · rw [List.reverse_append, List.reverse_cons, List.reverse_nil, List.nil_append, List.map_append, List.flatten_append, hfl]
          show [tl (subT z b m)].flatten ++ _ = _
          rw [List.flatten_cons, List.flatten_nil, List.append_nil, tl_sub]
          have key : (tl z).drop b = ((tl z).take m ++ (tl z).drop m).drop b := by rw [List.take_append_drop]
          rw [key, List.drop_append_of_le_length (by rw [List.length_take, ← len_tl]; omega)]
      · have c2 : ¬ tb = te - 1 := of_decide_eq_false c2
        refine wd_nil ⟨_, rfl, fun b' hb' => ?_⟩
        rw [take_succ hb1] at hb'
        rcases List.mem_append.mp hb' with h | h
        · exact hno b' h
        · rw [List.mem_singleton.mp h]
          intro eb
          subst eb
          rw [htb] at g2; cases g2
          omega
    · subst eΓ
      rw [List.length_map, List.take_length] at hno
      exact absurd rfl (hno b0 g1)
  · have he0 : m = 0 := by have := of_decide_eq_false c; omega
    subst he0
    rw [x2] at hte; cases hte
    rw [List.drop_zero] at hfl
    refine wd_one <| w_ret <| ed_flatTL <| ed_revL <| nl 3 rfl rfl rfl ⟨_, rfl, rfl, _, rfl, ?_, ?_⟩
    · rw [← List.map_reverse]; exact flatTs_strs _
    · rw [← List.map_reverse]
      exact h1 qs.reverse (fun q h => hq q (List.mem_reverse.mp h)) (ext_tl (by rw [join_empty, hfl])) (by rw [List.length_reverse]; omega) (by rw [htz, List.length_reverse, htot]; simp)
end
end Lw

namespace Lw
open PySem L2 DL TL
/-! ### the pieces at a place of a text -/
def pAt (ps : List Str) (z : Str) (i : Nat) : List Str := ps.filter fun p => decide (cutS z (some (i : Int)) (some ((i + p.length : Nat) : Int)) = p)
theorem tl_cut2 (z : Str) (a b : Nat) : tl (cutS z (some (a : Int)) (some (b : Int))) = ((tl z).take b).drop a := by
  show (((z.cps.toList.drop _).take _).toArray).toList = _
  rw [HT.sIx_nat, HT.sIx_nat, List.toList_toArray]
  have hl : z.length = z.cps.toList.length := len_tl z
  rw [hl]
  show ((z.cps.toList.drop (min a z.cps.toList.length)).take (min b z.cps.toList.length - min a z.cps.toList.length)) = (z.cps.toList.take b).drop a
  generalize z.cps.toList = l
  rw [List.drop_take]
  by_cases ha : a ≤ l.length
  · rw [Nat.min_eq_left ha]
    by_cases hb : b ≤ l.length
    · rw [Nat.min_eq_left hb]
    · rw [Nat.min_eq_right (by omega)]
      rw [List.take_of_length_le (by rw [List.length_drop]; exact Nat.le_refl _), List.take_of_length_le (by rw [List.length_drop]; omega)]
  · rw [Nat.min_eq_right (show l.length ≤ a by omega), List.drop_length, List.take_nil, List.drop_eq_nil_of_le (by omega), List.take_nil]
theorem pAt_mem {ps : List Str} {z : Str} {i : Nat} {p : Str} : p ∈ pAt ps z i ↔ p ∈ ps ∧ ((tl z).take (i + p.length)).drop i = tl p := by
  unfold pAt
  rw [List.mem_filter, decide_eq_true_iff]
  refine and_congr Iff.rfl ⟨fun h => ?_, fun h => ?_⟩
  · rw [← tl_cut2, h]
  · exact ext_tl (by rw [tl_cut2, h])
theorem pAt_len {ps : List Str} {z : Str} {i : Nat} {p : Str} (h : p ∈ pAt ps z i) (hp : 1 ≤ p.length) : i + p.length ≤ z.length ∧ (tl z).take (i + p.length) = (tl z).take i ++ tl p := by
  have h := (pAt_mem.mp h).2
  have hl := congrArg List.length h
  rw [List.length_drop, List.length_take, ← len_tl, ← len_tl] at hl
  refine ⟨by omega, ?_⟩
  refine (List.take_append_drop i _).symm.trans ?_
  rw [h, List.take_take, Nat.min_eq_left (by omega)]
theorem pAt_ne {s z : Str} {rows : List Row} (htx : TxOf s z) {i : Nat} (hi : i < z.length) : pAt (pcs s rows) z i ≠ [] := by
  have hl : i < (tl z).length := by rw [← len_tl]; exact hi
  have hc := List.getElem?_eq_getElem hl
  generalize (tl z)[i] = c at hc
  have : (⟨#[c]⟩ : Str) ∈ pAt (pcs s rows) z i := by
    rw [pAt_mem]
    refine ⟨one_pc rows htx (List.mem_of_getElem? hc), ?_⟩
    show ((tl z).take (i + 1)).drop i = [c]
    rw [take_succ hc, List.drop_append_of_le_length (by rw [List.length_take]; omega), List.drop_eq_nil_of_le (by rw [List.length_take]; omega), List.nil_append]
  intro e
  rw [e] at this; cases this
section
variable {P : Program} {w : World} {K : PySem.W.Frag} {mg : Str → Option Value} {base : Heap}
def phPat : Ph := fun ds rt _ => ∃ (ps : List Str) (z : Str) (i : Nat), ds = [.lst (ps.map D.str), .str z, .int (i : Nat)] ∧ ps.length ≤ 1000 ∧ z.length ≤ 100000 ∧ (∀ p ∈ ps, p.length ≤ 1000) ∧ rt true (.lst ((pAt ps z i).map D.str))
theorem p__law_pieces_at (T : Txt K mg) : FnD P w K mg base 1 (He.fAd K ("_law_pieces_at", none)) 3 phPat := mk_law_pieces_at T fun cdv A outer s H E hr ds rt xs hφ hl => by
  obtain ⟨ps, z, i, rfl, hpl, hz, hps, h⟩ := hφ
  have nd := sc_law_pieces_at.nd
  have big : (100000 : Nat) ≤ sizeLine := by decide
  refine wd_one <| w_ret <| ed_lc (own := [("_law_piece", 3)]) rfl nd (blkOk_by rfl) <| ei_list <| nl 0 rfl rfl rfl <| .inl ⟨_, rfl, fun j acc => acc = ((ps.take j).filter fun p => decide (cutS z (some (i : Int)) (some ((i + p.length : Nat) : Int)) = p)).map D.str, rfl, fun j d acc hd hI s0 H0 C cl fp xe => ?_, fun acc hI => ?_⟩
  · obtain ⟨p, hp, rfl⟩ := map_get hd
    have hj : j < ps.length := (List.getElem?_eq_some_iff.mp hp).1
    have hpn := hps p (List.mem_of_getElem? hp)
    refine tc_name (i := 3) nd rfl (.inl rfl) (by simp) <| ets_one <| et_cmp <| ed_slice <| nc 1 rfl rfl rfl <| eo_some <| nc 2 rfl rfl rfl ⟨_, rfl, eo_some <| ed_bin <| nc 2 rfl rfl rfl <| len_ T.zlen <| nl 3 rfl rfl rfl ⟨_, len_str (by omega), add_ii ⟨_, rfl, by omega, nl 3 rfl rfl rfl <| eq_ss ?_⟩⟩⟩
    have ei : ((i : Nat) : Int) + ((p.length : Nat) : Int) = ((i + p.length : Nat) : Int) := by omega
    rw [ei]
    refine ⟨fun e => ?_, fun e => ?_⟩
    · refine nl 3 rfl rfl rfl ⟨?_, ?_⟩
      · rw [hI, List.length_map]
        have := List.length_filter_le (fun p => decide (cutS z (some (i : Int)) (some ((i + p.length : Nat) : Int)) = p)) (ps.take j)
        rw [List.length_take] at this
        omega
      · dsimp only at hI ⊢
        rw [hI, take_succ hp, List.filter_append, List.map_append, List.filter_cons_of_pos (p := fun p => decide (cutS z (some (i : Int)) (some ((i + p.length : Nat) : Int)) = p)) e]
        rfl
    · dsimp only at hI ⊢
      rw [hI, take_succ hp, List.filter_append, List.map_append, List.filter_cons_of_neg (p := fun p => decide (cutS z (some (i : Int)) (some ((i + p.length : Nat) : Int)) = p)) (by rw [e]; exact Bool.false_ne_true)]
      simp
  · rw [List.length_map, List.take_length] at hI
    rw [hI]
    exact h
end
end Lw

namespace Lw
open PySem L2 DL TL
theorem pAt_sub {ps : List Str} {z : Str} {i : Nat} {p : Str} (h : p ∈ pAt ps z i) : p ∈ ps ∧ subT z i (i + p.length) = p := by
  unfold pAt at h
  rw [List.mem_filter, decide_eq_true_iff] at h
  exact h
theorem pAt_of {ps : List Str} {z : Str} {b e : Nat} (h : b < e) (he : e ≤ z.length) (hm : subT z b e ∈ ps) : subT z b e ∈ pAt ps z b := by
  unfold pAt
  rw [List.mem_filter, decide_eq_true_iff]
  refine ⟨hm, ?_⟩
  rw [sub_len he, show b + (e - b) = e by omega]; rfl
end Lw

namespace Lw
open PySem L2 DL TL
/-! ### texts drawn of signs -/
theorem join_signs {s : Str} {qs : List Str} (h : ∀ q ∈ qs, q ∈ signs s) : TxOf s (Txt.join "" qs) ∧ (Txt.join "" qs).length = qs.length := by
  have one : ∀ q ∈ qs, ∃ c, q = ⟨#[c]⟩ ∧ c ∈ s.cps.toList := fun q hq => by
    have := h q hq
    unfold signs at this
    obtain ⟨c, hc, rfl⟩ := List.mem_map.mp this
    exact ⟨c, rfl, hc⟩
  refine ⟨fun c hc => ?_, ?_⟩
  · rw [show (Txt.join "" qs).cps.toList = _ from join_empty qs] at hc
    obtain ⟨l, hl, hcl⟩ := List.mem_flatten.mp hc
    obtain ⟨q, hq, rfl⟩ := List.mem_map.mp hl
    obtain ⟨x, rfl, hx⟩ := one q hq
    have : c = x := by simpa [tl] using hcl
    rw [this]; exact hx
  · rw [len_tl, join_empty]
    clear h
    induction qs with
    | nil => rfl
    | cons q r ih =>
      obtain ⟨x, rfl, hx⟩ := one q List.mem_cons_self
      rw [List.map_cons, List.flatten_cons, List.length_append, ih fun z hz => one z (List.mem_cons_of_mem _ hz)]
      show 1 + r.length = r.length + 1
      omega
theorem tl_cut_to (z : Str) (i : Nat) : tl (cutS z none (some (i : Int))) = (tl z).take i := (cut_rot z (i : Int) (by omega)).2
theorem tl_cut_from (z : Str) (i : Nat) : tl (cutS z (some (i : Int)) none) = (tl z).drop i := (cut_rot z (i : Int) (by omega)).1
/-- a strange sign at a place -/
theorem err_at {s z y w : Str} {i c : Nat} (h : TxOf s z) (hi : i ≤ z.length) (hy : tl y = [c]) (hc : c ∉ s.cps.toList) : errT s (.str (cutS z none (some (i : Int)) ++ y ++ cutS z (some (i : Int)) none ++ w)) = some (.int (i : Nat)) := by
  show (badAt _ 0 _).map _ = _
  have e : (cutS z none (some (i : Int)) ++ y ++ cutS z (some (i : Int)) none ++ w).cps.toList = (tl z).take i ++ ([c] ++ ((tl z).drop i ++ tl w)) := by
    show tl _ = _
    rw [tl_append, tl_append, tl_append, tl_cut_to, tl_cut_from, hy]
    simp
  have hl : ((tl z).take i).length = i := by rw [List.length_take, ← len_tl]; omega
  rw [e, badAt_at (i := i) (c := c) (fun x hx => ?_) ?_ hc, Nat.zero_add]
  · rfl
  · rw [List.getElem?_append_right (by omega), hl, Nat.sub_self]; rfl
  · rw [List.take_left' hl] at hx
    exact h x (List.mem_of_mem_take hx)
theorem err_at1 {s z y : Str} {i c : Nat} (h : TxOf s z) (hi : i ≤ z.length) (hy : tl y = [c]) (hc : c ∉ s.cps.toList) : errT s (.str (cutS z none (some (i : Int)) ++ y ++ cutS z (some (i : Int)) none)) = some (.int (i : Nat)) := by
  have := err_at (w := Str.empty) h hi hy hc
  have e : cutS z none (some (i : Int)) ++ y ++ cutS z (some (i : Int)) none ++ Str.empty = cutS z none (some (i : Int)) ++ y ++ cutS z (some (i : Int)) none := ext_tl (by rw [tl_append]; simp [tl, Str.empty])
  rw [e] at this; exact this
theorem odd_sign {s : Str} (hS : signErr s = none) {c : Nat} (h : c < 32) : c ∉ s.cps.toList := fun hc => by
  have := (isSg_ge ((signErr_none hS).2.2.2 c hc)).1
  omega
theorem TxOf.lit {s z : Str} (hS : signErr s = none) (h : TxOf s z) : Lit z := sg_lit hS h
end Lw

namespace Lw
open PySem L2 DL TL
/-- along a row of pieces -/
def along (z : Str) (qs : List Str) : Prop := (qs.map tl).flatten = tl z
theorem flat_take {qs : List Str} {i : Nat} {q : Str} (h : qs[i]? = some q) : ((qs.take (i + 1)).map tl).flatten = ((qs.take i).map tl).flatten ++ tl q := by
  rw [take_succ h, List.map_append, List.flatten_append]; simp
theorem along_sub {z : Str} {qs : List Str} (h : along z qs) {i : Nat} {q : Str} (hq : qs[i]? = some q) : ∃ b : Nat, (((qs.take i).map tl).flatten).length = b ∧ b + q.length ≤ z.length ∧ subT z b (b + q.length) = q := by
  refine ⟨_, rfl, ?_, ?_⟩
  · have e : (qs.map tl).flatten = ((qs.take (i + 1)).map tl).flatten ++ ((qs.drop (i + 1)).map tl).flatten := by rw [← List.flatten_append, ← List.map_append, List.take_append_drop]
    have := congrArg List.length (e.symm.trans h)
    rw [List.length_append, flat_take hq, List.length_append, ← len_tl, ← len_tl] at this
    omega
  · have e : tl z = ((qs.take i).map tl).flatten ++ (tl q ++ ((qs.drop (i + 1)).map tl).flatten) := by
      rw [← h, ← List.append_assoc, ← flat_take hq, ← List.flatten_append, ← List.map_append, List.take_append_drop]
    refine ext_tl ?_
    rw [tl_sub, e, ← List.append_assoc, List.take_left' (by rw [List.length_append, ← len_tl]), List.drop_left' rfl]
/-- heights hold up every splitting -/
theorem climb_le {ps : List Str} {z : Str} {ts : List Int} {qs : List Str} (hH : IsH ps z (.lst (ts.map D.int))) (hal : along z qs) (hq : ∀ q ∈ qs, q ∈ ps ∧ 1 ≤ q.length) {t : Int} (ht : ts[z.length]? = some t) : t ≤ (qs.length : Nat) := by
  obtain ⟨hl1, hl2, hcl⟩ := hH.of
  have key : ∀ i, i ≤ qs.length → ∃ b tb, (((qs.take i).map tl).flatten).length = b ∧ ts[b]? = some tb ∧ tb ≤ (i : Nat) := by
    intro i
    induction i with
    | zero => intro _; exact ⟨0, 0, rfl, hl2, by omega⟩
    | succ i ih =>
      intro hi
      obtain ⟨b, tb, h1, h2, h3⟩ := ih (by omega)
      obtain ⟨q, hqi⟩ : ∃ q, qs[i]? = some q := ⟨_, List.getElem?_eq_getElem (show i < qs.length by omega)⟩
      obtain ⟨q1, q2⟩ := hq _ (List.mem_of_getElem? hqi)
      obtain ⟨b', hb', k1, k2⟩ := along_sub hal hqi
      have : b' = b := by omega
      subst this
      obtain ⟨te, hte⟩ : ∃ te, ts[b' + q.length]? = some te := ⟨_, List.getElem?_eq_getElem (by omega)⟩
      have hc := hcl b' (b' + q.length) tb te (by omega) k1 (by rw [k2]; exact q1) h2 hte
      exact ⟨_, te, by rw [flat_take hqi, List.length_append, h1, ← len_tl], hte, by omega⟩
  obtain ⟨b, tb, h1, h2, h3⟩ := key qs.length (Nat.le_refl _)
  rw [List.take_length] at h1
  have : b = z.length := by rw [← h1, show (qs.map tl).flatten = tl z from hal, len_tl]
  subst this
  rw [ht] at h2; cases h2
  exact h3
end Lw

namespace Lw
open PySem L2 DL TL
section
variable {P : Program} {w : World} {K : PySem.W.Frag} {mg : Str → Option Value} {base : Heap}
def phLawTextD : Ph := fun ds rt _ => ∃ (cell salt most : Int) (s : Str), ds = [.int cell, .int salt, .str s, .int most] ∧ 0 ≤ salt ∧ salt ≤ 1000000 ∧ 0 ≤ most ∧ most ≤ 100 ∧ signErr s = none ∧ ∀ z : Str, TxOf s z → z.length ≤ most.toNat → rt false (.str z)
theorem p__law_text (T : Txt K mg) : FnD P w K mg base 2 (He.fAd K ("_law_text", none)) 4 phLawTextD := mk_law_text T fun cdv A outer s H E hr ds rt xs hφ hl => by
  obtain ⟨cell, salt, most, sg, rfl, s0, s1, m0, m1, hS, h⟩ := hφ
  have nd := sc_law_text.nd
  have big : (100000 : Nat) ≤ sizeLine := by decide
  obtain ⟨hs1, hs2, _, _⟩ := signErr_none hS
  have e0 : [D.int (most + 1)] ++ (List.replicate most.toNat [D.int (sg.length : Nat)]).flatten = ((most + 1) :: List.replicate most.toNat ((sg.length : Nat) : Int)).map D.int := by
    rw [List.flatten_replicate_singleton, List.map_cons, List.map_replicate]; rfl
  refine wd_cons <| asg 4 nd rfl rfl <| call_ (p__law_numbers T) (hr.mono (by decide)) T.g_law_numbers <| ea_cons <| nl 0 rfl rfl rfl <| ea_cons <| nl 1 rfl rfl rfl <| ea_cons <| ed_bin <| ed_lst <| ea_cons <| ed_bin <| nl 3 rfl rfl rfl <| ed_int <| add_ii <| ea_nil ⟨(by show 1 ≤ sizeLine; decide), ed_bin <| ed_lst <| ea_cons <| len_ T.zlen <| nc 2 rfl rfl rfl ⟨_, len_str (by omega), ea_nil ⟨(by show 1 ≤ sizeLine; decide), nl 3 rfl rfl rfl <| mul_li (by show 1 * most.toNat ≤ sizeLine; omega) (by omega) (by omega) <| add_ll (by rw [List.flatten_replicate_singleton, List.length_replicate]; simp only [List.length_cons, List.length_nil]; omega) <|
    ea_nil ⟨rfl, cell, salt, (most + 1) :: List.replicate most.toNat ((sg.length : Nat) : Int), by rw [e0], fun x hx => ?_, s0, s1, by rw [List.length_cons, List.length_replicate]; omega, fun gs hg hb => ?_⟩⟩⟩⟩
  · have hx' : x = most + 1 ∨ x = ((sg.length : Nat) : Int) := by
      rcases List.mem_cons.mp hx with h | h
      · exact .inl h
      · exact .inr (List.mem_replicate.mp h).2
    have : 0 < x ∧ x ≤ 101 := by omega
    have h2 : x.natAbs < 2 ^ 7 := by omega
    exact ⟨this.1, Nat.lt_trans (log2_lt h2 (by decide)) (by decide)⟩
  rw [List.length_cons, List.length_replicate] at hg
  refine wd_know 4 rfl ?_
  obtain ⟨a0, g0, l0, u0⟩ : ∃ n, L2.atI (gs.map D.int) 0 = some (.int n) ∧ 0 ≤ n ∧ n < most + 1 := by
    have e := List.getElem?_eq_getElem (show 0 < gs.length by omega)
    exact ⟨gs[0], atI_map D.int (at_nat e), hb 0 _ _ e rfl⟩
  have hcut1 : cutD gs (some (1 : Int)) (some (1 + a0)) = (gs.drop 1).take a0.toNat := by
    have := cutD_nat gs 1 (1 + a0.toNat) (by omega) (by omega)
    rw [Nat.add_sub_cancel_left] at this
    rw [show (1 : Int) + a0 = ((1 + a0.toNat : Nat) : Int) by omega]
    exact this
  refine wd_one <| w_ret <| ed_join <| ed_str ⟨"", rfl, ed_lc (own := [("_law_digit", 5)]) rfl nd (blkOk_by rfl) <| ei_list <| ed_slice <| nl 4 rfl rfl rfl <| eo_some <| ed_int ⟨_, rfl, eo_some <| ed_bin <| ed_int <| ed_ix <| nl 4 rfl rfl rfl <| ed_int <| ix_lst g0 <| add_ii ⟨_, rfl, sl_lst <| .inl ⟨_, rfl, fun j acc => ∃ qs : List Str, acc = qs.map D.str ∧ qs.length = j ∧ ∀ q ∈ qs, q ∈ signs sg, ⟨[], rfl, rfl, fun _ h => (nomatch h)⟩, fun j d acc hd ⟨qs, hI, hql, hqs⟩ s0 H0 C cl fp xe => ?_, fun acc ⟨qs, hI, hql, hqs⟩ => ?_⟩⟩⟩⟩
  · rw [cutD_map, hcut1] at hd
    obtain ⟨n, hn', rfl⟩ := map_get hd
    have hjl := (List.getElem?_eq_some_iff.mp hn').1
    rw [List.length_take, List.length_drop] at hjl
    rw [List.getElem?_take_of_lt (by omega), List.getElem?_drop] at hn'
    have hs : ((most + 1) :: List.replicate most.toNat ((sg.length : Nat) : Int))[1 + j]? = some ((sg.length : Nat) : Int) := by
      rw [show 1 + j = j + 1 by omega, List.getElem?_cons_succ, List.getElem?_replicate, if_pos (by omega)]
    obtain ⟨n0, n1⟩ := hb (1 + j) n _ hn' hs
    obtain ⟨c, hc⟩ := atI_ex (xs := sg.cps.toList) n0 (by rw [show sg.cps.toList.length = sg.length from (len_tl sg).symm]; exact n1)
    refine tc_name (i := 5) nd rfl (.inl rfl) (by simp) <| ets_nil ⟨fun _ => ?_, fun e => (nomatch e)⟩
    refine ed_ix <| nc 2 rfl rfl rfl <| nl 5 rfl rfl rfl <| ix_str (by omega) hc ⟨by rw [hI, List.length_map]; omega, qs ++ [⟨#[c]⟩], by rw [hI, List.map_append]; rfl, by rw [List.length_append, hql]; rfl, fun q hq => ?_⟩
    rcases List.mem_append.mp hq with h | h
    · exact hqs q h
    · rw [List.mem_singleton.mp h]; exact List.mem_map.mpr ⟨c, atI_mem hc, rfl⟩
  rw [cutD_map, List.length_map, hcut1, List.length_take, List.length_drop] at hql
  obtain ⟨htx, htl⟩ := join_signs hqs
  refine ⟨qs, congrArg D.lst hI, join_sum (n := 0) (by omega) (fun y hy => ?_), h _ htx (by rw [htl]; omega)⟩
  have := hqs y hy
  unfold signs at this
  obtain ⟨c, _, rfl⟩ := List.mem_map.mp this
  show 1 ≤ 100
  decide
end
end Lw

namespace Lw
open PySem L2 DL TL
theorem pcs_nodup {s : Str} {rows : List Row} (h : tabErr s rows = none) : (pcs s rows).Nodup := by
  obtain ⟨a, _, c⟩ := tabErr_none h
  obtain ⟨_, _, nd, _⟩ := signErr_none a
  have key : ∀ (rows : List Row) (ps : List Str) (n : Nat), badRow ps n rows = none → ps.Nodup → (ps ++ rows.map fun r => r.1 ++ r.2).Nodup := by
    intro rows
    induction rows with
    | nil => intro ps n _ h; simpa using h
    | cons r t ih =>
      intro ps n h nd
      have h' : (if okRow ps r = true then badRow (ps ++ [r.1 ++ r.2]) (n + 1) t else some n) = none := h
      by_cases e : okRow ps r = true
      · rw [if_pos e] at h'
        have := ih (ps ++ [r.1 ++ r.2]) (n + 1) h' (by
          rw [List.nodup_append]
          exact ⟨nd, by simp, fun x hx y hy e2 => (okRow_len e).2 (by rw [List.mem_singleton.mp hy] at e2; rw [← e2]; exact hx)⟩)
        rw [List.map_cons]
        simpa using this
      · rw [if_neg e] at h'; cases h'
  exact key rows _ _ c nd
end Lw

namespace Lw
open PySem L2 DL TL
/-! ### all splittings of a stretch, and how many are shortest -/
/-- rows of pieces that make the text up to e -/
def RowP (ps : List Str) (z : Str) (e : Nat) (qs : List Str) : Prop := (∀ q ∈ qs, q ∈ ps) ∧ (qs.map tl).flatten = (tl z).take e
/-- rows of pieces that make the text from i on -/
def RowS (ps : List Str) (z : Str) (i : Nat) (qs : List Str) : Prop := (∀ q ∈ qs, q ∈ ps) ∧ (qs.map tl).flatten = (tl z).drop i
def Enum (p : List Str → Prop) (L : List (List Str)) : Prop := L.Nodup ∧ ∀ qs, qs ∈ L ↔ p qs
def cnt (L : List (List Str)) (t : Int) : Nat := (L.filter fun qs => decide (((qs.length : Nat) : Int) = t)).length
theorem Enum.len_le {p q : List Str → Prop} {L M : List (List Str)} (h : Enum p L) (k : Enum q M) (pq : ∀ x, p x → q x) : L.length ≤ M.length :=
  nodup_le h.1 fun x hx => (k.2 x).mpr (pq x ((h.2 x).mp hx))
theorem Enum.cnt_le {p : List Str → Prop} {L M : List (List Str)} (h : Enum p L) (k : Enum p M) (t : Int) : cnt L t ≤ cnt M t :=
  nodup_le (List.Pairwise.sublist List.filter_sublist h.1) fun x hx => by
    rw [List.mem_filter] at hx ⊢
    exact ⟨(k.2 x).mpr ((h.2 x).mp hx.1), hx.2⟩
theorem Enum.cnt_eq {p : List Str → Prop} {L M : List (List Str)} (h : Enum p L) (k : Enum p M) (t : Int) : cnt L t = cnt M t :=
  Nat.le_antisymm (h.cnt_le k t) (k.cnt_le h t)
theorem cnt_append (L M : List (List Str)) (t : Int) : cnt (L ++ M) t = cnt L t + cnt M t := by
  unfold cnt
  rw [List.filter_append, List.length_append]
theorem cnt_map {f : List Str → List Str} (hf : ∀ x, (f x).length = x.length + 1) (t : Int) : ∀ L : List (List Str), cnt (L.map f) t = cnt L (t - 1) := by
  intro L
  unfold cnt
  rw [List.filter_map, List.length_map]
  congr 2
  funext x
  show decide ((((f x).length : Nat) : Int) = t) = _
  rw [hf]
  exact decide_eq_decide.mpr ⟨fun h => by omega, fun h => by omega⟩
theorem cnt_zero {L : List (List Str)} {t : Int} (h : ∀ qs ∈ L, t < (qs.length : Nat)) : cnt L t = 0 := by
  unfold cnt
  rw [List.length_eq_zero_iff, List.filter_eq_nil_iff]
  intro x hx
  rw [decide_eq_true_iff]
  have := h x hx
  omega
theorem cnt_sum {α : Type} {g : α → List (List Str)} {c : α → Bool} {m : α → Int} {t : Int} : ∀ bs : List α, (∀ b ∈ bs, (c b = true → ((cnt (g b) t : Nat) : Int) = m b) ∧ (c b = false → cnt (g b) t = 0)) → ((cnt (bs.flatMap g) t : Nat) : Int) = ((bs.filter c).map m).sum := by
  intro bs
  induction bs with
  | nil => intro _; rfl
  | cons b r ih =>
    intro h
    have ih := ih fun x hx => h x (List.mem_cons_of_mem _ hx)
    obtain ⟨h1, h2⟩ := h b List.mem_cons_self
    rw [List.flatMap_cons, cnt_append]
    cases hc : c b with
    | true => rw [List.filter_cons_of_pos hc, List.map_cons, List.sum_cons, ← ih, ← h1 hc]; omega
    | false => rw [List.filter_cons_of_neg (by rw [hc]; exact Bool.false_ne_true), ← ih, h2 hc]; omega
/-! steps of the prefixes -/
theorem RowP.zero {ps : List Str} {z : Str} (hps : ∀ p ∈ ps, 1 ≤ p.length) {qs : List Str} : RowP ps z 0 qs ↔ qs = [] := by
  refine ⟨fun h => ?_, fun h => by subst h; exact ⟨fun _ h => (nomatch h), by rw [List.take_zero]; rfl⟩⟩
  cases qs with
  | nil => rfl
  | cons q r =>
    have h2 := congrArg List.length h.2
    rw [List.map_cons, List.flatten_cons, List.length_append, List.take_zero, ← len_tl] at h2
    have := hps q (h.1 q List.mem_cons_self)
    simp only [List.length_nil] at h2
    omega
theorem RowP.snoc {ps : List Str} {z : Str} {b e : Nat} {r : List Str} (hb : b ∈ begs ps z e) (h : RowP ps z b r) : RowP ps z e (r ++ [subT z b e]) := by
  obtain ⟨b1, b2⟩ := begs_mem.mp hb
  refine ⟨fun q hq => ?_, ?_⟩
  · rcases List.mem_append.mp hq with h1 | h1
    · exact h.1 q h1
    · rw [List.mem_singleton.mp h1]; exact b2
  · rw [List.map_append, List.flatten_append, h.2]
    show _ ++ [tl (subT z b e)].flatten = _
    rw [List.flatten_cons, List.flatten_nil, List.append_nil, tl_sub]
    have : (tl z).take b = ((tl z).take e).take b := by rw [List.take_take, Nat.min_eq_left (by omega)]
    rw [this, List.take_append_drop]
theorem RowP.split {ps : List Str} {z : Str} (hps : ∀ p ∈ ps, 1 ≤ p.length) {e : Nat} (he0 : 1 ≤ e) (he : e ≤ z.length) {qs : List Str} (h : RowP ps z e qs) : ∃ b r, b ∈ begs ps z e ∧ RowP ps z b r ∧ qs = r ++ [subT z b e] := by
  obtain ⟨h1, h2⟩ := h
  rcases List.eq_nil_or_concat qs with e0 | ⟨r, q, e0⟩
  · subst e0
    have := congrArg List.length h2
    rw [List.length_take, ← len_tl] at this
    simp only [List.map_nil, List.flatten_nil, List.length_nil] at this
    omega
  · rw [List.concat_eq_append] at e0
    subst e0
    have hq := h1 q (List.mem_append_right _ List.mem_cons_self)
    have hql := hps q hq
    rw [List.map_append, List.flatten_append] at h2
    have h3 : (r.map tl).flatten ++ tl q = (tl z).take e := by rw [← h2]; simp
    have hl := congrArg List.length h3
    rw [List.length_append, List.length_take, ← len_tl, ← len_tl, Nat.min_eq_left he] at hl
    have hsub : q = subT z ((r.map tl).flatten).length e := ext_tl (by rw [tl_sub, ← h3, List.drop_left])
    refine ⟨((r.map tl).flatten).length, r, begs_mem.mpr ⟨by omega, by rw [← hsub]; exact hq⟩, ⟨fun x hx => h1 x (List.mem_append_left _ hx), ?_⟩, by rw [← hsub]⟩
    have : (tl z).take ((r.map tl).flatten).length = ((tl z).take e).take ((r.map tl).flatten).length := by rw [List.take_take, Nat.min_eq_left (by omega)]
    rw [this, ← h3, List.take_left]
theorem begs_nodup (ps : List Str) (z : Str) (e : Nat) : (begs ps z e).Nodup := List.Pairwise.sublist List.filter_sublist List.nodup_range
theorem stepP {ps : List Str} {z : Str} (hps : ∀ p ∈ ps, 1 ≤ p.length) {e : Nat} (he0 : 1 ≤ e) (he : e ≤ z.length) {f : Nat → List (List Str)} (hf : ∀ b, b < e → Enum (RowP ps z b) (f b)) : Enum (RowP ps z e) ((begs ps z e).flatMap fun b => (f b).map fun r => r ++ [subT z b e]) := by
  refine ⟨?_, fun qs => ?_⟩
  · refine List.pairwise_flatMap.mpr ⟨fun b hb => ?_, ?_⟩
    · refine List.pairwise_map.mpr ((hf b (begs_mem.mp hb).1).1.imp fun {x y} hxy e1 => hxy (List.append_cancel_right e1))
    · refine List.Pairwise.imp_of_mem (fun {a b} ha hb hab x hx y hy e1 => ?_) (begs_nodup ps z e)
      obtain ⟨x', _, rfl⟩ := List.mem_map.mp hx
      obtain ⟨y', _, rfl⟩ := List.mem_map.mp hy
      have := (List.append_inj_right' e1 rfl)
      injection this with h1
      have hl := congrArg Str.length h1
      rw [sub_len he, sub_len he] at hl
      have := (begs_mem.mp ha).1
      have := (begs_mem.mp hb).1
      exact hab (by omega)
  · rw [List.mem_flatMap]
    refine ⟨fun ⟨b, hb, hq⟩ => ?_, fun h => ?_⟩
    · obtain ⟨r, hr, rfl⟩ := List.mem_map.mp hq
      exact RowP.snoc hb (((hf b (begs_mem.mp hb).1).2 r).mp hr)
    · obtain ⟨b, r, hb, hr, rfl⟩ := RowP.split hps he0 he h
      exact ⟨b, hb, List.mem_map.mpr ⟨r, ((hf b (begs_mem.mp hb).1).2 r).mpr hr, rfl⟩⟩
theorem range_sum {p : Nat → Bool} {g : Nat → List (List Str)} : ∀ n, (∀ b, b < n → (g b).length ≤ 2 ^ b) → (((List.range n).filter p).flatMap g).length + 1 ≤ 2 ^ n := by
  intro n
  induction n with
  | zero => intro _; simp
  | succ n ih =>
    intro h
    have h1 := ih fun b hb => h b (by omega)
    have h2 := h n (by omega)
    rw [List.range_succ, List.filter_append, List.flatMap_append, List.length_append, Nat.pow_succ]
    have h3 : (([n].filter p).flatMap g).length ≤ (g n).length := by
      cases hp : p n with
      | true => rw [List.filter_cons_of_pos hp, List.filter_nil, List.flatMap_cons, List.flatMap_nil, List.append_nil]; exact Nat.le_refl _
      | false => rw [List.filter_cons_of_neg (by rw [hp]; exact Bool.false_ne_true), List.filter_nil, List.flatMap_nil]; exact Nat.zero_le _
    omega
theorem enumP {ps : List Str} {z : Str} (hps : ∀ p ∈ ps, 1 ≤ p.length) (e : Nat) (he : e ≤ z.length) : ∃ L, Enum (RowP ps z e) L ∧ L.length ≤ 2 ^ e := by
  induction e using Nat.strongRecOn with
  | ind e ih =>
    by_cases h0 : e = 0
    · subst h0
      exact ⟨[[]], ⟨(by simp), fun qs => by rw [RowP.zero hps, List.mem_singleton]⟩, Nat.le_refl _⟩
    · have hx : ∀ b, ∃ L, b < e → Enum (RowP ps z b) L ∧ L.length ≤ 2 ^ b := fun b => by
        by_cases hb : b < e
        · obtain ⟨L, hL⟩ := ih b hb (by omega)
          exact ⟨L, fun _ => hL⟩
        · exact ⟨[], fun h => absurd h hb⟩
      refine ⟨_, stepP (f := fun b => (hx b).choose) hps (by omega) he fun b hb => ((hx b).choose_spec hb).1, ?_⟩
      have := range_sum (p := fun b => decide (subT z b e ∈ ps)) (g := fun b => ((hx b).choose).map fun r => r ++ [subT z b e]) e fun b hb => by
        rw [List.length_map]; exact ((hx b).choose_spec hb).2
      have h2 : ((begs ps z e).flatMap fun b => ((hx b).choose).map fun r => r ++ [subT z b e]).length + 1 ≤ 2 ^ e := this
      omega
/-! exact heights -/
theorem Exact.le {ps : List Str} {z : Str} {ts : List Int} (hps : ∀ p ∈ ps, 1 ≤ p.length) (hE : Exact ps z ts) (e : Nat) : ∀ (te : Int) (qs : List Str), e ≤ z.length → ts[e]? = some te → RowP ps z e qs → te ≤ (qs.length : Nat) := by
  induction e using Nat.strongRecOn with
  | ind e ih =>
    intro te qs he hte h
    by_cases h0 : e = 0
    · subst h0
      rw [hE.2.1] at hte; cases hte
      omega
    · obtain ⟨b, r, hb, hr, rfl⟩ := RowP.split hps (by omega) he h
      have hb1 := (begs_mem.mp hb).1
      obtain ⟨tb, htb⟩ : ∃ tb, ts[b]? = some tb := ⟨_, List.getElem?_eq_getElem (by have := hE.1; omega)⟩
      have h1 := (hE.2.2 e te (by omega) he hte).1 b tb hb htb
      have h2 := ih b hb1 tb r (by omega) htb hr
      rw [List.length_append]
      simp only [List.length_cons, List.length_nil]
      omega
theorem Exact.ex {ps : List Str} {z : Str} {ts : List Int} (hE : Exact ps z ts) (e : Nat) : ∀ (te : Int), e ≤ z.length → ts[e]? = some te → ∃ qs, RowP ps z e qs ∧ ((qs.length : Nat) : Int) = te := by
  induction e using Nat.strongRecOn with
  | ind e ih =>
    intro te he hte
    by_cases h0 : e = 0
    · subst h0
      rw [hE.2.1] at hte; cases hte
      exact ⟨[], ⟨fun _ h => (nomatch h), by rw [List.take_zero]; rfl⟩, rfl⟩
    · obtain ⟨_, b, tb, hb, htb, e1⟩ := hE.2.2 e te (by omega) he hte
      have hb1 := (begs_mem.mp hb).1
      obtain ⟨r, hr, hrl⟩ := ih b hb1 tb (by omega) htb
      refine ⟨_, RowP.snoc hb hr, ?_⟩
      rw [List.length_append]
      simp only [List.length_cons, List.length_nil]
      omega
/-- the number of shortest rows up to e, by those up to the begins -/
theorem cnt_stepP {ps : List Str} {z : Str} {ts : List Int} (hps : ∀ p ∈ ps, 1 ≤ p.length) (hE : Exact ps z ts) {e : Nat} {te : Int} (he0 : 1 ≤ e) (he : e ≤ z.length) (hte : ts[e]? = some te) {f : Nat → List (List Str)} (hf : ∀ b, b < e → Enum (RowP ps z b) (f b)) {m : Nat → Int} (hm : ∀ b, b < e → m b = ((cnt (f b) (ts.getD b 0) : Nat) : Int)) :
    ((cnt ((begs ps z e).flatMap fun b => (f b).map fun r => r ++ [subT z b e]) te : Nat) : Int) = (((begs ps z e).filter fun b => decide (ts.getD b 0 = te - 1)).map m).sum := by
  refine cnt_sum _ fun b hb => ?_
  have hb1 := (begs_mem.mp hb).1
  have htb := getD_at (ts := ts) (b := b) (by have := hE.1; omega)
  rw [cnt_map (fun x => by rw [List.length_append]; rfl)]
  refine ⟨fun c => ?_, fun c => ?_⟩
  · rw [← of_decide_eq_true c, hm b hb1]
  · have c := of_decide_eq_false c
    have h1 := (hE.2.2 e te he0 he hte).1 b _ hb htb
    refine cnt_zero fun qs hq => ?_
    have := hE.le hps b _ qs (by omega) htb (((hf b hb1).2 qs).mp hq)
    omega
/-! steps of the suffixes -/
theorem RowS.last {ps : List Str} {z : Str} (hps : ∀ p ∈ ps, 1 ≤ p.length) {qs : List Str} : RowS ps z z.length qs ↔ qs = [] := by
  have e : (tl z).drop z.length = [] := List.drop_eq_nil_of_le (by rw [← len_tl]; exact Nat.le_refl _)
  refine ⟨fun h => ?_, fun h => by subst h; exact ⟨fun _ h => (nomatch h), by rw [e]; rfl⟩⟩
  cases qs with
  | nil => rfl
  | cons q r =>
    have h2 := congrArg List.length h.2
    rw [List.map_cons, List.flatten_cons, List.length_append, e, ← len_tl] at h2
    have := hps q (h.1 q List.mem_cons_self)
    simp only [List.length_nil] at h2
    omega
theorem RowS.cons {ps : List Str} {z : Str} (hps : ∀ p ∈ ps, 1 ≤ p.length) {i : Nat} {p : Str} {r : List Str} (hp : p ∈ pAt ps z i) (h : RowS ps z (i + p.length) r) : RowS ps z i (p :: r) := by
  obtain ⟨p1, p2⟩ := pAt_mem.mp hp
  have hl := pAt_len hp (hps p p1)
  refine ⟨fun q hq => ?_, ?_⟩
  · rcases List.mem_cons.mp hq with h1 | h1
    · rw [h1]; exact p1
    · exact h.1 q h1
  · rw [List.map_cons, List.flatten_cons, h.2, ← p2]
    have : (tl z).drop i = ((tl z).take (i + p.length) ++ (tl z).drop (i + p.length)).drop i := by rw [List.take_append_drop]
    rw [this, List.drop_append_of_le_length (by rw [List.length_take, ← len_tl]; omega)]
theorem RowS.split {ps : List Str} {z : Str} (hps : ∀ p ∈ ps, 1 ≤ p.length) {i : Nat} (hi : i < z.length) {qs : List Str} (h : RowS ps z i qs) : ∃ p r, p ∈ pAt ps z i ∧ RowS ps z (i + p.length) r ∧ qs = p :: r := by
  obtain ⟨h1, h2⟩ := h
  cases qs with
  | nil =>
    have := congrArg List.length h2
    rw [List.length_drop, ← len_tl] at this
    simp only [List.map_nil, List.flatten_nil, List.length_nil] at this
    omega
  | cons q r =>
    have hq := h1 q List.mem_cons_self
    rw [List.map_cons, List.flatten_cons] at h2
    have hd : (tl z).drop (i + q.length) = (r.map tl).flatten := by
      rw [← List.drop_drop, ← h2, len_tl q, List.drop_left]
    have ht : ((tl z).take (i + q.length)).drop i = tl q := by
      rw [List.drop_take, Nat.add_sub_cancel_left, ← h2, len_tl q, List.take_left]
    exact ⟨q, r, pAt_mem.mpr ⟨hq, ht⟩, ⟨fun x hx => h1 x (List.mem_cons_of_mem _ hx), hd.symm⟩, rfl⟩
theorem pAt_nodup {ps : List Str} (hn : ps.Nodup) (z : Str) (i : Nat) : (pAt ps z i).Nodup := List.Pairwise.sublist List.filter_sublist hn
theorem stepS_ {ps : List Str} {z : Str} (hps : ∀ p ∈ ps, 1 ≤ p.length) (hn : ps.Nodup) {i : Nat} (hi : i < z.length) {f : Nat → List (List Str)} (hf : ∀ j, i < j → j ≤ z.length → Enum (RowS ps z j) (f j)) : Enum (RowS ps z i) ((pAt ps z i).flatMap fun p => (f (i + p.length)).map fun r => p :: r) := by
  have hj : ∀ p ∈ pAt ps z i, Enum (RowS ps z (i + p.length)) (f (i + p.length)) := fun p hp => by
    have h1 := hps p (pAt_mem.mp hp).1
    exact hf _ (by omega) (pAt_len hp h1).1
  refine ⟨?_, fun qs => ?_⟩
  · refine List.pairwise_flatMap.mpr ⟨fun p hp => ?_, ?_⟩
    · exact List.pairwise_map.mpr ((hj p hp).1.imp fun {x y} hxy e1 => hxy (by injection e1))
    · refine List.Pairwise.imp_of_mem (fun {a b} ha hb hab x hx y hy e1 => ?_) (pAt_nodup hn z i)
      obtain ⟨x', _, rfl⟩ := List.mem_map.mp hx
      obtain ⟨y', _, rfl⟩ := List.mem_map.mp hy
      injection e1 with h1
      exact hab h1
  · rw [List.mem_flatMap]
    refine ⟨fun ⟨p, hp, hq⟩ => ?_, fun h => ?_⟩
    · obtain ⟨r, hr, rfl⟩ := List.mem_map.mp hq
      exact RowS.cons hps hp (((hj p hp).2 r).mp hr)
    · obtain ⟨p, r, hp, hr, rfl⟩ := RowS.split hps hi h
      exact ⟨p, hp, List.mem_map.mpr ⟨r, ((hj p hp).2 r).mpr hr, rfl⟩⟩
/-- what is told of the text from i on: the least number of pieces and how many have it -/
def Told (ps : List Str) (z : Str) (i : Nat) (few many : Int) : Prop := ∃ L, Enum (RowS ps z i) L ∧ many = ((cnt L few : Nat) : Int) ∧ (∀ qs ∈ L, few ≤ (qs.length : Nat)) ∧ ∃ qs ∈ L, ((qs.length : Nat) : Int) = few
theorem Told.last {ps : List Str} {z : Str} (hps : ∀ p ∈ ps, 1 ≤ p.length) : Told ps z z.length 0 1 :=
  ⟨[[]], ⟨(by simp), fun qs => by rw [RowS.last hps, List.mem_singleton]⟩, by decide, fun qs h => by rw [List.mem_singleton.mp h]; decide, [], List.mem_cons_self, rfl⟩
theorem Told.step {ps : List Str} {z : Str} (hps : ∀ p ∈ ps, 1 ≤ p.length) (hn : ps.Nodup) {i : Nat} (hi : i < z.length) {one many : Nat → Int} (h : ∀ j, i < j → j ≤ z.length → Told ps z j (one j) (many j)) {few : Int} (f1 : few ∈ (pAt ps z i).map fun p => one (i + p.length)) (f2 : ∀ y ∈ (pAt ps z i).map fun p => one (i + p.length), few ≤ y) :
    Told ps z i (few + 1) (((pAt ps z i).filter fun p => decide (one (i + p.length) = few)).map fun p => many (i + p.length)).sum := by
  have hx : ∀ j, ∃ L, i < j → j ≤ z.length → Enum (RowS ps z j) L ∧ many j = ((cnt L (one j) : Nat) : Int) ∧ (∀ qs ∈ L, one j ≤ (qs.length : Nat)) ∧ ∃ qs ∈ L, ((qs.length : Nat) : Int) = one j := fun j => by
    by_cases hj : i < j ∧ j ≤ z.length
    · obtain ⟨L, hL⟩ := h j hj.1 hj.2
      exact ⟨L, fun _ _ => hL⟩
    · exact ⟨[], fun a b => absurd ⟨a, b⟩ hj⟩
  have hat : ∀ p ∈ pAt ps z i, i < i + p.length ∧ i + p.length ≤ z.length := fun p hp => by
    have h1 := hps p (pAt_mem.mp hp).1
    exact ⟨by omega, (pAt_len hp h1).1⟩
  refine ⟨_, stepS_ hps hn hi (f := fun j => (hx j).choose) fun j a b => ((hx j).choose_spec a b).1, ?_, fun qs hq => ?_, ?_⟩
  · refine (cnt_sum _ fun p hp => ?_).symm
    obtain ⟨a, b⟩ := hat p hp
    obtain ⟨x1, x2, x3, x4⟩ := (hx (i + p.length)).choose_spec a b
    rw [cnt_map (fun x => by rw [List.length_cons]), Int.add_sub_cancel]
    refine ⟨fun c => ?_, fun c => ?_⟩
    · rw [← of_decide_eq_true c]; exact x2.symm
    · have c := of_decide_eq_false c
      have h1 := f2 _ (List.mem_map.mpr ⟨p, hp, rfl⟩)
      refine cnt_zero fun qs hq => ?_
      have := x3 qs hq
      omega
  · obtain ⟨p, hp, hq⟩ := List.mem_flatMap.mp hq
    obtain ⟨r, hr, rfl⟩ := List.mem_map.mp hq
    obtain ⟨a, b⟩ := hat p hp
    obtain ⟨x1, x2, x3, x4⟩ := (hx (i + p.length)).choose_spec a b
    have h1 := f2 _ (List.mem_map.mpr ⟨p, hp, rfl⟩)
    have h2 := x3 r hr
    rw [List.length_cons]
    omega
  · obtain ⟨p, hp, e1⟩ := List.mem_map.mp f1
    obtain ⟨a, b⟩ := hat p hp
    obtain ⟨x1, x2, x3, r, hr, e2⟩ := (hx (i + p.length)).choose_spec a b
    refine ⟨p :: r, List.mem_flatMap.mpr ⟨p, hp, List.mem_map.mpr ⟨r, hr, rfl⟩⟩, ?_⟩
    rw [List.length_cons]
    omega
/-- from the begin and from the end the same is told -/
theorem told_same {ps : List Str} {z : Str} {ts : List Int} (hps : ∀ p ∈ ps, 1 ≤ p.length) (hE : Exact ps z ts) {te few many : Int} (hte : ts[z.length]? = some te) (h : Told ps z 0 few many) {L : List (List Str)} (hL : Enum (RowP ps z z.length) L) : few = te ∧ many = ((cnt L te : Nat) : Int) := by
  obtain ⟨M, hM, m1, m2, m3⟩ := h
  have same : ∀ qs, RowS ps z 0 qs ↔ RowP ps z z.length qs := fun qs => by
    unfold RowS RowP
    rw [List.drop_zero, List.take_of_length_le (by rw [← len_tl]; exact Nat.le_refl _)]
  have hM' : Enum (RowP ps z z.length) M := ⟨hM.1, fun qs => (hM.2 qs).trans (same qs)⟩
  have e : few = te := by
    obtain ⟨q1, h1, l1⟩ := hE.ex z.length te (Nat.le_refl _) hte
    have a := m2 q1 ((hM'.2 q1).mpr h1)
    obtain ⟨q2, h2, l2⟩ := m3
    have b := hE.le hps z.length te q2 (Nat.le_refl _) hte ((hM'.2 q2).mp h2)
    omega
  subst e
  exact ⟨rfl, by rw [m1, hM'.cnt_eq hL]⟩
end Lw

namespace Lw
open PySem L2 DL TL
section
variable {P : Program} {w : World} {K : PySem.W.Frag} {mg : Str → Option Value} {base : Heap}
def phMany (K : PySem.W.Frag) : Ph := fun ds rt xs => ∃ (s : Str) (rows : List Row) (t : D), ds = [tabD K s rows, t] ∧ tabErr s rows = none ∧ TxK t ∧ (∀ z ts te L, t = .str z → errT s t = none → Exact (pcs s rows) z ts → ts[z.length]? = some te → Enum (RowP (pcs s rows) z z.length) L → rt false (.int ((cnt L te : Nat) : Int))) ∧ ∀ p, errT s t = some p → xs ⟨He.ga K "NoSign", [("place", p)]⟩
theorem p_how_many (T : Txt K mg) : FnD P w K mg base 5 (He.fAd K ("how_many_fewest", none)) 2 (phMany K) := mkhow_many_fewest T fun cdv A outer s H E hr ds rt xs hφ hl => by
  obtain ⟨sg, rows, t, rfl, hT, hx, h1, h2⟩ := hφ
  have nd := schow_many_fewest.nd
  have big : (200000 : Nat) ≤ sizeLine := by decide
  have big62 : (200000 : Int) < 2 ^ 62 := by decide
  refine wd_cons <| asgc 2 nd rfl rfl rfl <| call_ (p_heights T) hr T.gheights <| ea_cons <| nl 0 rfl rfl rfl <| ea_cons <| nl 1 rfl rfl rfl <| ea_nil ⟨rfl, sg, rows, t, rfl, hT, hx, fun z ts e1 e2 hex => ?_, fun p e => h2 p e⟩
  subst e1
  have hz := hx.2 z rfl
  have htx : TxOf sg z := badAt_none.mp (Option.map_eq_none_iff.mp e2)
  have hps : ∀ p ∈ pcs sg rows, 1 ≤ p.length := fun p hp => pcs_pos hT p hp
  have htl := hex.1
  refine wd_know 2 rfl <| wd_cons <| asgc 3 nd rfl rfl rfl <| ed_lst <| ea_cons <| ed_int <| ea_nil ⟨(by show 1 ≤ sizeLine; decide), ?_⟩
  refine wd_cons <| w_for rfl <| rg2 T.zrange <| ed_int <| ed_bin <| len_ T.zlen <| nl 1 rfl rfl rfl ⟨_, len_str (by omega), ed_int <| add_ii ⟨1, _, rfl, rfl, ⟨by decide, by decide, by omega, by omega⟩, fun i Γ => ∃ (ms : List Int) (f : Nat → List (List Str)) (o4 o5 o6 : Option (Bool × D)), Γ = [some (false, tabD K sg rows), some (false, .str z), some (false, .lst (ts.map D.int)), some (true, .lst (ms.map D.int)), o4, o5, o6] ∧ ms.length = i + 1 ∧ ∀ e, e ≤ i → Enum (RowP (pcs sg rows) z e) (f e) ∧ ms.getD e 0 = ((cnt (f e) (ts.getD e 0) : Nat) : Int),
    ⟨[1], fun _ => [[]], none, none, none, rfl, rfl, fun e he => ?_⟩, fun i d Γ' hd ⟨ms, f, o4, o5, o6, eΓ, hml, hf⟩ => ?_, fun Γ' ⟨ms, f, o4, o5, o6, eΓ, hml, hf⟩ => ?_⟩⟩
  · have : e = 0 := by omega
    subst this
    refine ⟨⟨by simp, fun qs => by rw [RowP.zero hps, List.mem_singleton]⟩, ?_⟩
    have : ts.getD 0 0 = 0 := by rw [List.getD_eq_getElem?_getD, hex.2.1]; rfl
    rw [this]; decide
  · subst eΓ
    obtain ⟨hi, rfl⟩ := rangeD_get hd
    have hi : i + 1 ≤ z.length := by omega
    rw [show (1 : Int) + (i : Int) = ((i + 1 : Nat) : Int) by omega]
    have hte := getD_at (ts := ts) (b := i + 1) (by omega)
    have ae : L2.atI (ts.map D.int) ((i + 1 : Nat) : Int) = some (.int (ts.getD (i + 1) 0)) := atI_map D.int (at_nat hte)
    generalize ts.getD (i + 1) 0 = te at hte ae
    refine td_name (i := 4) nd rfl (.inr rfl) ?_
    refine wd_cons <| w_asgLc (i := 5) (own := [("begin", 6)]) rfl nd (blkOk_by rfl) rfl rfl (hsw := sw_true rfl rfl rfl rfl) <| ei_list <| call_ (p_begins T) (hr.mono (by decide)) T.gbegins <| ea_cons <| nl 0 rfl rfl rfl <| ea_cons <| nl 1 rfl rfl rfl <| ea_cons <| nc 4 rfl rfl rfl <| ea_nil ⟨rfl, sg, rows, z, i + 1, rfl, hT, hz, hi, .inl ⟨_, rfl, fun j acc => acc = ((((begs (pcs sg rows) z (i + 1)).take j).filter fun b => decide (ts.getD b 0 = te - 1)).map fun b => ms.getD b 0).map D.int, rfl, fun j d acc hd hI s0 H0 C cl fp xe => ?_, fun acc hI => ?_⟩⟩
    · obtain ⟨b, hb1, rfl⟩ := map_get hd
      have hj := (List.getElem?_eq_some_iff.mp hb1).1
      have hjl := begs_len (ps := pcs sg rows) (z := z) (e := i + 1)
      obtain ⟨b1, b2⟩ := begs_mem.mp (List.mem_of_getElem? hb1)
      have ab : L2.atI (ts.map D.int) ((b : Nat) : Int) = some (.int (ts.getD b 0)) := atI_map D.int (at_nat (getD_at (by omega)))
      have am : L2.atI (ms.map D.int) ((b : Nat) : Int) = some (.int (ms.getD b 0)) := atI_map D.int (at_nat (getD_at (by omega)))
      refine tc_name (i := 6) nd rfl (.inl rfl) (by simp) <| ets_one <| et_cmp <| ed_ix <| nc 2 rfl rfl rfl <| nl 6 rfl rfl rfl <| ix_lst ab <| ed_bin <| ed_ix <| nc 2 rfl rfl rfl <| nc 4 rfl rfl rfl <| ix_lst ae <| ed_int <| sub_ii <| eq_ii ⟨fun c => ?_, fun c => ?_⟩
      · refine ed_flat <| ed_ix <| nc 3 rfl rfl rfl <| nl 6 rfl rfl rfl <| ix_lst am ⟨rfl, ?_, ?_⟩
        · rw [hI, List.length_map, List.length_map]
          have := List.length_filter_le (fun b => decide (ts.getD b 0 = te - 1)) ((begs (pcs sg rows) z (i + 1)).take j)
          rw [List.length_take] at this
          omega
        · dsimp only at hI ⊢
          rw [hI, take_succ hb1, List.filter_append, List.map_append, List.map_append, List.filter_cons_of_pos (p := fun b => decide (ts.getD b 0 = te - 1)) c]
          rfl
      · dsimp only at hI ⊢
        rw [hI, take_succ hb1, List.filter_append, List.map_append, List.map_append, List.filter_cons_of_neg (p := fun b => decide (ts.getD b 0 = te - 1)) (by rw [c]; exact Bool.false_ne_true)]
        simp
    · rw [List.length_map, List.take_length] at hI
      subst hI
      refine wd_know 5 rfl <| wd_one <| app 3 rfl (.inr (.inl rfl)) rfl <| sum_ T.zsum <| nl 5 rfl rfl rfl ⟨_, rfl, ?_⟩
      refine ⟨by rw [List.length_map]; omega, ms ++ [(((begs (pcs sg rows) z (i + 1)).filter fun b => decide (ts.getD b 0 = te - 1)).map fun b => ms.getD b 0).sum], fun e => if e = i + 1 then (begs (pcs sg rows) z (i + 1)).flatMap (fun b => (f b).map fun r => r ++ [subT z b (i + 1)]) else f e, some (false, .int ((i + 1 : Nat) : Int)), _, o6, by rw [List.map_append]; rfl, by rw [List.length_append, hml]; rfl, fun e he => ?_⟩
      by_cases h0 : e = i + 1
      · subst h0
        dsimp only
        rw [if_pos rfl]
        refine ⟨stepP hps (by omega) hi fun b hb => (hf b (by omega)).1, ?_⟩
        have e1 : ts.getD (i + 1) 0 = te := by rw [List.getD_eq_getElem?_getD, hte]; rfl
        rw [e1, List.getD_eq_getElem?_getD, List.getElem?_append_right (by omega), hml, Nat.sub_self]
        exact (cnt_stepP hps hex (by omega) hi hte (fun b hb => (hf b (by omega)).1) fun b hb => (hf b (by omega)).2).symm
      · dsimp only
        rw [if_neg h0]
        obtain ⟨f1, f2⟩ := hf e (by omega)
        refine ⟨f1, ?_⟩
        rw [← f2, List.getD_eq_getElem?_getD, List.getElem?_append_left (by omega), ← List.getD_eq_getElem?_getD]
  · subst eΓ
    rw [rangeD_length, show (((z.length : Nat) : Int) + 1 - 1).toNat = z.length by omega] at hml hf
    obtain ⟨tz, htz⟩ : ∃ tz, ts[z.length]? = some tz := ⟨_, List.getElem?_eq_getElem (by omega)⟩
    obtain ⟨f1, f2⟩ := hf z.length (Nat.le_refl _)
    have e1 : ts.getD z.length 0 = tz := by rw [List.getD_eq_getElem?_getD, htz]; rfl
    rw [e1] at f2
    have alast : L2.atI (ms.map D.int) (-1) = some (.int (ms.getD z.length 0)) := by
      have e : ixN ms.length (-1) = some (ms.length - 1) := ixN_last (by omega)
      have : L2.atI ms (-1) = some (ms.getD z.length 0) := by
        unfold L2.atI
        rw [e]
        show ms[ms.length - 1]? = _
        rw [show ms.length - 1 = z.length by omega]; exact getD_at (by omega)
      exact atI_map D.int this
    refine wd_one <| w_ret <| ed_flat <| ed_ix <| nc 3 rfl rfl rfl <| ed_neg <| ed_int ⟨1, rfl, ix_lst alast ⟨rfl, ?_⟩⟩
    rw [f2]
    exact h1 z ts tz _ rfl e2 hex htz f1
end
end Lw

namespace Lw
open PySem L2 DL TL
/-! ### all splittings, gone through -/
def rowQ (qs : List Str) : D := .lst (qs.map D.str)
def plen (qs : List Str) : Nat := (Txt.join "" qs).length
def extR (ps : List Str) (z : Str) (qs : List Str) : List (List Str) := if plen qs = z.length then [] else (pAt ps z (plen qs)).map fun p => qs ++ [p]
def foundK (ps : List Str) (z : Str) : Nat → List (List Str)
  | 0 => [[]]
  | k + 1 => (foundK ps z k).flatMap (extR ps z)
def doneK (ps : List Str) (z : Str) : Nat → List (List Str)
  | 0 => []
  | k + 1 => doneK ps z k ++ (foundK ps z k).filter fun qs => decide (plen qs = z.length)
theorem plen_flat (qs : List Str) : plen qs = ((qs.map tl).flatten).length := by
  unfold plen; rw [len_tl, join_empty]
theorem RowP.plen {ps : List Str} {z : Str} {e : Nat} {qs : List Str} (he : e ≤ z.length) (h : RowP ps z e qs) : Lw.plen qs = e := by
  rw [plen_flat, h.2, List.length_take, ← len_tl, Nat.min_eq_left he]
theorem flat_ge {qs : List Str} (h : ∀ q ∈ qs, 1 ≤ q.length) : qs.length ≤ ((qs.map tl).flatten).length := by
  induction qs with
  | nil => exact Nat.zero_le _
  | cons q r ih =>
    have h1 := h q List.mem_cons_self
    have h2 := ih fun x hx => h x (List.mem_cons_of_mem _ hx)
    rw [List.map_cons, List.flatten_cons, List.length_append, ← len_tl, List.length_cons]
    omega
theorem RowP.len {ps : List Str} {z : Str} (hps : ∀ p ∈ ps, 1 ≤ p.length) {e : Nat} {qs : List Str} (he : e ≤ z.length) (h : RowP ps z e qs) : qs.length ≤ e := by
  have := flat_ge (qs := qs) fun q hq => hps q (h.1 q hq)
  rw [h.2, List.length_take, ← len_tl, Nat.min_eq_left he] at this
  exact this
def Part (ps : List Str) (z : Str) (k : Nat) (qs : List Str) : Prop := qs.length = k ∧ ∃ e, e ≤ z.length ∧ RowP ps z e qs
theorem found_enum {ps : List Str} {z : Str} (hps : ∀ p ∈ ps, 1 ≤ p.length) (hn : ps.Nodup) : ∀ k, Enum (Part ps z k) (foundK ps z k) := by
  intro k
  induction k with
  | zero =>
    refine ⟨by simp [foundK], fun qs => ?_⟩
    unfold foundK Part
    rw [List.mem_singleton]
    refine ⟨fun h => by subst h; exact ⟨rfl, 0, Nat.zero_le _, (RowP.zero hps).mpr rfl⟩, fun h => List.length_eq_zero_iff.mp h.1⟩
  | succ k ih =>
    obtain ⟨i1, i2⟩ := ih
    refine ⟨?_, fun qs => ?_⟩
    · show ((foundK ps z k).flatMap (extR ps z)).Nodup
      refine List.pairwise_flatMap.mpr ⟨fun r hr => ?_, ?_⟩
      · unfold extR
        by_cases c : Lw.plen r = z.length
        · rw [if_pos c]; exact List.Pairwise.nil
        · rw [if_neg c]
          refine List.pairwise_map.mpr ((pAt_nodup hn z _).imp fun {x y} hxy e1 => hxy ?_)
          have := List.append_cancel_left e1
          injection this
      · refine i1.imp fun {a b} hab x hx y hy e1 => ?_
        have key : ∀ r x, x ∈ extR ps z r → ∃ p, x = r ++ [p] := fun r x hx => by
          unfold extR at hx
          by_cases c : Lw.plen r = z.length
          · rw [if_pos c] at hx; cases hx
          · rw [if_neg c] at hx
            obtain ⟨p, _, rfl⟩ := List.mem_map.mp hx
            exact ⟨p, rfl⟩
        obtain ⟨p, rfl⟩ := key a x hx
        obtain ⟨q, rfl⟩ := key b y hy
        exact hab (List.append_inj_left' e1 rfl)
    · show qs ∈ (foundK ps z k).flatMap (extR ps z) ↔ _
      rw [List.mem_flatMap]
      refine ⟨fun ⟨r, hr, hq⟩ => ?_, fun ⟨hk, e, he, h⟩ => ?_⟩
      · obtain ⟨r1, e, he, r2⟩ := (i2 r).mp hr
        have hpe := r2.plen he
        unfold extR at hq
        by_cases c : Lw.plen r = z.length
        · rw [if_pos c] at hq; cases hq
        · rw [if_neg c] at hq
          obtain ⟨p, hp, rfl⟩ := List.mem_map.mp hq
          rw [hpe] at hp
          obtain ⟨p1, p2⟩ := pAt_sub hp
          obtain ⟨p3, _⟩ := pAt_len hp (hps p p1)
          refine ⟨by rw [List.length_append, r1]; rfl, e + p.length, p3, ?_⟩
          have h1 := hps p p1
          have := RowP.snoc (ps := ps) (z := z) (b := e) (e := e + p.length) (begs_mem.mpr ⟨by omega, by rw [p2]; exact p1⟩) r2
          rw [p2] at this
          exact this
      · have e1 : 1 ≤ e := by have := h.len hps he; omega
        obtain ⟨b, r, hb, hr, rfl⟩ := RowP.split hps e1 he h
        obtain ⟨b1, b2⟩ := begs_mem.mp hb
        have hpl := hr.plen (by omega)
        refine ⟨r, (i2 r).mpr ⟨by rw [List.length_append] at hk; simpa using hk, b, by omega, hr⟩, ?_⟩
        unfold extR
        rw [if_neg (by omega), hpl]
        exact List.mem_map.mpr ⟨_, pAt_of b1 he b2, rfl⟩
theorem done_enum {ps : List Str} {z : Str} (hps : ∀ p ∈ ps, 1 ≤ p.length) (hn : ps.Nodup) : ∀ k, Enum (fun qs => qs.length < k ∧ RowP ps z z.length qs) (doneK ps z k) := by
  intro k
  induction k with
  | zero => exact ⟨List.Pairwise.nil, fun qs => ⟨fun h => (nomatch h), fun h => absurd h.1 (Nat.not_lt_zero _)⟩⟩
  | succ k ih =>
    obtain ⟨f1, f2⟩ := found_enum hps hn (z := z) k
    obtain ⟨i1, i2⟩ := ih
    have mem : ∀ qs, qs ∈ (foundK ps z k).filter (fun qs => decide (Lw.plen qs = z.length)) ↔ qs.length = k ∧ RowP ps z z.length qs := fun qs => by
      rw [List.mem_filter, f2, decide_eq_true_iff]
      refine ⟨fun ⟨⟨h1, e, he, h2⟩, h3⟩ => ?_, fun ⟨h1, h2⟩ => ⟨⟨h1, _, Nat.le_refl _, h2⟩, h2.plen (Nat.le_refl _)⟩⟩
      have := h2.plen he
      obtain rfl : e = z.length := by omega
      exact ⟨h1, h2⟩
    refine ⟨?_, fun qs => ?_⟩
    · refine List.nodup_append.mpr ⟨i1, List.Pairwise.sublist List.filter_sublist f1, fun x hx y hy e => ?_⟩
      have h1 := ((i2 x).mp hx).1
      have h2 := ((mem y).mp hy).1
      rw [e] at h1
      omega
    · show qs ∈ doneK ps z k ++ _ ↔ _
      rw [List.mem_append, i2, mem]
      exact ⟨fun h => by rcases h with ⟨a, b⟩ | ⟨a, b⟩ <;> exact ⟨by omega, b⟩, fun ⟨a, b⟩ => by
        by_cases c : qs.length = k
        · exact .inr ⟨c, b⟩
        · exact .inl ⟨by omega, b⟩⟩
theorem found_len {ps : List Str} {z : Str} (hps : ∀ p ∈ ps, 1 ≤ p.length) (hn : ps.Nodup) (hz : z.length ≤ 9) (k : Nat) : (foundK ps z k).length ≤ 1023 := by
  have hx : ∀ e, ∃ L, e < z.length + 1 → Enum (RowP ps z e) L ∧ L.length ≤ 2 ^ e := fun e => by
    by_cases he : e < z.length + 1
    · obtain ⟨L, hL⟩ := enumP (z := z) hps e (by omega)
      exact ⟨L, fun _ => hL⟩
    · exact ⟨[], fun h => absurd h he⟩
  have h1 := range_sum (p := fun _ => true) (g := fun e => (hx e).choose) (z.length + 1) fun b hb => ((hx b).choose_spec hb).2
  have h2 : 2 ^ (z.length + 1) ≤ 2 ^ 10 := Nat.pow_le_pow_right (by decide) (by omega)
  obtain ⟨f1, f2⟩ := found_enum hps hn (z := z) k
  have h3 := nodup_le f1 (m := ((List.range (z.length + 1)).filter fun _ => true).flatMap fun e => (hx e).choose) fun qs hq => by
    obtain ⟨_, e, he, h⟩ := (f2 qs).mp hq
    rw [List.mem_flatMap]
    exact ⟨e, List.mem_filter.mpr ⟨List.mem_range.mpr (by omega), rfl⟩, (((hx e).choose_spec (by omega)).1.2 qs).mpr h⟩
  have : (2 : Nat) ^ 10 = 1024 := by decide
  omega
theorem done_len {ps : List Str} {z : Str} (hps : ∀ p ∈ ps, 1 ≤ p.length) (hn : ps.Nodup) (hz : z.length ≤ 9) (k : Nat) : (doneK ps z k).length ≤ 512 := by
  obtain ⟨L, hL, hl⟩ := enumP hps z.length (Nat.le_refl _) (ps := ps) (z := z)
  have h1 := (done_enum hps hn (z := z) k).len_le hL fun x hx => hx.2
  have h2 : 2 ^ z.length ≤ 2 ^ 9 := Nat.pow_le_pow_right (by decide) hz
  have : (2 : Nat) ^ 9 = 512 := by decide
  omega
section
variable {P : Program} {w : World} {K : PySem.W.Frag} {mg : Str → Option Value} {base : Heap}
def phAll : Ph := fun ds rt _ => ∃ (ps : List Str) (z : Str), ds = [.lst (ps.map D.str), .str z] ∧ ps.length ≤ 1000 ∧ z.length ≤ 9 ∧ (∀ p ∈ ps, 1 ≤ p.length ∧ p.length ≤ 100) ∧ ps.Nodup ∧ ∀ L, Enum (RowP ps z z.length) L → L.length ≤ 512 → rt true (.lst (L.map rowQ))
theorem p__law_all (T : Txt K mg) : FnD P w K mg base 2 (He.fAd K ("_law_all", none)) 2 phAll := mk_law_all T fun cdv A outer s H E hr ds rt xs hφ hl => by
  obtain ⟨ps, z, rfl, hpl, hz, hps, hnd, h⟩ := hφ
  have nd := sc_law_all.nd
  have big : (200000 : Nat) ≤ sizeLine := by decide
  have big62 : (200000 : Int) < 2 ^ 62 := by decide
  have hp1 : ∀ p ∈ ps, 1 ≤ p.length := fun p hp => (hps p hp).1
  refine wd_cons <| asg 2 nd rfl rfl <| ed_lst <| ea_nil ⟨by decide, ?_⟩
  refine wd_cons <| asg 3 nd rfl rfl <| ed_lst <| ea_cons <| ed_lst <| ea_nil ⟨by decide, ea_nil ⟨(by show 1 ≤ sizeLine; decide), ?_⟩⟩
  refine wd_n (by simp only [e0_law_all, List.set_cons_zero, List.set_cons_succ]; rfl) ?_
  refine wd_know 3 rfl ?_
  refine wd_cons <| w_for rfl <| rg1 T.zrange <| ed_bin <| len_ T.zlen <| nl 1 rfl rfl rfl ⟨_, len_str (by omega), ed_int <| add_ii ⟨_, rfl, by omega, by omega, fun i Γ => ∃ (o4 o5 o6 o7 o8 : Option (Bool × D)), Γ = [some (false, .lst (ps.map D.str)), some (false, .str z), some (true, .lst ((doneK ps z i).map rowQ)), some (false, .lst ((foundK ps z i).map rowQ)), o4, o5, o6, o7, o8],
    ⟨none, none, none, none, none, rfl⟩, fun i d Γ' hd ⟨o4, o5, o6, o7, o8, eΓ⟩ => ?_, fun Γ' ⟨o4, o5, o6, o7, o8, eΓ⟩ => ?_⟩⟩
  · subst eΓ
    obtain ⟨hi, rfl⟩ := rangeD_get hd
    rw [Int.zero_add]
    have fE := found_enum hp1 hnd (z := z) i
    have fl := found_len hp1 hnd hz i
    have fl1 := found_len hp1 hnd hz (i + 1)
    have dl := done_len hp1 hnd hz i
    refine td_name (i := 4) nd rfl (.inl rfl) ?_
    refine wd_cons <| asg 5 nd rfl rfl <| ed_lst <| ea_nil ⟨by decide, ?_⟩
    refine wd_n (by simp only [List.set_cons_zero, List.set_cons_succ]; rfl) ?_
    refine wd_cons <| w_for rfl <| ei_list <| nl 3 rfl rfl rfl <| .inl ⟨_, rfl, fun j Γ => ∃ (o6 o7 o8 : Option (Bool × D)), Γ = [some (false, .lst (ps.map D.str)), some (false, .str z), some (true, .lst ((doneK ps z i ++ ((foundK ps z i).take j).filter fun qs => decide (plen qs = z.length)).map rowQ)), some (false, .lst ((foundK ps z i).map rowQ)), some (false, .int (i : Nat)), some (true, .lst ((((foundK ps z i).take j).flatMap (extR ps z)).map rowQ)), o6, o7, o8],
      ⟨o6, o7, o8, by rw [List.take_zero, List.filter_nil, List.append_nil, List.flatMap_nil]; rfl⟩, fun j d Γ' hd ⟨o6, o7, o8, eΓ⟩ => ?_, fun Γ' ⟨o6, o7, o8, eΓ⟩ => ?_⟩
    · subst eΓ
      obtain ⟨qs, hq, rfl⟩ := map_get hd
      have hqm := List.mem_of_getElem? hq
      have hj := (List.getElem?_eq_some_iff.mp hq).1
      obtain ⟨q1, e, he, q2⟩ := (fE.2 qs).mp hqm
      have hpe := q2.plen he
      have hql := q2.len hp1 he
      have part : ∀ j, (((foundK ps z i).take j).flatMap (extR ps z)).length ≤ 1023 := fun j => by
        have : ((foundK ps z i).flatMap (extR ps z)).length ≤ 1023 := fl1
        rw [← List.take_append_drop j (foundK ps z i), List.flatMap_append, List.length_append] at this
        omega
      have pj := part (j + 1)
      rw [take_succ hq, List.flatMap_append, List.length_append, List.flatMap_cons, List.flatMap_nil, List.append_nil] at pj
      refine td_name (i := 6) nd rfl (.inr rfl) ?_
      refine wd_cons <| asg 7 nd rfl rfl <| len_ T.zlen <| ed_join <| ed_str ⟨"", rfl, nc 6 rfl rfl rfl ⟨qs, rfl, join_sum (ys := qs) (n := 0) (by omega) (fun y hy => (hps y (q2.1 y hy)).2), _, len_str (by show plen qs ≤ _; omega), ?_⟩⟩
      rw [show (Txt.join (Str.ofString "") qs).length = plen qs from rfl]
      refine wd_n (by simp only [List.set_cons_zero, List.set_cons_succ]; rfl) ?_
      refine wd_one <| w_if <| et_cmp <| nl 7 rfl rfl rfl <| len_ T.zlen <| nl 1 rfl rfl rfl ⟨_, len_str (by omega), eq_ii ⟨fun c => ?_, fun c => ?_⟩⟩
      · have c : plen qs = z.length := by have := of_decide_eq_true c; omega
        refine wd_one <| app 2 rfl (.inl rfl) rfl <| nc 6 rfl rfl rfl ⟨?_, some (false, rowQ qs), some (false, .int (plen qs : Nat)), o8, ?_⟩
        · rw [List.length_map, List.length_append]
          have := List.length_filter_le (fun qs => decide (plen qs = z.length)) ((foundK ps z i).take j)
          rw [List.length_take] at this
          omega
        · rw [take_succ hq, List.filter_append, List.flatMap_append, List.flatMap_cons, List.flatMap_nil, List.append_nil, List.filter_cons_of_pos (p := fun qs => decide (plen qs = z.length)) (decide_eq_true c), List.filter_nil]
          have : extR ps z qs = [] := by unfold extR; rw [if_pos c]
          rw [this, List.append_nil, ← List.append_assoc, List.map_append (l₂ := [qs])]; rfl
      · have c : ¬ plen qs = z.length := by have := of_decide_eq_false c; omega
        have hext : extR ps z qs = (pAt ps z (plen qs)).map fun p => qs ++ [p] := by unfold extR; rw [if_neg c]
        refine wd_one <| w_ext (i := 5) rfl (.inl rfl) rfl <| ed_lc (own := [("_law_piece", 8)]) rfl nd (blkOk_by rfl) <| ei_list <| call_ (p__law_pieces_at T) (hr.mono (by decide)) T.g_law_pieces_at <| ea_cons <| nl 0 rfl rfl rfl <| ea_cons <| nl 1 rfl rfl rfl <| ea_cons <| nl 7 rfl rfl rfl <| ea_nil ⟨rfl, ps, z, plen qs, rfl, hpl, by omega, fun p hp => Nat.le_trans (hps p hp).2 (by decide), .inl ⟨_, rfl, fun j acc => acc = (((pAt ps z (plen qs)).take j).map fun p => qs ++ [p]).map rowQ, rfl, fun j d acc hd hI s0 H0 C cl fp xe => ?_, fun acc hI => ?_⟩⟩
        · obtain ⟨p, hp, rfl⟩ := map_get hd
          have hj := (List.getElem?_eq_some_iff.mp hp).1
          have hal : (pAt ps z (plen qs)).length ≤ 1000 := Nat.le_trans (List.length_filter_le _ _) hpl
          refine tc_name (i := 8) nd rfl (.inl rfl) (by simp) <| ets_nil ⟨fun _ => ?_, fun e => (nomatch e)⟩
          refine ed_bin <| nc 6 rfl rfl rfl <| ed_lst <| ea_cons <| nl 8 rfl rfl rfl <| ea_nil ⟨(by show 1 ≤ sizeLine; decide), add_ll (by rw [List.length_map]; simp only [List.length_cons, List.length_nil]; omega) ⟨?_, ?_⟩⟩
          · rw [hI, List.length_map, List.length_map, List.length_take]; omega
          · dsimp only at hI ⊢; rw [hI, take_succ hp, List.map_append, List.map_append]
            show _ ++ [_] = _ ++ [rowQ (qs ++ [p])]
            unfold rowQ
            rw [List.map_append]; rfl
        · rw [List.length_map, List.take_length, ← hext] at hI
          subst hI
          refine ⟨_, rfl, by rw [List.length_map, List.length_map]; omega, some (false, rowQ qs), some (false, .int (plen qs : Nat)), o8, ?_⟩
          rw [take_succ hq, List.filter_append, List.flatMap_append, List.flatMap_cons, List.flatMap_nil, List.append_nil, List.filter_cons_of_neg (p := fun qs => decide (plen qs = z.length)) (by rw [decide_eq_false c]; exact Bool.false_ne_true), List.filter_nil, List.append_nil, List.map_append (l₂ := extR ps z qs)]
          rfl
    · subst eΓ
      rw [List.length_map, List.take_length]
      refine wd_know 5 rfl ?_
      exact wd_one <| asg 3 nd rfl rfl <| nl 5 rfl rfl rfl ⟨_, _, _, _, _, rfl⟩
  · subst eΓ
    rw [rangeD_length, show (((z.length : Nat) : Int) + 1).toNat = z.length + 1 by omega]
    have dE := done_enum hp1 hnd (z := z) (z.length + 1)
    have dl := done_len hp1 hnd hz (z.length + 1)
    exact wd_one <| w_retO (i := 2) rfl (.inl rfl) rfl rfl <| h _ ⟨dE.1, fun qs => (dE.2 qs).trans ⟨fun a => a.2, fun a => ⟨by have := a.len hp1 (Nat.le_refl _); omega, a⟩⟩⟩ dl
end
end Lw

namespace Lw
open PySem L2 DL TL
/-- a pair of numbers -/
def prD (x : Int × Int) : D := .tup [.int x.1, .int x.2]
theorem prD_flatT (x : Int × Int) : flatT (prD x) = true := by
  unfold prD; simp [flatT, flatTs, flat]
section
variable {P : Program} {w : World} {K : PySem.W.Frag} {mg : Str → Option Value} {base : Heap}
def phCounted : Ph := fun ds rt _ => ∃ (ps : List Str) (z : Str), ds = [.lst (ps.map D.str), .str z] ∧ ps.length ≤ 1000 ∧ z.length ≤ 1000 ∧ (∀ p ∈ ps, 1 ≤ p.length ∧ p.length ≤ 1000) ∧ ps.Nodup ∧ (∀ i, i < z.length → pAt ps z i ≠ []) ∧ ∀ few many, Told ps z 0 few many → rt false (prD (few, many))
theorem p__law_counted (T : Txt K mg) : FnD P w K mg base 2 (He.fAd K ("_law_counted", none)) 2 phCounted := mk_law_counted T fun cdv A outer s H E hr ds rt xs hφ hl => by
  obtain ⟨ps, z, rfl, hpl, hz, hps, hnd, hne, h⟩ := hφ
  have nd := sc_law_counted.nd
  have big : (200000 : Nat) ≤ sizeLine := by decide
  have big62 : (200000 : Int) < 2 ^ 62 := by decide
  have hp1 : ∀ p ∈ ps, 1 ≤ p.length := fun p hp => (hps p hp).1
  refine wd_cons <| asgc 2 nd rfl rfl rfl <| ed_lst <| ea_cons <| ed_tup <| ea_cons <| ed_int <| ea_cons <| ed_int <| ea_nil ⟨(by show 2 ≤ sizeLine; decide), ea_nil ⟨(by show 1 ≤ sizeLine; decide), ?_⟩⟩
  refine wd_n (by simp only [e0_law_counted, List.set_cons_zero, List.set_cons_succ]; rfl) ?_
  refine wd_cons <| w_for rfl <| rg2 T.zrange <| ed_int <| ed_bin <| len_ T.zlen <| nl 1 rfl rfl rfl ⟨_, len_str (by omega), ed_int <| add_ii ⟨1, _, rfl, rfl, ⟨by decide, by decide, by omega, by omega⟩, fun i Γ => ∃ (L : List (Int × Int)) (o3 o4 o5 o6 o7 o8 o9 : Option (Bool × D)), Γ = [some (false, .lst (ps.map D.str)), some (false, .str z), some (true, .lst (L.map prD)), o3, o4, o5, o6, o7, o8, o9] ∧ L.length = i + 1 ∧ ∀ b, b ≤ i → Told ps z (z.length - b) (L.getD b (0, 0)).1 (L.getD b (0, 0)).2,
    ⟨[(0, 1)], none, none, none, none, none, none, none, rfl, rfl, fun b hb => ?_⟩, fun i d Γ' hd ⟨L, o3, o4, o5, o6, o7, o8, o9, eΓ, hL, hT⟩ => ?_, fun Γ' ⟨L, o3, o4, o5, o6, o7, o8, o9, eΓ, hL, hT⟩ => ?_⟩⟩
  · have : b = 0 := by omega
    subst this
    exact Told.last hp1
  · subst eΓ
    obtain ⟨hi, rfl⟩ := rangeD_get hd
    have hi : i + 1 ≤ z.length := by omega
    rw [show (1 : Int) + (i : Int) = ((i + 1 : Nat) : Int) by omega]
    obtain ⟨k, hk⟩ : ∃ k, k + (i + 1) = z.length := ⟨z.length - (i + 1), by omega⟩
    have ek : ((z.length : Nat) : Int) - ((i + 1 : Nat) : Int) = ((k : Nat) : Int) := by omega
    have hpt : ∀ p ∈ pAt ps z k, 1 ≤ p.length ∧ k + p.length ≤ z.length := fun p hp => by
      have h1 := hp1 p (pAt_mem.mp hp).1
      exact ⟨h1, (pAt_len hp h1).1⟩
    have hal : (pAt ps z k).length ≤ 1000 := Nat.le_trans (List.length_filter_le _ _) hpl
    refine td_name (i := 3) nd rfl (.inr rfl) ?_
    refine wd_cons <| asg 4 nd rfl rfl <| ed_bin <| len_ T.zlen <| nl 1 rfl rfl rfl ⟨_, len_str (by omega), nc 3 rfl rfl rfl <| sub_ii ?_⟩
    rw [ek]
    refine wd_n (by simp only [List.set_cons_zero, List.set_cons_succ]; rfl) ?_
    refine wd_cons <| w_asgLc (i := 5) (own := [("_law_piece", 7)]) rfl nd (blkOk_by rfl) rfl rfl (hsw := sw_true rfl rfl rfl rfl) <| ei_list <| call_ (p__law_pieces_at T) (hr.mono (by decide)) T.g_law_pieces_at <| ea_cons <| nl 0 rfl rfl rfl <| ea_cons <| nl 1 rfl rfl rfl <| ea_cons <| nl 4 rfl rfl rfl <| ea_nil ⟨rfl, ps, z, k, rfl, hpl, by omega, fun p hp => (hps p hp).2, .inl ⟨_, rfl, fun j acc => acc = (((pAt ps z k).take j).map fun p => L.getD (z.length - (k + p.length)) (0, 0)).map prD, rfl, fun j d acc hd hI s0 H0 C cl fp xe => ?_, fun acc hI => ?_⟩⟩
    · obtain ⟨p, hp, rfl⟩ := map_get hd
      have hj := (List.getElem?_eq_some_iff.mp hp).1
      obtain ⟨p1, p2⟩ := hpt p (List.mem_of_getElem? hp)
      have p3 := (hps p (pAt_mem.mp (List.mem_of_getElem? hp)).1).2
      have ei : ((i + 1 : Nat) : Int) - ((p.length : Nat) : Int) = ((z.length - (k + p.length) : Nat) : Int) := by omega
      have hlt : z.length - (k + p.length) < L.length := by omega
      have ab : L2.atI (L.map prD) (((i + 1 : Nat) : Int) - ((p.length : Nat) : Int)) = some (prD (L.getD (z.length - (k + p.length)) (0, 0))) := by
        rw [ei]
        refine atI_map prD (at_nat ?_)
        rw [List.getD_eq_getElem?_getD, List.getElem?_eq_getElem hlt]; rfl
      refine tc_name (i := 7) nd rfl (.inl rfl) (by simp) <| ets_nil ⟨fun _ => ?_, fun e => (nomatch e)⟩
      refine ed_flatT <| ed_ix <| nc 2 rfl rfl rfl <| ed_bin <| nc 3 rfl rfl rfl <| len_ T.zlen <| nl 7 rfl rfl rfl ⟨_, len_str (by omega), sub_ii <| ix_lst ab ⟨prD_flatT _, ?_, ?_⟩⟩
      · rw [hI, List.length_map, List.length_map, List.length_take]; omega
      · dsimp only at hI ⊢; rw [hI, take_succ hp, List.map_append, List.map_append]; rfl
    rw [List.length_map, List.take_length] at hI
    subst hI
    generalize hQ : ((pAt ps z k).map fun p => L.getD (z.length - (k + p.length)) (0, 0)) = Q
    have hQl : Q.length = (pAt ps z k).length := by rw [← hQ, List.length_map]
    refine wd_know 5 rfl ?_
    refine wd_n (by simp only [List.set_cons_zero, List.set_cons_succ]; rfl) ?_
    refine wd_cons <| asgc 6 nd rfl rfl rfl <| minL_ T.zmin <| ed_lc (own := [("_law_one", 8), ("_law_many", 9)]) rfl nd (blkOk_by rfl) <| ei_list <| nl 5 rfl rfl rfl <| .inl ⟨_, rfl, fun j acc => acc = ((Q.take j).map Prod.fst).map D.int, rfl, fun j d acc hd hI s0 H0 C cl fp xe => ?_, fun acc hI => ?_⟩
    · obtain ⟨x, hx, rfl⟩ := map_get hd
      have hj := (List.getElem?_eq_some_iff.mp hx).1
      refine tc_two rfl <| tc_name (i := 8) nd rfl (.inl rfl) (by simp) <| tc_name (i := 9) nd rfl (.inl rfl) (by simp) <| ets_nil ⟨fun _ => ?_, fun e => (nomatch e)⟩
      refine nl 8 rfl rfl rfl ⟨?_, ?_⟩
      · rw [hI, List.length_map, List.length_map, List.length_take]; omega
      · dsimp only at hI ⊢; rw [hI, take_succ hx, List.map_append, List.map_append]; rfl
    rw [List.length_map, List.take_length] at hI
    refine ⟨Q.map Prod.fst, by rw [hI], by rw [List.length_map, hQl]; exact List.length_pos_iff.mpr (hne k (by omega)), fun few hm hmin => ?_⟩
    refine wd_n (by simp only [List.set_cons_zero, List.set_cons_succ]; rfl) ?_
    refine wd_one <| app 2 rfl (.inr (.inl rfl)) rfl <| ed_tup <| ea_cons <| ed_bin <| nc 6 rfl rfl rfl <| ed_int <| add_ii <| ea_cons <| sum_ T.zsum <| ed_lc (own := [("_law_one", 8), ("_law_many", 9)]) rfl nd (blkOk_by rfl) <| ei_list <| nl 5 rfl rfl rfl <| .inl ⟨_, rfl, fun j acc => acc = (((Q.take j).filter fun x => decide (x.1 = few)).map Prod.snd).map D.int, rfl, fun j d acc hd hI s0 H0 C cl fp xe => ?_, fun acc hI => ?_⟩
    · obtain ⟨x, hx, rfl⟩ := map_get hd
      have hj := (List.getElem?_eq_some_iff.mp hx).1
      refine tc_two rfl <| tc_name (i := 8) nd rfl (.inl rfl) (by simp) <| tc_name (i := 9) nd rfl (.inl rfl) (by simp) <| ets_one <| et_cmp <| nl 8 rfl rfl rfl <| nc 6 rfl rfl rfl <| eq_ii ⟨fun c => ?_, fun c => ?_⟩
      · refine nl 9 rfl rfl rfl ⟨?_, ?_⟩
        · rw [hI, List.length_map, List.length_map]
          have := List.length_filter_le (fun x : Int × Int => decide (x.1 = few)) (Q.take j)
          rw [List.length_take] at this
          omega
        · dsimp only at hI ⊢
          rw [hI, take_succ hx, List.filter_append, List.map_append, List.map_append, List.filter_cons_of_pos (p := fun x : Int × Int => decide (x.1 = few)) c]
          rfl
      · dsimp only at hI ⊢
        rw [hI, take_succ hx, List.filter_append, List.map_append, List.map_append, List.filter_cons_of_neg (p := fun x : Int × Int => decide (x.1 = few)) (by rw [c]; exact Bool.false_ne_true)]
        simp
    rw [List.length_map, List.take_length] at hI
    subst hI
    refine ⟨_, rfl, ea_nil ⟨(by show 2 ≤ sizeLine; decide), by rw [List.length_map]; omega, L ++ [(few + 1, ((Q.filter fun x => decide (x.1 = few)).map Prod.snd).sum)], _, _, _, _, _, _, _, by rw [List.map_append]; rfl, by rw [List.length_append, hL]; rfl, fun b hb => ?_⟩⟩
    by_cases hb1 : b = i + 1
    · subst hb1
      have e1 : (L ++ [(few + 1, ((Q.filter fun x => decide (x.1 = few)).map Prod.snd).sum)]).getD (i + 1) (0, 0) = (few + 1, ((Q.filter fun x => decide (x.1 = few)).map Prod.snd).sum) := by
        rw [List.getD_eq_getElem?_getD, List.getElem?_append_right (by omega), hL, Nat.sub_self]; rfl
      rw [e1, show z.length - (i + 1) = k by omega]
      have st := Told.step (ps := ps) (z := z) hp1 hnd (i := k) (by omega) (one := fun j => (L.getD (z.length - j) (0, 0)).1) (many := fun j => (L.getD (z.length - j) (0, 0)).2) (fun j a b => by
        have := hT (z.length - j) (by omega)
        rw [show z.length - (z.length - j) = j by omega] at this
        exact this) (few := few) (by rw [← hQ, List.map_map] at hm; exact hm) (by rw [← hQ, List.map_map] at hmin; exact hmin)
      rw [← hQ, List.filter_map, List.map_map]
      exact st
    · have : (L ++ [(few + 1, ((Q.filter fun x => decide (x.1 = few)).map Prod.snd).sum)]).getD b (0, 0) = L.getD b (0, 0) := by
        rw [List.getD_eq_getElem?_getD, List.getElem?_append_left (by omega), ← List.getD_eq_getElem?_getD]
      rw [this]
      exact hT b (by omega)
  · subst eΓ
    rw [rangeD_length, show (((z.length : Nat) : Int) + 1 - 1).toNat = z.length by omega] at hL hT
    have hlast := hT z.length (Nat.le_refl _)
    rw [Nat.sub_self] at hlast
    have alast : L2.atI (L.map prD) (-1) = some (prD (L.getD z.length (0, 0))) := by
      have e : ixN L.length (-1) = some (L.length - 1) := ixN_last (by omega)
      have : L2.atI L (-1) = some (L.getD z.length (0, 0)) := by
        unfold L2.atI
        rw [e]
        show L[L.length - 1]? = _
        rw [show L.length - 1 = z.length by omega, List.getD_eq_getElem?_getD, List.getElem?_eq_getElem (by omega)]; rfl
      exact atI_map prD this
    exact wd_one <| w_ret <| ed_flatT <| ed_ix <| nc 2 rfl rfl rfl <| ed_neg <| ed_int ⟨1, rfl, ix_lst alast ⟨prD_flatT _, h _ _ hlast⟩⟩
end
end Lw

namespace Lw
open PySem L2 DL TL
section
variable {P : Program} {w : World} {K : PySem.W.Frag} {mg : Str → Option Value} {base : Heap}
def phRefused82 (K : PySem.W.Frag) : Ph := fun ds rt _ => ∃ (s : Str) (rows : List Row) (t p : D) (deed : Int), ds = [tabD K s rows, t, .int deed] ∧ tabErr s rows = none ∧ TxK t ∧ errT s t = some p ∧ rt false p
theorem p__law_refused (T : Txt K mg) : FnD P w K mg base 6 (He.fAd K ("_law_refused", none)) 3 (phRefused82 K) := mk_law_refused T fun cdv A outer s H E hr ds rt xs hφ hl => by
  obtain ⟨sg, rows, t, p, deed, rfl, hT, ht, he, h⟩ := hφ
  have nd := sc_law_refused.nd
  refine wd_cons <| asg 3 nd rfl rfl <| ed_neg <| ed_int ⟨1, rfl, ?_⟩
  refine wd_cons <| w_tryAs (i := 4) nd rfl rfl ⟨rfl, by decide, .inl T.gNoSign⟩ fun pn xe => ?_
  refine wd_one <| w_if <| et_cmp <| nl 2 rfl rfl rfl <| ed_int <| eq_ii ⟨fun c => ?_, fun c => ?_⟩
  · refine wd_one <| w_expr <| call_ (p_heights T) (hr.mono (by decide)) T.gheights <| ea_cons <| nl 0 rfl rfl rfl <| ea_cons <| nl 1 rfl rfl rfl <| ea_nil ⟨rfl, sg, rows, t, rfl, hT, ht, fun z ts e1 e2 => (by rw [he] at e2; cases e2), fun p' e => ⟨true, T.hNoSign_NoSign, fun _ a oe pn d' z hz hfl hx => ?_, fun e => (nomatch e)⟩⟩
    rw [he] at e; cases e
    rcases hx with ⟨_, e, _⟩ | ⟨dd, rfl, rfl⟩
    · cases e
    · refine wd_one <| w_asg (i := 3) nd rfl (.inl rfl) (ed_xf T.xNoSign T.nNoSign_place hz hfl <| nl 4 rfl rfl rfl ⟨rfl, _, rfl, ?_⟩)
      exact wd_one <| w_ret <| nl 3 rfl rfl rfl h
  refine wd_one <| w_if <| et_cmp <| nl 2 rfl rfl rfl <| ed_int <| eq_ii ⟨fun c => ?_, fun c => ?_⟩
  · refine wd_one <| w_expr <| call_ (p_fewest T) (hr.mono (by decide)) T.gfewest <| ea_cons <| nl 0 rfl rfl rfl <| ea_cons <| nl 1 rfl rfl rfl <| ea_nil ⟨rfl, sg, rows, t, rfl, hT, ht, fun z ts qs e1 e2 => (by rw [he] at e2; cases e2), fun p' e => ⟨true, T.hNoSign_NoSign, fun _ a oe pn d' z hz hfl hx => ?_, fun e => (nomatch e)⟩⟩
    rw [he] at e; cases e
    rcases hx with ⟨_, e, _⟩ | ⟨dd, rfl, rfl⟩
    · cases e
    · refine wd_one <| w_asg (i := 3) nd rfl (.inl rfl) (ed_xf T.xNoSign T.nNoSign_place hz hfl <| nl 4 rfl rfl rfl ⟨rfl, _, rfl, ?_⟩)
      exact wd_one <| w_ret <| nl 3 rfl rfl rfl h
  · refine wd_one <| w_expr <| call_ (p_how_many T) (hr.mono (by decide)) T.ghow_many_fewest <| ea_cons <| nl 0 rfl rfl rfl <| ea_cons <| nl 1 rfl rfl rfl <| ea_nil ⟨rfl, sg, rows, t, rfl, hT, ht, fun z ts te L e1 e2 => (by rw [he] at e2; cases e2), fun p' e => ⟨true, T.hNoSign_NoSign, fun _ a oe pn d' z hz hfl hx => ?_, fun e => (nomatch e)⟩⟩
    rw [he] at e; cases e
    rcases hx with ⟨_, e, _⟩ | ⟨dd, rfl, rfl⟩
    · cases e
    · refine wd_one <| w_asg (i := 3) nd rfl (.inl rfl) (ed_xf T.xNoSign T.nNoSign_place hz hfl <| nl 4 rfl rfl rfl ⟨rfl, _, rfl, ?_⟩)
      exact wd_one <| w_ret <| nl 3 rfl rfl rfl h
end
end Lw

namespace Lw
open PySem L2 DL TL
theorem err_end {s z y : Str} {c : Nat} (h : TxOf s z) (hy : tl y = [c]) (hc : c ∉ s.cps.toList) : errT s (.str (z ++ y)) = some (.int (z.length : Nat)) := by
  show (badAt _ 0 _).map _ = _
  have e : (z ++ y).cps.toList = tl z ++ [c] := by rw [← hy]; exact tl_append z y
  rw [e, badAt_at (i := z.length) (c := c) (fun x hx => ?_) ?_ hc, Nat.zero_add]
  · rfl
  · rw [List.getElem?_append_right (by rw [← len_tl]; exact Nat.le_refl _), ← len_tl, Nat.sub_self]; rfl
  · rw [List.take_left' (len_tl z).symm] at hx
    exact h x hx
/-- the least length of all is the last height -/
theorem least_eq {ps : List Str} {z : Str} {ts : List Int} {te m : Int} {L : List (List Str)} (hps : ∀ p ∈ ps, 1 ≤ p.length) (hL : Enum (RowP ps z z.length) L) (hE : Exact ps z ts) (hte : ts[z.length]? = some te) (hm : m ∈ L.map fun qs => ((qs.length : Nat) : Int)) (hmin : ∀ y ∈ L.map (fun qs => ((qs.length : Nat) : Int)), m ≤ y) : te = m := by
  obtain ⟨q1, h1, l1⟩ := hE.ex z.length te (Nat.le_refl _) hte
  have a := hmin _ (List.mem_map.mpr ⟨q1, (hL.2 q1).mpr h1, rfl⟩)
  obtain ⟨q2, h2, l2⟩ := List.mem_map.mp hm
  have b := hE.le hps z.length te q2 (Nat.le_refl _) hte ((hL.2 q2).mp h2)
  omega
section
variable {P : Program} {w : World} {K : PySem.W.Frag} {mg : Str → Option Value} {base : Heap}
theorem p_law (T : Txt K mg) : ∃ fd, (∀ (s : Shared) (u : Value), BindsTo s fd ⟨[u], []⟩ [("_law_script", u)]) ∧ ∀ base : Heap, FnOk P w K mg base (L2.CX P w) 12 (He.fAd K ("law", none)) fd ["_law_script"] (spD K 1 phLaw) := mklaw T fun base cdv A outer s H E hr ds rt xs hφ hl => by
  obtain ⟨ns, rfl, hn, h⟩ := hφ
  have nd := sclaw.nd
  have big : (200000 : Nat) ≤ sizeLine := by decide
  have big62 : (200000 : Int) < 2 ^ 62 := by decide
  have nl10 : tl ("\n" : Str) = [10] := by decide +kernel
  refine wd_cons <| w_for rfl <| rg3 T.zrange <| ed_int <| max2_ T.zmax <| ed_int <| min2_ T.zmin <| ed_int <| len_ T.zlen <| nl 0 rfl rfl rfl ⟨_, rfl, _, _, rfl, rfl, _, _, rfl, rfl, ed_int ⟨0, _, 2, _, rfl, rfl, rfl, rg_two (by omega) (by omega),
    fun i Γ => ∃ o1 o2 o3 o4 o5 o6 o7 o8 o9 o10 o11 o12 o13 o14 o15 o16 : Option (Bool × D), Γ = [some (false, .scr ns), o1, o2, o3, o4, o5, o6, o7, o8, o9, o10, o11, o12, o13, o14, o15, o16] ∧ (0 < i → ∃ s rows, tabErr s rows = none ∧ o2 = some (false, .str s) ∧ o4 = some (false, .lst ((pcs s rows).map D.str)) ∧ o6 = some (false, tabD K s rows)),
    ⟨_, _, _, _, _, _, _, _, _, _, _, _, _, _, _, _, rfl, fun h => absurd h (Nat.lt_irrefl 0)⟩, fun i d Γ' hd ⟨o1, o2, o3, o4, o5, o6, o7, o8, o9, o10, o11, o12, o13, o14, o15, o16, e, _⟩ => ?_, fun Γ' ⟨o1, o2, o3, o4, o5, o6, o7, o8, o9, o10, o11, o12, o13, o14, o15, o16, e, hlast⟩ => ?_⟩⟩
  · subst e
    obtain ⟨hi, rfl⟩ := rangeCD_get hd
    have hi' : i < 40 := by omega
    clear hi hd
    have at0 : 0 ≤ (0 : Int) + (i : Nat) * 2 := by omega
    have at1 : (0 : Int) + (i : Nat) * 2 ≤ 100 := by omega
    generalize (0 : Int) + (i : Nat) * 2 = at_ at at0 at1 ⊢
    refine td_name (i := 1) nd rfl (.inl rfl) ?_
    refine wd_cons <| w_asgT <| call_ (p__law_table T) (hr.mono (by decide)) T.g_law_table <| ea_cons <| call_ (p__law_cell_at T) (hr.mono (by decide)) T.g_law_cell_at <| ea_cons <| nl 0 rfl rfl rfl <| ea_cons <| nl 1 rfl rfl rfl <| ea_nil ⟨rfl, ns, at_, rfl, at0, fun cell => ?_⟩
    refine ea_cons <| ed_bin <| ed_int <| nl 1 rfl rfl rfl <| add_ii <| ea_cons <| ed_int <| ea_nil ⟨rfl, cell, _, 24, rfl, by omega, by omega, by decide, by decide, fun s rows hT => ?_⟩
    obtain ⟨s1, s2, s3⟩ := tab_small hT
    have hS := (tabErr_none hT).1
    obtain ⟨hs1, _, _, _⟩ := signErr_none hS
    have hrl : ∀ r ∈ rows, r.1.length ≤ 1000 ∧ r.2.length ≤ 1000 := fun r hr => by have := (tab_rows hT r hr).2.2; omega
    have hls := pcs_ls hT
    have hps : ∀ p ∈ pcs s rows, 1 ≤ p.length ∧ p.length ≤ 100 := fun p hp => ⟨pcs_pos hT p hp, Nat.le_trans (hls p hp).1 (by decide)⟩
    have hp1 : ∀ p ∈ pcs s rows, 1 ≤ p.length := fun p hp => (hps p hp).1
    have hpl : (pcs s rows).length ≤ 1000 := by omega
    have hnd := pcs_nodup hT
    refine td_two rfl <| td_name (i := 2) nd rfl (.inl rfl) <| td_name (i := 3) nd rfl (.inl rfl) ?_
    refine wd_n (by simp only [List.set_cons_zero, List.set_cons_succ]; rfl) ?_
    -- the pieces
    refine wd_cons <| asg 4 nd rfl rfl <| ed_bin <| listT T.zlist <| nl 2 rfl rfl rfl ⟨s, rfl, by omega, ed_lc (own := [("_law_left", 14), ("_law_right", 15)]) rfl nd (blkOk_by rfl) <| ei_list <| nl 3 rfl rfl rfl <| .inl ⟨_, rfl, fun j acc => acc = ((rows.take j).map fun r => r.1 ++ r.2).map D.str, rfl, fun j d acc hd hI s0 H0 C cl fp xe => ?_, fun acc hI => ?_⟩⟩
    · obtain ⟨⟨l, r⟩, hr1, rfl⟩ := map_get hd
      have m3 := (tab_rows hT (l, r) (List.mem_of_getElem? hr1)).2.2
      have hj : j < rows.length := (List.getElem?_eq_some_iff.mp hr1).1
      dsimp only at m3
      refine tc_two rfl <| tc_name (i := 14) nd rfl (.inl rfl) (by simp) <| tc_name (i := 15) nd rfl (.inl rfl) (by simp) <| ets_nil ⟨fun _ => ?_, fun e => (nomatch e)⟩
      refine ed_bin <| nl 14 rfl rfl rfl <| nl 15 rfl rfl rfl <| add_ss (by show l.length + r.length ≤ sizeLine; omega) ⟨?_, ?_⟩
      · rw [hI, List.length_map, List.length_map, List.length_take]; omega
      · dsimp only at hI ⊢; rw [hI, take_succ hr1, List.map_append, List.map_append]; rfl
    rw [List.length_map, List.take_length] at hI
    refine add_ll (by rw [hI, List.length_map, List.length_map, List.length_map, signs_length]; show s.length + rows.length ≤ sizeLine; omega) ?_
    rw [hI, ← List.map_append]
    rw [show signs s ++ rows.map (fun r => r.1 ++ r.2) = pcs s rows from rfl]
    refine wd_know 4 rfl ?_
    -- the text
    refine wd_cons <| asg 5 nd rfl rfl <| call_ (p__law_text T) (hr.mono (by decide)) T.g_law_text <| ea_cons <| call_ (p__law_cell_at T) (hr.mono (by decide)) T.g_law_cell_at <| ea_cons <| nl 0 rfl rfl rfl <| ea_cons <| ed_bin <| nl 1 rfl rfl rfl <| ed_int <| add_ii <| ea_nil ⟨rfl, ns, _, rfl, by omega, fun cell2 => ?_⟩
    refine ea_cons <| ed_bin <| ed_int <| nl 1 rfl rfl rfl <| add_ii <| ea_cons <| nl 2 rfl rfl rfl <| ea_cons <| ed_int <| ea_nil ⟨rfl, cell2, _, 9, s, rfl, by omega, by omega, by decide, by decide, hS, fun z htx hz => ?_⟩
    have hz : z.length ≤ 9 := hz
    have tz : TxK (.str z) := ⟨rfl, fun y e => by cases e; omega⟩
    have zerr : errT s (.str z) = none := htx.err
    refine wd_n (by simp only [List.set_cons_zero, List.set_cons_succ]; rfl) ?_
    refine wd_cons <| asg 6 nd rfl rfl <| make T.mkTable (p_Table_init T) (hr.mono (by decide)) T.gTable <| ea_cons <| nl 2 rfl rfl rfl <| ea_cons <| list_ T.zlist <| nl 3 rfl rfl rfl ⟨_, .inl rfl, ea_nil ⟨rfl, s, rows, rfl, by omega, by omega, hrl, fun _ => ?_, fun a p e => by rw [hT] at e; cases e⟩⟩
    refine wd_n (by simp only [List.set_cons_zero, List.set_cons_succ]; rfl) ?_
    refine wd_know 6 rfl ?_
    -- all splittings
    refine wd_cons <| asg 7 nd rfl rfl <| call_ (p__law_all T) (hr.mono (by decide)) T.g_law_all <| ea_cons <| nl 4 rfl rfl rfl <| ea_cons <| nl 5 rfl rfl rfl <| ea_nil ⟨rfl, pcs s rows, z, rfl, hpl, hz, hps, hnd, fun L hL hLl => ?_⟩
    refine wd_know 7 rfl ?_
    refine wd_n (by simp only [List.set_cons_zero, List.set_cons_succ]; rfl) ?_
    have hrow : ∀ qs ∈ L, qs.length ≤ 9 := fun qs hq => Nat.le_trans (((hL.2 qs).mp hq).len hp1 (Nat.le_refl _)) hz
    have hLne : 0 < L.length := by
      have hr0 : RowP (pcs s rows) z z.length (signs z) := ⟨fun q hq => by
        unfold signs at hq; obtain ⟨c, hc, rfl⟩ := List.mem_map.mp hq; exact one_pc rows htx hc, by
        rw [List.take_of_length_le (by rw [← len_tl]; exact Nat.le_refl _)]
        have key : ∀ l : List Nat, ((l.map fun c => (⟨#[c]⟩ : Str)).map tl).flatten = l := fun l => by
          induction l with
          | nil => rfl
          | cons c r ih => rw [List.map_cons, List.map_cons, List.flatten_cons, ih]; rfl
        exact key _⟩
      exact List.length_pos_of_mem ((hL.2 _).mpr hr0)
    refine wd_cons <| asgc 8 nd rfl rfl rfl <| minL_ T.zmin <| ed_lc (own := [("_law_one", 16)]) rfl nd (blkOk_by rfl) <| ei_list <| nl 7 rfl rfl rfl <| .inl ⟨_, rfl, fun j acc => acc = ((L.take j).map fun qs => ((qs.length : Nat) : Int)).map D.int, rfl, fun j d acc hd hI s0 H0 C cl fp xe => ?_, fun acc hI => ?_⟩
    · obtain ⟨qs, hq, rfl⟩ := map_get hd
      have hj := (List.getElem?_eq_some_iff.mp hq).1
      refine tc_name (i := 16) nd rfl (.inl rfl) (by simp) <| ets_nil ⟨fun _ => ?_, fun e => (nomatch e)⟩
      refine len_ T.zlen <| nl 16 rfl rfl rfl ⟨_, rfl, ?_, ?_⟩
      · rw [hI, List.length_map, List.length_map, List.length_take]; omega
      · dsimp only at hI ⊢; rw [hI, take_succ hq, List.map_append, List.map_append, List.length_map]; rfl
    rw [List.length_map, List.take_length] at hI
    refine ⟨L.map fun qs => ((qs.length : Nat) : Int), by rw [hI], by rw [List.length_map]; exact hLne, fun m hm hmin => ?_⟩
    refine wd_n (by simp only [List.set_cons_zero, List.set_cons_succ]; rfl) ?_
    refine wd_cons <| asg 9 nd rfl rfl <| call_ (p_fewest T) (hr.mono (by decide)) T.gfewest <| ea_cons <| nl 6 rfl rfl rfl <| ea_cons <| nl 5 rfl rfl rfl <| ea_nil ⟨rfl, s, rows, _, rfl, hT, tz, fun z' tf qf e1 _ hexf hq1 hq2 hq3 hq4 => ?_, fun p e => by rw [zerr] at e; cases e⟩
    cases e1
    have em1 := least_eq hp1 hL hexf hq4 hm hmin
    have hqr : RowP (pcs s rows) z z.length qf := ⟨hq1, by rw [List.take_of_length_le (by rw [← len_tl]; exact Nat.le_refl _), ← join_empty, hq2]⟩
    have hqL := (hL.2 qf).mpr hqr
    refine wd_know 9 rfl ?_
    refine wd_cons <| asg 10 nd rfl rfl <| call_ (p_how_many T) (hr.mono (by decide)) T.ghow_many_fewest <| ea_cons <| nl 6 rfl rfl rfl <| ea_cons <| nl 5 rfl rfl rfl <| ea_nil ⟨rfl, s, rows, _, rfl, hT, tz, fun z' tm te' L' e1 _ hexm htm hL' => ?_, fun p e => by rw [zerr] at e; cases e⟩
    cases e1
    have em2 := least_eq hp1 hL hexm htm hm hmin
    subst em2
    refine wd_n (by simp only [List.set_cons_zero, List.set_cons_succ]; rfl) ?_
    have okr : ∀ qs ∈ L, ∀ y ∈ qs, PyData.strOk y = true := fun qs hq y hy => (hls y (((hL.2 qs).mp hq).1 y hy)).2.strOk
    have okq : eqOk (.lst (qf.map D.str)) = true := Emb.str.lst.ok (by decide) (okr qf hqL)
    have okL : eqOk (.lst (L.map rowQ)) = true := Emb.str.lst.lst.ok (a := L) (by decide) okr
    have hin : ((toPys (L.map rowQ)).any fun y => PyData.eqv y (toPy (.lst (qf.map D.str)))) = true := by
      rw [any_toPys, List.any_eq_true]
      exact ⟨rowQ qf, List.mem_map.mpr ⟨qf, hqL, rfl⟩, eqD_refl okq⟩
    refine wd_cons <| w_if <| et_w <| ew_or <| et_cmp <| nl 9 rfl rfl rfl <| nl 7 rfl rfl rfl <| nin_dd (by have := hr.un; omega) okq okL ?_
    rw [hin]
    refine ⟨fun _ => ?_, fun e => absurd e (by decide)⟩
    refine ew_or <| et_cmp <| len_ T.zlen <| nl 9 rfl rfl rfl ⟨_, rfl, nc 8 rfl rfl rfl <| ne_ii ?_⟩
    rw [List.length_map, em1, decide_eq_true rfl]
    refine ⟨fun _ => ?_, fun e => (nomatch e)⟩
    refine ew_or <| et_val <| isi_ "bool" T.zisinstance T.zbool bt_bool <| nl 10 rfl rfl rfl ⟨_, rfl, _, rfl, ⟨fun _ => ?_, fun e => absurd e (by decide +kernel)⟩⟩
    refine ew_or1 <| et_not <| et_val <| isi_ "int" T.zisinstance T.zint bt_int <| nl 10 rfl rfl rfl ⟨_, rfl, _, rfl, ⟨fun e => absurd e (by decide +kernel), fun _ => wd_nil ?_⟩⟩
    have hcnt : cnt L' te' = cnt L te' := hL'.cnt_eq hL te'
    refine wd_cons <| w_if <| et_w <| ew_or <| et_cmp <| nl 10 rfl rfl rfl <| len_ T.zlen <| ed_lc (own := [("_law_one", 16)]) rfl nd (blkOk_by rfl) <| ei_list <| nl 7 rfl rfl rfl <| .inl ⟨_, rfl, fun j acc => acc = ((L.take j).filter fun qs => decide (((qs.length : Nat) : Int) = te')).map rowQ, rfl, fun j d acc hd hI s0 H0 C cl fp xe => ?_, fun acc hI => ?_⟩
    · obtain ⟨qs, hq, rfl⟩ := map_get hd
      have hj := (List.getElem?_eq_some_iff.mp hq).1
      refine tc_name (i := 16) nd rfl (.inl rfl) (by simp) <| ets_one <| et_cmp <| len_ T.zlen <| nl 16 rfl rfl rfl ⟨_, rfl, nc 8 rfl rfl rfl <| eq_ii ?_⟩
      rw [List.length_map]
      refine ⟨fun c => ?_, fun c => ?_⟩
      · refine nl 16 rfl rfl rfl ⟨?_, ?_⟩
        · rw [hI, List.length_map]
          have := List.length_filter_le (fun qs : List Str => decide (((qs.length : Nat) : Int) = te')) (L.take j)
          rw [List.length_take] at this
          omega
        · dsimp only at hI ⊢
          rw [hI, take_succ hq, List.filter_append, List.map_append, List.filter_cons_of_pos (p := fun qs : List Str => decide (((qs.length : Nat) : Int) = te')) c]
          rfl
      · dsimp only at hI ⊢
        rw [hI, take_succ hq, List.filter_append, List.map_append, List.filter_cons_of_neg (p := fun qs : List Str => decide (((qs.length : Nat) : Int) = te')) (by rw [c]; exact Bool.false_ne_true)]
        simp
    rw [List.length_map, List.take_length] at hI
    subst hI
    refine ⟨_, rfl, ne_ii ?_⟩
    rw [List.length_map, hcnt, show (L.filter fun qs => decide (((qs.length : Nat) : Int) = te')).length = cnt L te' from rfl, decide_eq_true rfl]
    refine ⟨fun _ => ?_, fun e => (nomatch e)⟩
    refine ew_or1 <| et_cmp <| ed_ix <| call_ (p_heights T) (hr.mono (by decide)) T.gheights <| ea_cons <| nl 6 rfl rfl rfl <| ea_cons <| nl 5 rfl rfl rfl <| ea_nil ⟨rfl, s, rows, _, rfl, hT, tz, fun z' ts e1 _ hex => ?_, fun p e => by rw [zerr] at e; cases e⟩
    cases e1
    have htl := hex.1
    obtain ⟨tq, htq⟩ : ∃ tq, ts[z.length]? = some tq := ⟨_, List.getElem?_eq_getElem (by omega)⟩
    have em3 := least_eq hp1 hL hex htq hm hmin
    subst em3
    have alast : L2.atI (ts.map D.int) (-1) = some (.int tq) := by
      have e : ixN ts.length (-1) = some (ts.length - 1) := ixN_last (by omega)
      have : L2.atI ts (-1) = some tq := by
        unfold L2.atI
        rw [e]
        show ts[ts.length - 1]? = _
        rw [show ts.length - 1 = z.length by omega]; exact htq
      exact atI_map D.int this
    refine ed_neg <| ed_int ⟨1, rfl, ix_lst alast <| nc 8 rfl rfl rfl <| ne_ii ?_⟩
    rw [decide_eq_true rfl]
    refine ⟨fun e => (nomatch e), fun _ => wd_nil ?_⟩
    -- refused
    refine wd_one <| w_for rfl <| rg1 T.zrange <| ed_int ⟨3, rfl, by decide, by decide, fun j Γ => ∃ o11 o12 : Option (Bool × D), Γ = [some (false, .scr ns), some (false, .int at_), some (false, .str s), some (false, .lst (rows.map rowD)), some (false, .lst ((pcs s rows).map D.str)), some (false, .str z), some (false, tabD K s rows), some (false, .lst (L.map rowQ)), some (false, .int tq), some (false, rowQ qf), some (false, .int ((cnt L tq : Nat) : Int)), o11, o12, o13, o14, o15, o16],
      ⟨_, _, rfl⟩, fun j d Γ' hd ⟨o11, o12, e⟩ => ?_, fun Γ' ⟨o11, o12, e⟩ => ?_⟩
    · subst e
      obtain ⟨hj, rfl⟩ := rangeD_get hd
      refine td_name (i := 11) nd rfl (.inl rfl) ?_
      refine wd_cons <| w_if <| et_cmp <| call_ (p__law_refused T) (hr.mono (by decide)) T.g_law_refused <| ea_cons <| nl 6 rfl rfl rfl <| ea_cons <| ed_bin <| nl 5 rfl rfl rfl <| ed_str <| add_ss (by have : ("\n" : Str).length = 1 := by rw [len_tl, nl10]; rfl
                                                                                                                                                                                                         omega) <| ea_cons <| nl 11 rfl rfl rfl <| ea_nil ⟨rfl, s, rows, _, _, _, rfl, hT, ⟨rfl, fun y e => ?_⟩, err_end htx nl10 (odd_sign hS (by decide)), len_ T.zlen <| nl 5 rfl rfl rfl ⟨_, len_str (by omega), ne_ii ?_⟩⟩
      · cases e
        rw [app_len, show ("\n" : Str).length = 1 by rw [len_tl, nl10]; rfl]
        omega
      rw [decide_eq_true rfl]
      refine ⟨fun e => (nomatch e), fun _ => wd_nil ?_⟩
      refine wd_one <| w_for rfl <| ei_list <| ed_lst <| ea_cons <| ed_lst <| ea_cons <| nl 5 rfl rfl rfl <| ea_nil ⟨(by show 1 ≤ sizeLine; decide), ea_cons <| ed_non <| ea_cons <| len_ T.zlen <| nl 5 rfl rfl rfl ⟨_, len_str (by omega), ea_cons <| ed_tup <| ea_cons <| nl 5 rfl rfl rfl <| ea_nil ⟨(by show 1 ≤ sizeLine; decide), ea_cons <| ed_dnewK <| ea_cons <| ed_bl <| ea_nil ⟨(by show 6 ≤ sizeLine; decide), ?_⟩⟩⟩⟩
      refine .inl ⟨_, rfl, fun k Γ => ∃ o12 : Option (Bool × D), Γ = [some (false, .scr ns), some (false, .int at_), some (false, .str s), some (false, .lst (rows.map rowD)), some (false, .lst ((pcs s rows).map D.str)), some (false, .str z), some (false, tabD K s rows), some (false, .lst (L.map rowQ)), some (false, .int tq), some (false, rowQ qf), some (false, .int ((cnt L tq : Nat) : Int)), some (false, .int (0 + (j : Int))), o12, o13, o14, o15, o16],
        ⟨_, rfl⟩, fun k d Γ' hd ⟨o12, e⟩ => ?_, fun Γ' ⟨o12, e⟩ => ?_⟩
      · subst e
        have hdm := List.mem_of_getElem? hd
        have hk : TxK d ∧ errT s d = some .non := by
          simp only [List.mem_cons, List.not_mem_nil, or_false] at hdm
          rcases hdm with e | e | e | e | e | e <;> subst e <;> exact ⟨⟨rfl, fun z e => (nomatch e)⟩, rfl⟩
        refine td_name (i := 12) nd rfl (.inl rfl) ?_
        refine wd_one <| w_if <| et_cmp <| call_ (p__law_refused T) (hr.mono (by decide)) T.g_law_refused <| ea_cons <| nl 6 rfl rfl rfl <| ea_cons <| nl 12 rfl rfl rfl <| ea_cons <| nl 11 rfl rfl rfl <| ea_nil ⟨rfl, s, rows, _, _, _, rfl, hT, hk.1, hk.2, ed_non <| not_non ⟨fun e => absurd e (by decide), fun _ => wd_nil ⟨_, rfl⟩⟩⟩
      · subst e
        exact ⟨_, _, rfl⟩
    · subst e
      exact ⟨_, _, _, _, _, _, _, _, _, _, _, _, _, _, _, _, rfl, fun _ => ⟨s, rows, hT, rfl, rfl, rfl⟩⟩
  subst e
  obtain ⟨s, rows, hT, rfl, rfl, rfl⟩ := hlast (by rw [rangeCD_length]; omega)
  obtain ⟨s1, s2, s3⟩ := tab_small hT
  have hS := (tabErr_none hT).1
  have hls := pcs_ls hT
  have hps : ∀ p ∈ pcs s rows, 1 ≤ p.length ∧ p.length ≤ 1000 := fun p hp => ⟨pcs_pos hT p hp, Nat.le_trans (hls p hp).1 (by decide)⟩
  have hp1 : ∀ p ∈ pcs s rows, 1 ≤ p.length := fun p hp => (hps p hp).1
  have hpl : (pcs s rows).length ≤ 1000 := by omega
  have hnd := pcs_nodup hT
  refine wd_cons <| asg 5 nd rfl rfl <| ed_str ?_
  refine wd_n (by simp only [List.set_cons_zero, List.set_cons_succ]; rfl) ?_
  have hcl := cutD_len ns none (some 63)
  have tx0 : TxOf s ("" : Str) := fun c hc => by
    have : ("" : Str).cps.toList = [] := by decide +kernel
    rw [this] at hc; cases hc
  have el0 : ("" : Str).length = 0 := by decide +kernel
  refine wd_cons <| w_for rfl <| enL T.zenumerate <| ed_slice <| nl 0 rfl rfl rfl <| eo_none <| eo_some <| ed_int ⟨_, rfl, ⟨_, rfl, fun i Γ => ∃ (z : Str) (o1 o13 : Option (Bool × D)), Γ = [some (false, .scr ns), o1, some (false, .str s), o3, some (false, .lst ((pcs s rows).map D.str)), some (false, .str z), some (false, tabD K s rows), o7, o8, o9, o10, o11, o12, o13, o14, o15, o16] ∧ TxOf s z ∧ z.length ≤ 4 * i,
    ⟨_, _, _, rfl, tx0, by rw [el0]; omega⟩, fun i d Γ' hd ⟨z, o1, o13, e, htx, hz⟩ => ?_, fun Γ' ⟨z, o1, o13, e, htx, hz⟩ => ?_⟩⟩
  · subst e
    obtain ⟨a, b, ha, hb, rfl⟩ := pairs_get hd
    obtain ⟨hi, rfl⟩ := rangeD_get ha
    obtain ⟨cell, hcell, rfl⟩ := map_get hb
    rw [List.length_map] at hi
    rw [Int.zero_add]
    refine td_two rfl <| td_name (i := 1) nd rfl (.inl rfl) <| td_name (i := 13) nd rfl (.inl rfl) ?_
    refine wd_one <| asg 5 nd rfl rfl <| ed_bin <| nl 5 rfl rfl rfl <| call_ (p__law_text T) (hr.mono (by decide)) T.g_law_text <| ea_cons <| nl 13 rfl rfl rfl <| ea_cons <| ed_bin <| ed_int <| nl 1 rfl rfl rfl <| add_ii <| ea_cons <| nl 2 rfl rfl rfl <| ea_cons <| ed_int <| ea_nil ⟨rfl, cell, _, 4, s, rfl, by omega, by omega, by decide, by decide, hS, fun y hy hyl => add_ss (by have : (4 : Int).toNat = 4 := rfl; omega) ⟨z ++ y, some (false, .int (i : Int)), some (false, .int cell), rfl, fun c hc => ?_, by rw [app_len]; have : (4 : Int).toNat = 4 := rfl; omega⟩⟩
    rw [show (z ++ y).cps.toList = tl z ++ tl y from tl_append z y] at hc
    rcases List.mem_append.mp hc with h | h
    · exact htx c h
    · exact hy c h
  subst e
  rw [pairs_length, rangeD_length, List.length_map, Nat.min_self] at hz
  have hz : z.length ≤ 252 := by omega
  have tz : TxK (.str z) := ⟨rfl, fun y e => by cases e; omega⟩
  have zerr : errT s (.str z) = none := htx.err
  refine wd_one <| w_ret <| ed_cmp <| call_ (p_how_many T) (hr.mono (by decide)) T.ghow_many_fewest <| ea_cons <| nl 6 rfl rfl rfl <| ea_cons <| nl 5 rfl rfl rfl <| ea_nil ⟨rfl, s, rows, _, rfl, hT, tz, fun z' ts te L e1 _ hex hte hL => ?_, fun p e => by rw [zerr] at e; cases e⟩
  cases e1
  refine ed_ix <| call_ (p__law_counted T) (hr.mono (by decide)) T.g_law_counted <| ea_cons <| nl 4 rfl rfl rfl <| ea_cons <| nl 5 rfl rfl rfl <| ea_nil ⟨rfl, pcs s rows, z, rfl, hpl, by omega, hps, hnd, fun i hi => pAt_ne htx hi, fun few many ht => ?_⟩
  obtain ⟨rfl, rfl⟩ := told_same hp1 hex hte ht hL
  refine ed_int <| ix_tup rfl <| eq_ii ?_
  rw [decide_eq_true rfl]
  exact h
end
end Lw

open PySem PySem.W PySem.Calls PyProof.Rows
set_option maxRecDepth 100000 in
set_option maxHeartbeats 0 in
theorem PySem.Challenge.cw_joinranks_k82_the_fewest_counted_holds : PySem.Challenge.rw_joinranks_k82_the_fewest_counted.Holds := by
  w_on; o_law
  refine HandSHeadRun.head_any (r := OpenLaw.row PySem.Challenge.rw_joinranks_k82_the_fewest_counted) (q := view (OpenLaw.row PySem.Challenge.rw_joinranks_k82_the_fewest_counted).prog [36]) (H := Lw.hk) (ob := Lw.ob) (M := 20000) (loose := Lw.loose) (d := HandSHeadRun.topDef (OpenLaw.row PySem.Challenge.rw_joinranks_k82_the_fewest_counted).prog 36) (kwd := []) Lw.ob_eq
    (by kernel_rfl) (fun s => by kernel_rfl) Lw.run (by kernel_rfl) (by kernel_rfl) (by kernel_rfl) (by rfl) (by first | assumption | decide +kernel) (by decide +kernel) ⟨rfl, rfl, rfl, rfl, rfl, by decide +kernel⟩ ?hw ?hc
  case hw => w_witness2
  case hc =>
    refine DL.law_end (l := PySem.Challenge.rw_joinranks_k82_the_fewest_counted) (k := 12) (x := "_law_script") rfl (by kernel_rfl) ⟨rfl, by decide, by decide⟩ ?F
    intro w mg fa h Y G hmg0
    obtain ⟨K, KX, c⟩ := Y
    have hmg : mg ("law" : PySem.Str) = some (.ref fa) := by
      have e : (HandSHeadRun.topDef (OpenLaw.row PySem.Challenge.rw_joinranks_k82_the_fewest_counted).prog 36).name = ("law" : PySem.Str) := by kernel_rfl
      rw [← e]
      exact hmg0
    have T := Lw.txt_of KX G c
    have e := hmg.symm.trans T.glaw
    cases e
    obtain ⟨fd, hb, hF⟩ := Lw.p_law (P := (PySem.Challenge.rw_joinranks_k82_the_fewest_counted).prog) (w := w) T
    exact ⟨K, KX, fd, hb, fun base _ _ => hF base⟩
#print axioms PySem.Challenge.cw_joinranks_k82_the_fewest_counted_holds
