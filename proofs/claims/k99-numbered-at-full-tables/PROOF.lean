import PyProof.Rows.All
import Wide.All
import OpenK.AllK
import Wide.FinOn
import HandS.ForMost
import HandS.Exc
import HandS.TryOnly
import HandS.ExcOwn
import HandS.WordsExc
import HandS.ExcInit
import KE.KDictCopyH
import HandS.Wide
import HandS.IsInst
import HandS.Walk
import HandS.Flow
import HandS.TupLen
import HandS.WordsDict
import PyProof.Draws
import HandS.ClsMeth
import HandS.ExcField
import KE.GoesRaise
import HandS.Comp
import HandS.HeadHook2
import HandS.Head2
import HandS.HeadNt
import HandS.HeadEnd
import HandS.Replace
import PyProof.StrBlock2
import HandS.Text
import KE.IntTextLaws
import HandS.Conv
import PyProof.ListStr
import HandS.Strs
import HandS.Style
import HandS.Deep
import HandS.Iter
import KE.DataCmp
import PySem.Challenge.RW_joinranks_k99_whole_numbered_at_full_tab
set_option Elab.async false
set_option linter.all false
set_option maxRecDepth 100000
set_option maxHeartbeats 0
/-! DL0: data as trees over the hand layer: what is known (G) and what is owned, the judgements of expressions, tests, statements. -/
namespace DL
open PySem L2

/-- a cache: by pairs of some texts, what f tells -/
structure MemoF where
  ps : List Str
  f : Str → Str → Bool
/-! a dict whose keys are tuples of ints, texts, None -/
def lfV : Leaf → V
  | .none => .non
  | .num i => .int i
  | .text x => .str x
def lfHash (w : World) (ks : List Leaf) : Int := reduceHash (Builtin.Tuple.tupleHashOf (ks.map fun k => k.key.hash w))
def lfEnt (w : World) (x : List Leaf × Addr × Value) : DictEntry := ⟨lfHash w x.1, .ref x.2.1, x.2.2⟩
def dnP (w : World) (a : Addr) (qs : List (List Leaf × Addr × V)) (h : Heap) : Prop := qs.length ≤ sizeLine ∧ (a == sysModules) = false ∧ ∃ xs : List (List Leaf × Addr × Value), Paired (fun (q : List Leaf × Addr × V) (x : List Leaf × Addr × Value) => q.1 = x.1 ∧ q.2.1 = x.2.1 ∧ RelV q.2.2 x.2.2) qs xs ∧
  ∃ o es ep, h.get? a = some o ∧ o.ExactDict ∧ o.data = .dict es ep ∧ es.toList = xs.map (lfEnt w) ∧ (xs.map (·.1)).Nodup
def dnO (w : World) (a : Addr) (qs : List (List Leaf × Addr × V)) : HO := .ext (dnP w a qs)
def dnR (w : World) (a : Addr) (qs : List (List Leaf × Addr × V)) : Bool → HO → Prop
  | false, o => o = dnO w a qs
  | true, o => ∃ ob, o = .frz ob (dnO w a qs)
/-- data: values as trees -/
inductive D where
  | non | bl (b : Bool) | int (i : Int) | str (x : Str) | ty (n : String)
  | lst (xs : List D) | tup (xs : List D)
  | dK (kvs : List (Key × D)) | dT (kvs : List (List Key × D))
  | ins (C : Addr) (fs : List (Str × D))
  | memo (f : MemoF)
  | dN (w : World) (fz : Bool) (kvs : List (List Leaf × D))
  | ref (a : Addr)
  | scr (ns : List Int)
  | exn (a dd : Addr) (fs : List (Str × D))
  | adr (a : Addr) (d : D)

/-- what is known at an address -/
inductive GO where
  | ho (o : HO)
  | memo (f : MemoF)
abbrev Gh := Addr → Option GO
def gupd (G : Gh) (a : Addr) (g : GO) : Gh := fun b => if b = a then some g else G b
theorem gupd_same {G : Gh} {a : Addr} {g : GO} : gupd G a g a = some g := by unfold gupd; rw [if_pos rfl]
theorem gupd_ne {G : Gh} {a b : Addr} {g : GO} (h : b ≠ a) : gupd G a g b = G b := by unfold gupd; rw [if_neg h]

def MemoOk (f : MemoF) (kvs : List (List Key × V)) : Prop :=
  (kvs.map (·.1)).Nodup ∧ ∀ kv ∈ kvs, ∃ l r, l ∈ f.ps ∧ r ∈ f.ps ∧ kv = ([Sum.inr l, Sum.inr r], V.bl (f.f l r))
def Holds1 (H : Hp) (a : Addr) : GO → Prop
  | .ho o => H a = some o
  | .memo f => ∃ kvs, H a = some (.dT kvs) ∧ MemoOk f kvs
/-- the heap holds what is known -/
def Ext (G : Gh) (H : Hp) : Prop := ∀ a g, G a = some g → Holds1 H a g
theorem Holds1.some {H : Hp} {a : Addr} {g : GO} (h : Holds1 H a g) : ∃ o, H a = some o := by
  cases g with
  | ho o => exact ⟨o, h⟩
  | memo f => obtain ⟨kvs, h, _⟩ := h; exact ⟨_, h⟩

/-- a list that is read alone: known and locked, or an object of the module -/
def SqG (K : PySem.W.Frag) (G : Gh) (p : Addr) (vs : List V) : Prop :=
  (∃ o, G p = some (.ho (.frz o (.lst vs)))) ∨
    ∃ (o : Obj) (its : Array Value) (n : Nat), K.lookup p = some o ∧ o.cls = .type "list" ∧ o.dict = none ∧ o.data = .seq its n ∧ its.size ≤ sizeLine ∧ Vals vs its.toList
theorem SqG.sq {K : PySem.W.Frag} {G : Gh} {H : Hp} {p : Addr} {vs : List V} (e : Ext G H) (h : SqG K G p vs) : SqL K H p vs := by
  rcases h with ⟨o, h⟩ | h
  · exact .inl (.inr ⟨o, e p _ h⟩)
  · exact .inr h
theorem SqG.mono {K : PySem.W.Frag} {G G' : Gh} {p : Addr} {vs : List V} (k : ∀ a g, G a = some g → G' a = some g) (h : SqG K G p vs) : SqG K G' p vs := by
  rcases h with ⟨o, h⟩ | h
  · exact .inl ⟨o, k _ _ h⟩
  · exact .inr h

mutual
inductive Rep (K : PySem.W.Frag) (G : Gh) : D → V → Prop
  | non : Rep K G .non .non
  | bl {b : Bool} : Rep K G (.bl b) (.bl b)
  | int {i : Int} : Rep K G (.int i) (.int i)
  | str {x : Str} : Rep K G (.str x) (.str x)
  | ty {n : String} : Rep K G (.ty n) (.ty n)
  | ref {a : Addr} : Rep K G (.ref a) (.ref a)
  | lst {xs : List D} {p : Addr} {vs : List V} : G p = some (.ho (.lst vs)) → Reps K G xs vs → Rep K G (.lst xs) (.ref p)
  | tup {xs : List D} {p : Addr} {vs : List V} : G p = some (.ho (.tup vs)) → Reps K G xs vs → Rep K G (.tup xs) (.ref p)
  | dK {xs : List (Key × D)} {p : Addr} {vs : List (Key × V)} : G p = some (.ho (.dK vs)) → RepK K G xs vs → Rep K G (.dK xs) (.ref p)
  | dT {xs : List (List Key × D)} {p : Addr} {vs : List (List Key × V)} : G p = some (.ho (.dT vs)) → RepT K G xs vs → Rep K G (.dT xs) (.ref p)
  | ins {C : Addr} {fs : List (Str × D)} {p dx : Addr} {vs : List (Str × V)} : G p = some (.ho (.ins C dx vs)) → RepF K G fs vs → Rep K G (.ins C fs) (.ref p)
  | memo {f : MemoF} {p : Addr} : G p = some (.memo f) → Rep K G (.memo f) (.ref p)
  | dN {w : World} {fz : Bool} {xs : List (List Leaf × D)} {p : Addr} {o : HO} {qs : List (List Leaf × Addr × V)} : G p = some (.ho o) → dnR w p qs fz o → RepN K G xs qs → Rep K G (.dN w fz xs) (.ref p)
  | scr {ns : List Int} {p : Addr} : SqG K G p (ns.map V.int) → Rep K G (.scr ns) (.ref p)
  | exn {a dd : Addr} {fs : List (Str × D)} {vs : List (Str × V)} : G dd = some (.ho (.xd vs)) → RepF K G fs vs → Rep K G (.exn a dd fs) (.ref a)
  | adr {a : Addr} {d : D} : Rep K G d (.ref a) → Rep K G (.adr a d) (.ref a)
inductive Reps (K : PySem.W.Frag) (G : Gh) : List D → List V → Prop
  | nil : Reps K G [] []
  | cons {x : D} {v : V} {xs : List D} {vs : List V} : Rep K G x v → Reps K G xs vs → Reps K G (x :: xs) (v :: vs)
inductive RepK (K : PySem.W.Frag) (G : Gh) : List (Key × D) → List (Key × V) → Prop
  | nil : RepK K G [] []
  | cons {k : Key} {x : D} {v : V} {xs : List (Key × D)} {vs : List (Key × V)} : Rep K G x v → RepK K G xs vs → RepK K G ((k, x) :: xs) ((k, v) :: vs)
inductive RepT (K : PySem.W.Frag) (G : Gh) : List (List Key × D) → List (List Key × V) → Prop
  | nil : RepT K G [] []
  | cons {k : List Key} {x : D} {v : V} {xs : List (List Key × D)} {vs : List (List Key × V)} : Rep K G x v → RepT K G xs vs → RepT K G ((k, x) :: xs) ((k, v) :: vs)
inductive RepN (K : PySem.W.Frag) (G : Gh) : List (List Leaf × D) → List (List Leaf × Addr × V) → Prop
  | nil : RepN K G [] []
  | cons {k : List Leaf} {x : D} {b : Addr} {v : V} {xs : List (List Leaf × D)} {qs : List (List Leaf × Addr × V)} : G b = some (.ho (.tup (k.map lfV))) → Rep K G x v → RepN K G xs qs → RepN K G ((k, x) :: xs) ((k, b, v) :: qs)
inductive RepF (K : PySem.W.Frag) (G : Gh) : List (Str × D) → List (Str × V) → Prop
  | nil : RepF K G [] []
  | cons {k : Str} {x : D} {v : V} {xs : List (Str × D)} {vs : List (Str × V)} : Rep K G x v → RepF K G xs vs → RepF K G ((k, x) :: xs) ((k, v) :: vs)
end

def Le (G G' : Gh) : Prop := ∀ a g, G a = some g → G' a = some g
theorem Le.refl (G : Gh) : Le G G := fun _ _ h => h
theorem Le.trans {A B C : Gh} (h : Le A B) (h' : Le B C) : Le A C := fun a g e => h' a g (h a g e)
theorem Le.gupd {G : Gh} {a : Addr} {g : GO} (h : G a = none) : Le G (gupd G a g) := fun b u e => by
  by_cases hb : b = a
  · subst hb; rw [h] at e; cases e
  · rw [gupd_ne hb]; exact e

mutual
theorem Rep.mono {K : PySem.W.Frag} {G G' : Gh} (k : Le G G') : ∀ {d : D} {v : V}, Rep K G d v → Rep K G' d v
  | _, _, .non => .non
  | _, _, .bl => .bl
  | _, _, .int => .int
  | _, _, .str => .str
  | _, _, .ty => .ty
  | _, _, .ref => .ref
  | _, _, .lst h r => .lst (k _ _ h) (Reps.mono k r)
  | _, _, .tup h r => .tup (k _ _ h) (Reps.mono k r)
  | _, _, .dK h r => .dK (k _ _ h) (RepK.mono k r)
  | _, _, .dT h r => .dT (k _ _ h) (RepT.mono k r)
  | _, _, .ins h r => .ins (k _ _ h) (RepF.mono k r)
  | _, _, .memo h => .memo (k _ _ h)
  | _, _, .dN h e r => .dN (k _ _ h) e (RepN.mono k r)
  | _, _, .scr h => .scr (h.mono k)
  | _, _, .exn h r => .exn (k _ _ h) (RepF.mono k r)
  | _, _, .adr h => .adr (Rep.mono k h)
theorem Reps.mono {K : PySem.W.Frag} {G G' : Gh} (k : Le G G') : ∀ {d : List D} {v : List V}, Reps K G d v → Reps K G' d v
  | _, _, .nil => .nil
  | _, _, .cons h r => .cons (Rep.mono k h) (Reps.mono k r)
theorem RepK.mono {K : PySem.W.Frag} {G G' : Gh} (k : Le G G') : ∀ {d : List (Key × D)} {v : List (Key × V)}, RepK K G d v → RepK K G' d v
  | _, _, .nil => .nil
  | _, _, .cons h r => .cons (Rep.mono k h) (RepK.mono k r)
theorem RepT.mono {K : PySem.W.Frag} {G G' : Gh} (k : Le G G') : ∀ {d : List (List Key × D)} {v : List (List Key × V)}, RepT K G d v → RepT K G' d v
  | _, _, .nil => .nil
  | _, _, .cons h r => .cons (Rep.mono k h) (RepT.mono k r)
theorem RepN.mono {K : PySem.W.Frag} {G G' : Gh} (k : Le G G') : ∀ {d : List (List Leaf × D)} {v : List (List Leaf × Addr × V)}, RepN K G d v → RepN K G' d v
  | _, _, .nil => .nil
  | _, _, .cons h h2 r => .cons (k _ _ h) (Rep.mono k h2) (RepN.mono k r)
theorem RepF.mono {K : PySem.W.Frag} {G G' : Gh} (k : Le G G') : ∀ {d : List (Str × D)} {v : List (Str × V)}, RepF K G d v → RepF K G' d v
  | _, _, .nil => .nil
  | _, _, .cons h r => .cons (Rep.mono k h) (RepF.mono k r)
end

/-- from (G, H) to (G', H'): what is known stays known; what is tracked and not known stays as it was, but for what B lends; news lie at free addresses -/
structure Step (B : Addr → Prop) (G : Gh) (H : Hp) (G' : Gh) (H' : Hp) : Prop where
  le : Le G G'
  kept : ∀ a o, H a = some o → G a = none → ¬ B a → H' a = some o
  new : ∀ a g, G' a = some g → G a = none → H a = none
  ext : Ext G' H'
  live : ∀ a o, H a = some o → ∃ o', H' a = some o'
abbrev Step0 := Step fun _ => False
theorem Step.refl {B : Addr → Prop} {G : Gh} {H : Hp} (e : Ext G H) : Step B G H G H :=
  ⟨Le.refl G, fun _ _ h _ _ => h, fun a g h n => (by rw [n] at h; cases h), e, fun _ o h => ⟨o, h⟩⟩
theorem Step.trans {B : Addr → Prop} {G G1 G2 : Gh} {H H1 H2 : Hp} (a : Step B G H G1 H1) (b : Step B G1 H1 G2 H2) : Step B G H G2 H2 where
  le := a.le.trans b.le
  kept := fun x o h n nb => b.kept x o (a.kept x o h n nb) (by
    cases q : G1 x with
    | none => rfl
    | some g => have := a.new x g q n; rw [h] at this; cases this) nb
  new := fun x g h n => by
    cases q : G1 x with
    | some g' => exact a.new x g' q n
    | none =>
      have h1 := b.new x g h q
      cases r : H x with
      | none => rfl
      | some o => obtain ⟨o', z⟩ := a.live x o r; rw [h1] at z; cases z
  ext := b.ext
  live := fun x o h => by
    obtain ⟨o1, h1⟩ := a.live x o h
    exact b.live x o1 h1
theorem Step.weak {B B' : Addr → Prop} {G G1 : Gh} {H H1 : Hp} (h : ∀ a, B a → B' a) (a : Step B G H G1 H1) : Step B' G H G1 H1 :=
  ⟨a.le, fun x o e n nb => a.kept x o e n fun z => nb (h x z), a.new, a.ext, a.live⟩
theorem Step.of0 {B : Addr → Prop} {G G1 : Gh} {H H1 : Hp} (a : Step0 G H G1 H1) : Step B G H G1 H1 := a.weak fun _ z => z.elim
theorem Step.free {B : Addr → Prop} {G G1 : Gh} {H H1 : Hp} (a : Step B G H G1 H1) {x : Addr} (h : H1 x = none) : H x = none := by
  cases r : H x with
  | none => rfl
  | some o => obtain ⟨o', z⟩ := a.live x o r; rw [h] at z; cases z
theorem Step.gfree {B : Addr → Prop} {G G1 : Gh} {H H1 : Hp} (a : Step B G H G1 H1) {x : Addr} {o : HO} (h : H x = some o) (n : G x = none) : G1 x = none := by
  cases q : G1 x with
  | none => rfl
  | some g => have := a.new x g q n; rw [h] at this; cases this
theorem Ext.gfree {G : Gh} {H : Hp} (e : Ext G H) {x : Addr} (h : H x = none) : G x = none := by
  cases q : G x with
  | none => rfl
  | some g => obtain ⟨o, z⟩ := (e x g q).some; rw [h] at z; cases z
/-- a new object at a free address, not known -/
theorem Step.alloc {G : Gh} {H : Hp} {p : Addr} {o : HO} (e : Ext G H) (h : H p = none) : Step0 G H G (upd H p o) where
  le := Le.refl G
  kept := fun a u q _ _ => by rw [upd_ne (ne_of_none q h)]; exact q
  new := fun a g q n => by rw [n] at q; cases q
  ext := fun a g q => by
    have z := e a g q
    obtain ⟨u, hu⟩ := z.some
    have ne : a ≠ p := ne_of_none hu h
    cases g with
    | ho v => show upd H p o a = some v; rw [upd_ne ne]; exact z
    | memo f => obtain ⟨kvs, z1, z2⟩ := z; exact ⟨kvs, by rw [upd_ne ne]; exact z1, z2⟩
  live := fun a u q => ⟨u, by rw [upd_ne (ne_of_none q h)]; exact q⟩
/-- an object that is there, not known as yet, free at H, becomes known -/
theorem Step.know {B : Addr → Prop} {G G1 : Gh} {H H1 : Hp} {p : Addr} {o : HO} (s : Step B G H G1 H1) (hn : H p = none) (h : H1 p = some o) (n : G1 p = none) : Step B G H (gupd G1 p (.ho o)) H1 where
  le := s.le.trans (Le.gupd n)
  kept := s.kept
  new := fun a g q m => by
    by_cases z : a = p
    · rw [z]; exact hn
    · rw [gupd_ne z] at q; exact s.new a g q m
  ext := fun a g q => by
    by_cases z : a = p
    · subst z; rw [gupd_same] at q; cases q; exact h
    · rw [gupd_ne z] at q; exact s.ext a g q
  live := s.live
/-- an own object is changed -/
theorem Ext.upd {G : Gh} {H : Hp} {p : Addr} {o : HO} (e : Ext G H) (n : G p = none) : Ext G (upd H p o) := fun a g q => by
  have ne : a ≠ p := fun z => by rw [z, n] at q; cases q
  have z := e a g q
  cases g with
  | ho v => show L2.upd H p o a = some v; rw [upd_ne ne]; exact z
  | memo f => obtain ⟨kvs, z1, z2⟩ := z; exact ⟨kvs, by rw [upd_ne ne]; exact z1, z2⟩
theorem Step.write {B : Addr → Prop} {G G1 : Gh} {H H1 : Hp} {p : Addr} {o : HO} (s : Step B G H G1 H1) (hp : H p = none ∨ B p) (n : G1 p = none) : Step B G H G1 (upd H1 p o) where
  le := s.le
  kept := fun a u q m nb => by
    have ne : a ≠ p := fun z => by
      rcases hp with hp | hp
      · rw [z, hp] at q; cases q
      · exact nb (z ▸ hp)
    rw [upd_ne ne]; exact s.kept a u q m nb
  new := s.new
  ext := s.ext.upd n
  live := fun a u q => by
    by_cases z : a = p
    · exact ⟨o, by rw [z, upd_same]⟩
    · rw [upd_ne z]; exact s.live a u q

/-- an own thing: its one object may be changed; what it holds is known -/
inductive OwnAt (K : PySem.W.Frag) (G : Gh) (H : Hp) : Addr → D → Prop
  | lst {p : Addr} {xs : List D} {vs : List V} : H p = some (.lst vs) → Reps K G xs vs → OwnAt K G H p (.lst xs)
  | dK {p : Addr} {xs : List (Key × D)} {vs : List (Key × V)} : H p = some (.dK vs) → RepK K G xs vs → OwnAt K G H p (.dK xs)
  | dT {p : Addr} {xs : List (List Key × D)} {vs : List (List Key × V)} : H p = some (.dT vs) → RepT K G xs vs → OwnAt K G H p (.dT xs)
  | ins {p dx C : Addr} {fs : List (Str × D)} {vs : List (Str × V)} : H p = some (.ins C dx vs) → RepF K G fs vs → OwnAt K G H p (.ins C fs)
  | dN {w : World} {p : Addr} {xs : List (List Leaf × D)} {qs : List (List Leaf × Addr × V)} : H p = some (dnO w p qs) → RepN K G xs qs → OwnAt K G H p (.dN w false xs)
  | adr {p : Addr} {d : D} : OwnAt K G H p d → OwnAt K G H p (.adr p d)
theorem OwnAt.there {K : PySem.W.Frag} {G : Gh} {H : Hp} : ∀ {p : Addr} {d : D}, OwnAt K G H p d → ∃ o, H p = some o
  | _, _, .lst h _ => ⟨_, h⟩
  | _, _, .dK h _ => ⟨_, h⟩
  | _, _, .dT h _ => ⟨_, h⟩
  | _, _, .ins h _ => ⟨_, h⟩
  | _, _, .dN h _ => ⟨_, h⟩
  | _, _, .adr h => OwnAt.there h
theorem OwnAt.mono {K : PySem.W.Frag} {G G' : Gh} {H H' : Hp} (k : Le G G') : ∀ {p : Addr} {d : D}, OwnAt K G H p d → (∀ o, H p = some o → H' p = some o) → OwnAt K G' H' p d
  | _, _, .lst h r, e => .lst (e _ h) (r.mono k)
  | _, _, .dK h r, e => .dK (e _ h) (r.mono k)
  | _, _, .dT h r, e => .dT (e _ h) (r.mono k)
  | _, _, .ins h r, e => .ins (e _ h) (r.mono k)
  | _, _, .dN h r, e => .dN (e _ h) (r.mono k)
  | _, _, .adr h, e => .adr (OwnAt.mono k h e)
/-- what is owned becomes known -/
theorem OwnAt.rep {K : PySem.W.Frag} {G G' : Gh} {H : Hp} (k : Le G G') : ∀ {p : Addr} {d : D}, OwnAt K G H p d → G' p = (H p).map GO.ho → Rep K G' d (.ref p)
  | _, _, .lst h r, e => .lst (by rw [e, h]; rfl) (r.mono k)
  | _, _, .dK h r, e => .dK (by rw [e, h]; rfl) (r.mono k)
  | _, _, .dT h r, e => .dT (by rw [e, h]; rfl) (r.mono k)
  | _, _, .ins h r, e => .ins (by rw [e, h]; rfl) (r.mono k)
  | _, _, .dN h r, e => .dN (by rw [e, h]; rfl) rfl (r.mono k)
  | _, _, .adr h, e => .adr (OwnAt.rep k h e)
theorem OwnAt.know {K : PySem.W.Frag} {G : Gh} {H : Hp} {p : Addr} {d : D} (h : OwnAt K G H p d) (n : G p = none) : ∃ o, H p = some o ∧ Rep K (gupd G p (.ho o)) d (.ref p) := by
  obtain ⟨o, ho⟩ := h.there
  exact ⟨o, ho, h.rep (Le.gupd n) (by rw [gupd_same, ho]; rfl)⟩
theorem OwnAt.notx {K : PySem.W.Frag} {G : Gh} {H : Hp} {fvs : List (Str × V)} : ∀ {p : Addr} {d : D}, OwnAt K G H p d → H p = some (.xd fvs) → False
  | _, _, .lst h _, e => by rw [h] at e; cases e
  | _, _, .dK h _, e => by rw [h] at e; cases e
  | _, _, .dT h _, e => by rw [h] at e; cases e
  | _, _, .ins h _, e => by rw [h] at e; cases e
  | _, _, .dN h _, e => by rw [h] at e; unfold dnO at e; cases e
  | _, _, .adr h, e => OwnAt.notx h e

/-- a result: known (false) or new and owned (true), from the heap H on -/
def RepO (K : PySem.W.Frag) (H : Hp) (G' : Gh) (H' : Hp) : Bool → D → V → Prop
  | false, d, v => Rep K G' d v
  | true, d, v => ∃ p, v = .ref p ∧ H p = none ∧ G' p = none ∧ OwnAt K G' H' p d
/-- a result is known from now on -/
theorem RepO.known {K : PySem.W.Frag} {B : Addr → Prop} {G G1 : Gh} {H H1 : Hp} {o : Bool} {d : D} {v : V} (s : Step B G H G1 H1) (r : RepO K H G1 H1 o d v) : ∃ G2, Step B G H G2 H1 ∧ Rep K G2 d v ∧ Le G1 G2 := by
  cases o with
  | false => exact ⟨G1, s, r, Le.refl _⟩
  | true =>
    obtain ⟨p, rfl, hn, n, w⟩ := r
    obtain ⟨u, hu, rep⟩ := w.know n
    exact ⟨_, s.know hn hu n, rep, Le.gupd n⟩

/-- the slots: empty, known data (false), own data (true) -/
abbrev En := List (Option (Bool × D))
/-- the slots' values are as Γ tells -/
structure Loc (K : PySem.W.Frag) (G : Gh) (H : Hp) (σ : St) (Γ : En) : Prop where
  len : σ.length = Γ.length
  ext : Ext G H
  val : ∀ (i : Nat) (d : D), Γ[i]? = some (some (false, d)) → ∃ v, σ[i]? = some (some v) ∧ Rep K G d v
  own : ∀ (i : Nat) (d : D), Γ[i]? = some (some (true, d)) → ∃ p, σ[i]? = some (some (.ref p)) ∧ G p = none ∧ OwnAt K G H p d
  dis : ∀ (i j : Nat) (d e : D) (p : Addr), i ≠ j → Γ[i]? = some (some (true, d)) → Γ[j]? = some (some (true, e)) → σ[i]? = some (some (.ref p)) → σ[j]? = some (some (.ref p)) → False
theorem Loc.go {K : PySem.W.Frag} {G G' : Gh} {H H' : Hp} {σ : St} {Γ : En} (E : Loc K G H σ Γ) (s : Step0 G H G' H') : Loc K G' H' σ Γ where
  len := E.len
  ext := s.ext
  val := fun i d h => by
    obtain ⟨v, h1, h2⟩ := E.val i d h
    exact ⟨v, h1, h2.mono s.le⟩
  own := fun i d h => by
    obtain ⟨p, h1, h2, h4⟩ := E.own i d h
    obtain ⟨o, ho⟩ := h4.there
    exact ⟨p, h1, s.gfree ho h2, h4.mono s.le fun u hu => s.kept p u hu h2 id⟩
  dis := E.dis
/-- the frame of a body: what is lent to it, what was known and tracked at its entry -/
structure Fm where
  B : Addr → Prop
  G0 : Gh
  H0 : Hp
structure EnvOk (K : PySem.W.Frag) (F : Fm) (G : Gh) (H : Hp) (σ : St) (Γ : En) : Prop where
  loc : Loc K G H σ Γ
  step : Step F.B F.G0 F.H0 G H
  lent : ∀ (i : Nat) (d : D) (p : Addr), Γ[i]? = some (some (true, d)) → σ[i]? = some (some (.ref p)) → F.H0 p = none ∨ F.B p
theorem EnvOk.go {K : PySem.W.Frag} {F : Fm} {G G' : Gh} {H H' : Hp} {σ : St} {Γ : En} (E : EnvOk K F G H σ Γ) (s : Step0 G H G' H') : EnvOk K F G' H' σ Γ :=
  ⟨E.loc.go s, E.step.trans s.of0, E.lent⟩

/-- data told by the value alone -/
def flat : D → Bool
  | .non => true | .bl _ => true | .int _ => true | .str _ => true | .ty _ => true | .ref _ => true
  | _ => false
/-- an exception: its class, its fields -/
structure Exn where
  cls : Addr
  fs : List (Str × D)
/-- it lies in the heap: its own dict holds the fields; or it has no dict and no fields -/
def ExcAt (K : PySem.W.Frag) (H0 : Hp) (G : Gh) (H : Hp) (x : Exn) (c : Value) (d : Option Addr) : Prop :=
  c = .ref x.cls ∧ ((d = none ∧ x.fs = []) ∨ ∃ dd fvs, d = some dd ∧ H dd = some (.xd fvs) ∧ G dd = none ∧ H0 dd = none ∧ RepF K G x.fs fvs ∧ x.fs.all (fun p => flat p.2) = true)
theorem ExcAt.older {K : PySem.W.Frag} {B : Addr → Prop} {G0 G1 G : Gh} {H0 H1 H : Hp} {x : Exn} {c : Value} {d : Option Addr} (s : Step B G0 H0 G1 H1) (h : ExcAt K H1 G H x c d) : ExcAt K H0 G H x c d := by
  obtain ⟨h1, h2⟩ := h
  refine ⟨h1, ?_⟩
  rcases h2 with h2 | ⟨dd, fvs, a1, a2, a3, a4, a5⟩
  · exact .inl h2
  · exact .inr ⟨dd, fvs, a1, a2, a3, s.free a4, a5⟩
/-- the wish W serves the exceptions ex from here on -/
def ExAt (X : Cx) (ex : Exn → Prop) (W : WX) (σ : St) (G : Gh) (H : Hp) : Prop :=
  ∀ x c d G' H', ex x → Step0 G H G' H' → ExcAt X.K H G' H' x c d → W c d σ H'
theorem ExAt.go {X : Cx} {ex : Exn → Prop} {W : WX} {σ : St} {G G1 : Gh} {H H1 : Hp} (h : ExAt X ex W σ G H) (s : Step0 G H G1 H1) : ExAt X ex W σ G1 H1 :=
  fun x c d G' H' hx s' he => h x c d G' H' hx (s.trans s') (he.older s)
/-- the wish about exceptions, of statements -/
abbrev EX := Exn → En → Prop
def ExLk (X : Cx) (F : Fm) (G : Gh) (ex : EX) (W : WX) : Prop := ∀ x c d G' H σ Γ, ex x Γ → EnvOk X.K F G' H σ Γ → Le G G' → ExcAt X.K F.H0 G' H x c d → W c d σ H
theorem ExLk.at {X : Cx} {F : Fm} {ex : EX} {W : WX} {G0 : Gh} (h : ExLk X F G0 ex W) {G : Gh} {H : Hp} {σ : St} {Γ : En} (E : EnvOk X.K F G H σ Γ) (le : Le G0 G := by exact Le.refl _) : ExAt X (fun x => ex x Γ) W σ G H :=
  fun x c d G' H' hx s he => h x c d G' H' σ Γ hx (E.go s) (le.trans s.le) (he.older E.step)

/-- expressions on the machine itself, as a reading -/
def tW (X : Cx) (e : Expr) : TE := fun σ H Q => ∀ pins s, Inv X pins σ H s → wpAny (model X.prog X.w) X.A (eval e X.env) (EP X pins σ Q) X.xe s
theorem pe_W {X : Cx} {e : Expr} : PE X e (tW X e) := ⟨fun pins s _ _ _ I h => h pins s I⟩
def tWt (X : Cx) (e : Expr) : TT := fun σ H Q => ∀ pins s, Inv X pins σ H s → wpAny (model X.prog X.w) X.A (isTrue e X.env (eval e X.env)) (TP X pins σ Q) X.xe s
theorem pt_W {X : Cx} {e : Expr} : PT X e (tWt X e) := ⟨fun pins s _ _ _ I h => h pins s I⟩
def tWa (X : Cx) (es : List Expr) : TA := fun σ H Q => ∀ pos pins s, Inv X pins σ H s → wpAny (model X.prog X.w) X.A (spliced (backTo pos (starEach es X.env))) (AP X pins σ Q) X.xe s
theorem pa_W {X : Cx} {es : List Expr} : PA X es (tWa X es) := ⟨fun pos pins s _ _ _ I h => h pos pins s I⟩
def tWs (X : Cx) (st : List Stmt) : TS := fun D σ H => ∀ pins s, Inv X pins σ H s → wpAny (model X.prog X.w) X.A (execs st X.env) (SP X pins D) X.xe s
theorem pss_W {X : Cx} {st : List Stmt} : PSs X st (tWs X st) := ⟨fun pins s _ _ _ I h => h pins s I⟩
def tW1 (X : Cx) (st : Stmt) : TS := fun D σ H => ∀ pins s, Inv X pins σ H s → wpAny (model X.prog X.w) X.A (exec st X.env) (SP X pins D) X.xe s
theorem ps_W {X : Cx} {st : Stmt} : PS X st (tW1 X st) := ⟨fun pins s _ _ _ I h => h pins s I⟩
theorem tW_of {X : Cx} {e : Expr} {t : TE} (h : PE X e t) {σ : St} {H : Hp} {Q : VK} (q : t σ H Q) : tW X e σ H Q := fun pins s I => h.run pins s σ H Q I q
theorem tWt_of {X : Cx} {e : Expr} {t : TT} (h : PT X e t) {σ : St} {H : Hp} {Q : Bool → Hp → Prop} (q : t σ H Q) : tWt X e σ H Q := fun pins s I => h.run pins s σ H Q I q
theorem tWa_of {X : Cx} {e : List Expr} {t : TA} (h : PA X e t) {σ : St} {H : Hp} {Q : List V → Hp → Prop} (q : t σ H Q) : tWa X e σ H Q := fun pos pins s I => h.run pos pins s σ H Q I q
theorem tWs_of {X : Cx} {e : List Stmt} {t : TS} (h : PSs X e t) {σ : St} {H : Hp} {Q : Ends} (q : t Q σ H) : tWs X e Q σ H := fun pins s I => h.run pins s σ H Q I q
theorem tW1_of {X : Cx} {e : Stmt} {t : TS} (h : PS X e t) {σ : St} {H : Hp} {Q : Ends} (q : t Q σ H) : tW1 X e Q σ H := fun pins s I => h.run pins s σ H Q I q

def tWg (X : Cx) (tg : Expr) : TG := fun v σ H Q => ∀ pins s u, Inv X pins σ H s → RelV v u → wpAny (model X.prog X.w) X.A (assign tg X.env u) (fun _ s' => ∃ σ' H', Inv X pins σ' H' s' ∧ Q σ' H') X.xe s
theorem pg_W {X : Cx} {tg : Expr} : PG X tg (tWg X tg) := ⟨fun pins s σ H v u Q I r h => h pins s u I r⟩
theorem tWg_of {X : Cx} {tg : Expr} {t : TG} (h : PG X tg t) {v : V} {σ : St} {H : Hp} {Q : St → Hp → Prop} (q : t v σ H Q) : tWg X tg v σ H Q := fun pins s u I r => h.run pins s σ H v u Q I r q

/-- exceptions of calls are served; all, where the frame is the context's own -/
structure Tk (X : Cx) (W : WX) : Prop where
  call : ∀ σ, PassesAt (L2.CX X.prog X.w) X σ (WE W σ)
  held : X.env.frame = some X.env.locals → Takes X W
theorem Tk.of {X : Cx} {W : WX} (h : Takes X W) : Tk X W := ⟨passAt h, fun _ => h⟩

/-! ### the judgements -/
/-- e gives, at the slots Γ, data of which R holds (true: new and owned) -/
def ED (X : Cx) (ex : Exn → Prop) (e : Expr) (Γ : En) (R : Bool → D → Prop) : Prop :=
  ∀ σ G H, Loc X.K G H σ Γ → ∀ W, Tk X W → ExAt X ex W σ G H → ∀ Q : VK, (∀ o d v G' H', R o d → Step0 G H G' H' → RepO X.K H G' H' o d v → Q v H') → tW X e σ H Q
def ET (X : Cx) (ex : Exn → Prop) (e : Expr) (Γ : En) (R : Bool → Prop) : Prop :=
  ∀ σ G H, Loc X.K G H σ Γ → ∀ W, Tk X W → ExAt X ex W σ G H → ∀ Q : Bool → Hp → Prop, (∀ b G' H', R b → Step0 G H G' H' → Q b H') → tWt X e σ H Q
def EA (X : Cx) (ex : Exn → Prop) (es : List Expr) (Γ : En) (R : List D → Prop) : Prop :=
  ∀ σ G H, Loc X.K G H σ Γ → ∀ W, Tk X W → ExAt X ex W σ G H → ∀ Q : List V → Hp → Prop, (∀ ds vs G' H', R ds → Step0 G H G' H' → Reps X.K G' ds vs → Q vs H') → tWa X es σ H Q
/-- the target takes the data d -/
def TD (X : Cx) (tg : Expr) (d : D) (Γ : En) (R : En → Prop) : Prop :=
  ∀ F σ G H, EnvOk X.K F G H σ Γ → ∀ v, Rep X.K G d v → ∀ Q : St → Hp → Prop, (∀ Γ' σ' G' H', R Γ' → EnvOk X.K F G' H' σ' Γ' → Step0 G H G' H' → Q σ' H') → tWg X tg v σ H Q
/-- what is walked gives the data ds, one after another -/
structure SeqOk (K : PySem.W.Frag) (G1 : Gh) (J : It) (ds : List D) : Prop where
  go : ∀ i H, i < ds.length → Ext G1 H → J.go i H
  stop : ∀ H, Ext G1 H → J.stop ds.length H
  give : ∀ i G H x H', i < ds.length → Le G1 G → Ext G H → J.yld i H x H' → ∃ G' d, Step0 G H G' H' ∧ ds[i]? = some d ∧ Rep K G' d x
def EI (X : Cx) (ex : Exn → Prop) (tg it : Expr) (Γ : En) (R : List D → Prop) : Prop :=
  ∃ wi, PI X tg it wi ∧ ∀ σ G H, Loc X.K G H σ Γ → ∀ W, Tk X W → ExAt X ex W σ G H → ∀ Q : It → Hp → Prop, (∀ J ds G' H', R ds → Step0 G H G' H' → SeqOk X.K G' J ds → Q J H') → wi σ H Q
/-- what is wanted behind statements -/
structure Po where
  nx : En → Prop
  rt : Bool → D → En → Prop
  bk : En → Prop := fun _ => False
  ct : En → Prop := fun _ => False
  /-- what is lent to the body -/
  lb : List Addr := []
structure PoLk (K : PySem.W.Frag) (F : Fm) (G : Gh) (P : Po) (Dn : Ends) : Prop where
  nx : ∀ G' H σ Γ, P.nx Γ → EnvOk K F G' H σ Γ → Le G G' → Dn.nx σ H
  rt : ∀ o d v G' H σ Γ, P.rt o d Γ → EnvOk K F G' H σ Γ → RepO K F.H0 G' H o d v → Le G G' → Dn.rt v H
  bk : ∀ G' H σ Γ, P.bk Γ → EnvOk K F G' H σ Γ → Le G G' → Dn.bk σ H
  ct : ∀ G' H σ Γ, P.ct Γ → EnvOk K F G' H σ Γ → Le G G' → Dn.ct σ H
  nb : ∀ a, F.B a → a ∈ P.lb
/-- the context and the wish of a body of statements -/
structure XOk (X : Cx) (F : Fm) (G : Gh) (ex : EX) (W : WX) : Prop where
  tk : Takes X W
  po : PassesOwn (model X.prog X.w) X.A X.env X.xe
  lk : ExLk X F G ex W
theorem XOk.te {X : Cx} {F : Fm} {G : Gh} {ex : EX} {W : WX} (x : XOk X F G ex W) : Tk X W := .of x.tk
theorem XOk.go {X : Cx} {F : Fm} {G G1 : Gh} {ex : EX} {W : WX} (x : XOk X F G ex W) (le : Le G G1) : XOk X F G1 ex W :=
  ⟨x.tk, x.po, fun y c d G' H σ Γ a b l e => x.lk y c d G' H σ Γ a b (le.trans l) e⟩
def WD (X : Cx) (ex : EX) (st : List Stmt) (Γ : En) (P : Po) : Prop :=
  ∀ F σ G H, EnvOk X.K F G H σ Γ → ∀ W, XOk X F G ex W → ∀ Dn, PoLk X.K F G P Dn → tWs X st Dn σ H
def W1 (X : Cx) (ex : EX) (st : Stmt) (Γ : En) (P : Po) : Prop :=
  ∀ F σ G H, EnvOk X.K F G H σ Γ → ∀ W, XOk X F G ex W → ∀ Dn, PoLk X.K F G P Dn → tW1 X st Dn σ H
theorem PoLk.go {K : PySem.W.Frag} {F : Fm} {G G1 : Gh} {P : Po} {Dn : Ends} (lk : PoLk K F G P Dn) (le : Le G G1) : PoLk K F G1 P Dn :=
  ⟨fun G' H σ Γ h E l => lk.nx G' H σ Γ h E (le.trans l), fun o d v G' H σ Γ h E r l => lk.rt o d v G' H σ Γ h E r (le.trans l), fun G' H σ Γ h E l => lk.bk G' H σ Γ h E (le.trans l), fun G' H σ Γ h E l => lk.ct G' H σ Γ h E (le.trans l), lk.nb⟩
end DL

/-! DL1: the rules of the data logic: names, constants, operators, subscripts, statements, loops. -/
namespace DL
open PySem L2

/-! ### lists of data -/
section
variable {K : PySem.W.Frag} {G : Gh}
theorem Reps.length : ∀ {xs : List D} {vs : List V}, Reps K G xs vs → xs.length = vs.length
  | _, _, .nil => rfl
  | _, _, .cons _ t => congrArg (· + 1) (Reps.length t)
theorem Reps.get : ∀ {xs : List D} {vs : List V} {i : Nat} {d : D}, Reps K G xs vs → xs[i]? = some d → ∃ v, vs[i]? = some v ∧ Rep K G d v
  | _, _, _, _, .nil, e => by simp at e
  | _, _, 0, _, .cons r _, e => by simp at e; subst e; exact ⟨_, rfl, r⟩
  | _, _, i + 1, d, .cons r t, e => by
    obtain ⟨u, h1, h2⟩ := Reps.get (i := i) (d := d) t (by simpa using e)
    exact ⟨u, by simpa using h1, h2⟩
theorem Reps.getv {xs : List D} {vs : List V} {i : Nat} {v : V} (h : Reps K G xs vs) (e : vs[i]? = some v) : ∃ d, xs[i]? = some d ∧ Rep K G d v := by
  have hl := h.length
  have hi : i < xs.length := by rw [hl]; exact (List.getElem?_eq_some_iff.mp e).1
  obtain ⟨d, hd⟩ : ∃ d, xs[i]? = some d := ⟨xs[i], by simp [hi]⟩
  obtain ⟨u, h1, h2⟩ := h.get hd
  rw [e] at h1; cases h1
  exact ⟨d, hd, h2⟩
theorem Reps.append : ∀ {xs ys : List D} {vs ws : List V}, Reps K G xs vs → Reps K G ys ws → Reps K G (xs ++ ys) (vs ++ ws)
  | _, _, _, _, .nil, s => s
  | _, _, _, _, .cons r t, s => .cons r (Reps.append t s)
theorem Reps.take : ∀ {xs : List D} {vs : List V} (n : Nat), Reps K G xs vs → Reps K G (xs.take n) (vs.take n)
  | _, _, 0, _ => .nil
  | _, _, _ + 1, .nil => .nil
  | _, _, n + 1, .cons r t => .cons r (Reps.take n t)
theorem Reps.drop : ∀ {xs : List D} {vs : List V} (n : Nat), Reps K G xs vs → Reps K G (xs.drop n) (vs.drop n)
  | _, _, 0, r => r
  | _, _, _ + 1, .nil => .nil
  | _, _, n + 1, .cons _ t => Reps.drop n t
theorem Reps.set {d : D} {v : V} (r : Rep K G d v) : ∀ {xs : List D} {vs : List V} (i : Nat), Reps K G xs vs → Reps K G (xs.set i d) (vs.set i v)
  | _, _, _, .nil => .nil
  | _, _, 0, .cons _ t => .cons r t
  | _, _, i + 1, .cons q t => .cons q (Reps.set r i t)
theorem Reps.reverse : ∀ {xs : List D} {vs : List V}, Reps K G xs vs → Reps K G xs.reverse vs.reverse
  | _, _, .nil => .nil
  | _, _, .cons r t => by rw [List.reverse_cons, List.reverse_cons]; exact (Reps.reverse t).append (.cons r .nil)
theorem Reps.dropLast {xs : List D} {vs : List V} (h : Reps K G xs vs) : Reps K G xs.dropLast vs.dropLast := by
  rw [List.dropLast_eq_take, List.dropLast_eq_take, h.length]; exact h.take _
theorem Reps.ints : ∀ {ns : List Int} {vs : List V}, Reps K G (ns.map D.int) vs → vs = ns.map V.int
  | [], _, .nil => rfl
  | n :: ns, _, .cons r t => by cases r; rw [Reps.ints t]; rfl
theorem Reps.ofInts : ∀ (ns : List Int), Reps K G (ns.map D.int) (ns.map V.int)
  | [] => .nil
  | n :: ns => .cons .int (Reps.ofInts ns)
theorem Reps.strs : ∀ {ns : List Str} {vs : List V}, Reps K G (ns.map D.str) vs → vs = ns.map V.str
  | [], _, .nil => rfl
  | n :: ns, _, .cons r t => by cases r; rw [Reps.strs t]; rfl
theorem Reps.ofStrs : ∀ (ns : List Str), Reps K G (ns.map D.str) (ns.map V.str)
  | [] => .nil
  | n :: ns => .cons .str (Reps.ofStrs ns)
theorem Reps.bls : ∀ {ns : List Bool} {vs : List V}, Reps K G (ns.map D.bl) vs → vs = ns.map V.bl
  | [], _, .nil => rfl
  | n :: ns, _, .cons r t => by cases r; rw [Reps.bls t]; rfl
theorem Reps.atI {xs : List D} {vs : List V} {i : Int} {d : D} (h : Reps K G xs vs) (e : L2.atI xs i = some d) : ∃ v, L2.atI vs i = some v ∧ Rep K G d v := by
  unfold L2.atI at e ⊢
  rw [← h.length]
  cases q : ixN xs.length i with
  | none => rw [q] at e; cases e
  | some j => rw [q] at e; exact h.get e
end

/-! ### flat data: told by the value alone -/
theorem Rep.flat {K : PySem.W.Frag} {G G' : Gh} {d : D} {v : V} (h : Rep K G d v) (f : flat d = true) : Rep K G' d v := by
  cases h with
  | non => exact .non
  | bl => exact .bl
  | int => exact .int
  | str => exact .str
  | ty => exact .ty
  | ref => exact .ref
  | lst _ _ => cases f
  | tup _ _ => cases f
  | dK _ _ => cases f
  | dT _ _ => cases f
  | ins _ _ => cases f
  | memo _ => cases f
  | dN _ _ _ => cases f
  | scr _ => cases f
  | exn _ _ => cases f
  | adr _ => cases f
theorem Reps.flat {K : PySem.W.Frag} {G G' : Gh} : ∀ {xs : List D} {vs : List V}, Reps K G xs vs → xs.all DL.flat = true → Reps K G' xs vs
  | _, _, .nil, _ => .nil
  | _, _, .cons h r, f => by
    rw [List.all_cons, Bool.and_eq_true] at f
    exact .cons (h.flat f.1) (Reps.flat r f.2)
theorem RepF.flat {K : PySem.W.Frag} {G G' : Gh} : ∀ {xs : List (Str × D)} {vs : List (Str × V)}, RepF K G xs vs → xs.all (fun p => DL.flat p.2) = true → RepF K G' xs vs
  | _, _, .nil, _ => .nil
  | _, _, .cons h r, f => by
    rw [List.all_cons, Bool.and_eq_true] at f
    exact .cons (h.flat f.1) (RepF.flat r f.2)
theorem ExcAt.back {K : PySem.W.Frag} {G G' : Gh} {H0 H : Hp} {x : Exn} {c : Value} {d : Option Addr} (k : Le G G') (h : ExcAt K H0 G' H x c d) : ExcAt K H0 G H x c d := by
  obtain ⟨h1, h2⟩ := h
  refine ⟨h1, ?_⟩
  rcases h2 with h2 | ⟨dd, fvs, a1, a2, a3, a0, a4, a5⟩
  · exact .inl h2
  · refine .inr ⟨dd, fvs, a1, a2, ?_, a0, a4.flat a5, a5⟩
    cases q : G dd with
    | none => rfl
    | some g => rw [k dd g q] at a3; cases a3
/-- every own slot known -/
def frz : En → En := List.map fun | some (_, d) => some (false, d) | none => none
theorem frz_get {Γ : En} {i : Nat} {o : Bool} {d : D} (h : (frz Γ)[i]? = some (some (o, d))) : o = false ∧ ∃ o', Γ[i]? = some (some (o', d)) := by
  unfold frz at h
  rw [List.getElem?_map] at h
  cases q : Γ[i]? with
  | none => rw [q] at h; cases h
  | some x =>
    rw [q] at h
    cases x with
    | none => cases h
    | some y =>
      obtain ⟨o', d'⟩ := y
      cases h
      exact ⟨rfl, o', rfl⟩
def OwnS (σ : St) (Γ : En) (a : Addr) : Prop := ∃ (i : Nat) (d : D), Γ[i]? = some (some (true, d)) ∧ σ[i]? = some (some (.ref a))
open Classical in
/-- all that stands at an own slot, known -/
noncomputable def gall (G : Gh) (H : Hp) (σ : St) (Γ : En) : Gh := fun a => if OwnS σ Γ a then (H a).map GO.ho else G a
section
variable {K : PySem.W.Frag} {F : Fm} {G : Gh} {H : Hp} {σ : St} {Γ : En}
theorem Loc.gnone (E : Loc K G H σ Γ) {a : Addr} (h : OwnS σ Γ a) : G a = none := by
  obtain ⟨i, d, h1, h2⟩ := h
  obtain ⟨p, q1, q2, _⟩ := E.own i d h1
  rw [h2] at q1; cases q1
  exact q2
theorem Loc.le_gall (E : Loc K G H σ Γ) : Le G (gall G H σ Γ) := fun a g h => by
  unfold gall
  rw [if_neg fun z => by rw [E.gnone z] at h; cases h]
  exact h
theorem Loc.ext_gall (E : Loc K G H σ Γ) : Ext (gall G H σ Γ) H := fun a g h => by
  unfold gall at h
  by_cases z : OwnS σ Γ a
  · rw [if_pos z] at h
    cases q : H a with
    | none => rw [q] at h; cases h
    | some o => rw [q] at h; cases h; exact q
  · rw [if_neg z] at h; exact E.ext a g h
theorem gall_at (h : OwnS σ Γ p) : gall G H σ Γ p = (H p).map GO.ho := by unfold gall; rw [if_pos h]
theorem Loc.all (E : Loc K G H σ Γ) : Loc K (gall G H σ Γ) H σ (frz Γ) where
  len := by rw [E.len]; unfold frz; rw [List.length_map]
  ext := E.ext_gall
  val := fun i d h => by
    obtain ⟨_, o', h'⟩ := frz_get h
    cases o' with
    | false =>
      obtain ⟨v, a, b⟩ := E.val i d h'
      exact ⟨v, a, b.mono E.le_gall⟩
    | true =>
      obtain ⟨p, a, b, c⟩ := E.own i d h'
      have hp : OwnS σ Γ p := ⟨i, d, h', a⟩
      refine ⟨.ref p, a, ?_⟩
      exact c.rep E.le_gall (gall_at hp)
  own := fun i d h => by cases (frz_get h).1
  dis := fun i j d e p _ h => by cases (frz_get h).1
/-- a step with all own things known is one without -/
theorem Loc.thaw (E : Loc K G H σ Γ) {G1 : Gh} {H1 : Hp} (s : Step0 (gall G H σ Γ) H G1 H1) : Step0 G H G H1 where
  le := Le.refl G
  kept := fun a o h n _ => by
    by_cases z : OwnS σ Γ a
    · have e : gall G H σ Γ a = some (.ho o) := by rw [gall_at z, h]; rfl
      have := s.ext a _ (s.le a _ e)
      exact this
    · exact s.kept a o h (by unfold gall; rw [if_neg z]; exact n) id
  new := fun a g h n => by rw [n] at h; cases h
  ext := fun a g h => s.ext a g (s.le a g (E.le_gall a g h))
  live := s.live
end
section
variable {X : Cx} {ex : Exn → Prop} {e : Expr} {Γ : En}
theorem ExAt.all {W : WX} {σ : St} {G : Gh} {H : Hp} (E : Loc X.K G H σ Γ) (h : ExAt X ex W σ G H) : ExAt X ex W σ (gall G H σ Γ) H :=
  fun x c d G' H' hx s he => h x c d G H' hx (E.thaw s) (he.back (E.le_gall.trans s.le))
/-- where the result is flat, own things may be read -/
theorem ed_flat {R : Bool → D → Prop} (h : ED X ex e (frz Γ) fun _ d => flat d = true ∧ R false d) : ED X ex e Γ R := by
  intro σ G H E W tk xa Q k
  refine h σ _ H E.all W tk (xa.all E) Q fun o d v G' H' hR s r => ?_
  obtain ⟨G2, s2, r2, _⟩ := r.known s
  exact k false d v G H' hR.2 (E.thaw s2) (r2.flat hR.1)
/-- a new list of flat things -/
theorem ed_flatL {R : Bool → D → Prop} (h : ED X ex e (frz Γ) fun o d => o = true ∧ ∃ xs, d = .lst xs ∧ xs.all flat = true ∧ R true d) : ED X ex e Γ R := by
  intro σ G H E W tk xa Q k
  refine h σ _ H E.all W tk (xa.all E) Q fun o d v G' H' hR s r => ?_
  obtain ⟨rfl, xs, rfl, hf, hR⟩ := hR
  obtain ⟨p, rfl, hn, n, w⟩ := r
  refine k true (.lst xs) _ G H' hR (E.thaw s) ⟨p, rfl, hn, E.ext.gfree hn, ?_⟩
  cases w with
  | lst h r => exact .lst h (r.flat hf)
theorem et_flat {R : Bool → Prop} (h : ET X ex e (frz Γ) R) : ET X ex e Γ R := by
  intro σ G H E W tk xa Q k
  exact h σ _ H E.all W tk (xa.all E) Q fun b G' H' hR s => k b G H' hR (E.thaw s)
end
end DL

/-! DL2: the rules of expressions. -/
namespace DL
open PySem L2

section
variable {X : Cx} {ex : Exn → Prop} {Γ : En} {R : Bool → D → Prop} {pos p : Pos}

/-! ### consequence -/
theorem ED.imp {e : Expr} {R' : Bool → D → Prop} (h : ED X ex e Γ R) (k : ∀ o d, R o d → R' o d) : ED X ex e Γ R' :=
  fun σ G H E W tk xa Q q => h σ G H E W tk xa Q fun o d v G' H' hR s r => q o d v G' H' (k o d hR) s r
theorem ET.imp {e : Expr} {R R' : Bool → Prop} (h : ET X ex e Γ R) (k : ∀ b, R b → R' b) : ET X ex e Γ R' :=
  fun σ G H E W tk xa Q q => h σ G H E W tk xa Q fun b G' H' hR s => q b G' H' (k b hR) s
theorem EA.imp {es : List Expr} {R R' : List D → Prop} (h : EA X ex es Γ R) (k : ∀ b, R b → R' b) : EA X ex es Γ R' :=
  fun σ G H E W tk xa Q q => h σ G H E W tk xa Q fun b vs G' H' hR s => q b vs G' H' (k b hR) s
/-- the value of e is known, whatever it was -/
theorem ED.use {e : Expr} (h : ED X ex e Γ fun _ d => R false d) {σ : St} {G : Gh} {H : Hp} (E : Loc X.K G H σ Γ) {W : WX} (tk : Tk X W) (xa : ExAt X ex W σ G H) {Q : VK}
    (q : ∀ d v G' H', R false d → Step0 G H G' H' → Rep X.K G' d v → Q v H') : tW X e σ H Q :=
  h σ G H E W tk xa Q fun o d v G' H' hR s r => by
    obtain ⟨G2, s2, r2, _⟩ := r.known s
    exact q d v G2 H' hR s2 r2

/-! ### names and constants -/
theorem ed_name {i : Nat} {x : Str} {d : D} (hΓ : Γ[i]? = some (some (false, d))) (hN : X.N[i]? = some x) (hv : Vis X.env.scope x) (h : R false d)
    (hd : (x == ("__debug__" : Str)) = false := by decide) (hcd : (x == ("__classdict__" : Str)) = false := by decide) : ED X ex (.Name x pos) Γ R := by
  intro σ G H E W tk xa Q k
  obtain ⟨v, e, r⟩ := E.val i d hΓ
  exact tW_of (pe_var hN hv hd hcd) ⟨v, e, k false d v G H h (.refl E.ext) r⟩
theorem ed_c {e : Expr} {v : V} {d : D} (hp : PE X e (tC v)) (hr : ∀ G, Rep X.K G d v) (h : R false d) : ED X ex e Γ R := by
  intro σ G H E W tk xa Q k
  exact tW_of hp (k false d v G H h (.refl E.ext) (hr G))
theorem ed_int {i j} (h : R false (.int i)) : ED X ex (.Constant (.int i) j pos) Γ R := ed_c pe_int (fun _ => .int) h
theorem ed_str {i j} (h : R false (.str i)) : ED X ex (.Constant (.str i) j pos) Γ R := ed_c pe_str (fun _ => .str) h
theorem ed_bl {i j} (h : R false (.bl i)) : ED X ex (.Constant (.bool i) j pos) Γ R := ed_c pe_bl (fun _ => .bl) h
theorem ed_non {j} (h : R false .non) : ED X ex (.Constant .none j pos) Γ R := ed_c pe_non (fun _ => .non) h
/-- a constant of the module -/
theorem ed_globS {x : Str} {s : Str} {t : Tok} (hm : X.mg x = some (.str s t)) (hg : Gl X x) (h : R false (.str s)) (hd : (x == ("__debug__" : Str)) = false := by decide) : ED X ex (.Name x pos) Γ R :=
  ed_c (pe_glob (v := .str s) hg hm ⟨t, rfl⟩ hd) (fun _ => .str) h
theorem ed_globI {x : Str} {s : Int} {t : Tok} (hm : X.mg x = some (.int s t)) (hg : Gl X x) (h : R false (.int s)) (hd : (x == ("__debug__" : Str)) = false := by decide) : ED X ex (.Name x pos) Γ R :=
  ed_c (pe_glob (v := .int s) hg hm ⟨t, rfl⟩ hd) (fun _ => .int) h

/-! ### operators -/
/-- what a two-place operator gives: by data -/
def BinR (X : Cx) (op : Operator) (d1 d2 : D) (R : Bool → D → Prop) : Prop :=
  ∀ G H x y, Ext G H → Rep X.K G d1 x → Rep X.K G d2 y → ∀ pins σ s u w, Inv X pins σ H s → RelV x u → RelV y w → ∀ Q : VK,
    (∀ o d v G' H', R o d → Step0 G H G' H' → RepO X.K H G' H' o d v → Q v H') → wpAny (model X.prog X.w) X.A (binaryOp op u w) (EP X pins σ Q) X.xe s
theorem ed_bin {a b : Expr} {op : Operator} (h : ED X ex a Γ fun _ d1 => ED X ex b Γ fun _ d2 => BinR X op d1 d2 R) : ED X ex (.BinOp a op b pos) Γ R := by
  intro σ G H E W tk xa Q k pins s I
  refine wpAny_BinOp ?_
  have h1 := (ED.use (R := fun _ d1 => ED X ex b Γ fun _ d2 => BinR X op d1 d2 R) h E tk xa
    (Q := fun x H1 => ∃ d1 G1, (ED X ex b Γ fun _ d2 => BinR X op d1 d2 R) ∧ Step0 G H G1 H1 ∧ Rep X.K G1 d1 x) fun d v G' H' a b c => ⟨d, G', a, b, c⟩) pins s I
  refine thn h1 fun u s1 ⟨x, H1, I1, r1, d1, G1, hb, st1, rep1⟩ => ?_
  have h2 := (ED.use (R := fun _ d2 => BinR X op d1 d2 R) hb (E.go st1) tk (xa.go st1)
    (Q := fun y H2 => ∃ d2 G2, BinR X op d1 d2 R ∧ Step0 G1 H1 G2 H2 ∧ Rep X.K G2 d2 y) fun d v G' H' a b c => ⟨d, G', a, b, c⟩) pins s1 I1
  refine thn h2 fun w s2 ⟨y, H2, I2, r2, d2, G2, hc, st2, rep2⟩ => ?_
  exact hc G2 H2 x y st2.ext (rep1.mono st2.le) rep2 pins σ s2 u w I2 r1 r2 Q fun o d v G' H' hR st3 rep => k o d v G' H' hR ((st1.trans st2).trans st3) (by
    cases o with
    | false => exact rep
    | true => obtain ⟨q, e, hn, z⟩ := rep; exact ⟨q, e, (st1.trans st2).free hn, z⟩)
/-- from a rule by values -/
theorem BinR.of {op : Operator} {r : R2} {d1 d2 : D} (ho : OpR X (binaryOp op) r) (h : ∀ G H x y, Ext G H → Rep X.K G d1 x → Rep X.K G d2 y → ∀ Q : VK,
    (∀ o d v G' H', R o d → Step0 G H G' H' → RepO X.K H G' H' o d v → Q v H') → r x y H Q) : BinR X op d1 d2 R :=
  fun G H x y E r1 r2 pins σ s u w I ru rw' Q k => ho pins s σ H x y u w Q I ru rw' (h G H x y E r1 r2 Q k)
theorem add_ii {i j : Int} (h : R false (.int (i + j))) : BinR X .Add (.int i) (.int j) R := .of op_add fun G H x y E r1 r2 Q k => by
  cases r1; cases r2
  exact ⟨i, j, rfl, rfl, k _ _ _ G H h (.refl E) .int⟩
theorem sub_ii {i j : Int} (h : R false (.int (i - j))) : BinR X .Sub (.int i) (.int j) R := .of op_sub fun G H x y E r1 r2 Q k => by
  cases r1; cases r2
  exact ⟨i, j, rfl, rfl, k _ _ _ G H h (.refl E) .int⟩
/-- one factor below 2^64 -/
theorem mul_ii {i j : Int} (hc : CMul i j) (h : R false (.int (i * j))) : BinR X .Mult (.int i) (.int j) R := .of op_mul fun G H x y E r1 r2 Q k => by
  cases r1; cases r2
  exact ⟨i, j, rfl, rfl, hc, k _ _ _ G H h (.refl E) .int⟩
theorem mulW_ii {i j : Int} (hc : CMulW i j) (h : R false (.int (i * j))) : BinR X .Mult (.int i) (.int j) R := .of op_mulW fun G H x y E r1 r2 Q k => by
  cases r1; cases r2
  exact ⟨i, j, rfl, rfl, hc, k _ _ _ G H h (.refl E) .int⟩
theorem mod_ii {i j : Int} (hc : 0 < j) (h : R false (.int (i % j))) : BinR X .Mod (.int i) (.int j) R := .of op_mod fun G H x y E r1 r2 Q k => by
  cases r1; cases r2
  exact ⟨i, j, rfl, rfl, hc, k _ _ _ G H h (.refl E) .int⟩
theorem fdiv_ii {i j : Int} (hc : CDivW i j) (h : R false (.int (i / j))) : BinR X .FloorDiv (.int i) (.int j) R := .of op_fdivW fun G H x y E r1 r2 Q k => by
  cases r1; cases r2
  exact ⟨i, j, rfl, rfl, hc, k _ _ _ G H h (.refl E) .int⟩
theorem pow_ii {i j : Int} (hc : CPow i j) (h : R false (.int (i ^ j.toNat))) : BinR X .Pow (.int i) (.int j) R := .of op_pow fun G H x y E r1 r2 Q k => by
  cases r1; cases r2
  exact ⟨i, j, rfl, rfl, hc, k _ _ _ G H h (.refl E) .int⟩
theorem add_ss {i j : Str} (hz : i.length + j.length ≤ sizeLine) (h : R false (.str (i ++ j))) : BinR X .Add (.str i) (.str j) R := .of op_add_str fun G H x y E r1 r2 Q k => by
  cases r1; cases r2
  exact ⟨i, j, rfl, rfl, hz, k _ _ _ G H h (.refl E) .str⟩
/-- a new list -/
theorem newL {G : Gh} {H : Hp} {xs : List D} {vs : List V} {Q : VK} (E : Ext G H) (r : Reps X.K G xs vs) (h : R true (.lst xs)) (k : ∀ o d v G' H', R o d → Step0 G H G' H' → RepO X.K H G' H' o d v → Q v H') :
    ∀ p, H p = none → Q (.ref p) (upd H p (.lst vs)) := fun p hp =>
  k true (.lst xs) (.ref p) G _ h (.alloc E hp) ⟨p, rfl, hp, E.gfree hp, .lst upd_same r⟩
/-- a new tuple -/
theorem newT {G : Gh} {H : Hp} {xs : List D} {vs : List V} {Q : VK} (E : Ext G H) (r : Reps X.K G xs vs) (h : R false (.tup xs)) (k : ∀ o d v G' H', R o d → Step0 G H G' H' → RepO X.K H G' H' o d v → Q v H') :
    ∀ p, H p = none → Q (.ref p) (upd H p (.tup vs)) := fun p hp =>
  k false (.tup xs) (.ref p) (gupd G p (.ho (.tup vs))) _ h ((Step.alloc E hp).know hp upd_same (E.gfree hp)) (.tup gupd_same (r.mono (Le.gupd (E.gfree hp))))
theorem add_ll {xs ys : List D} (hz : xs.length + ys.length ≤ sizeLine) (h : R true (.lst (xs ++ ys))) : BinR X .Add (.lst xs) (.lst ys) R := .of op_cat fun G H x y E r1 r2 Q k => by
  cases r1 with
  | lst h1 q1 =>
    cases r2 with
    | lst h2 q2 => exact ⟨_, _, _, _, rfl, rfl, E _ _ h1, E _ _ h2, by rw [← q1.length, ← q2.length]; exact hz, newL E (q1.append q2) h k⟩
theorem rep_flat_go {K : PySem.W.Frag} {G : Gh} {xs : List D} {vs : List V} (q : Reps K G xs vs) : ∀ n : Nat, Reps K G (List.replicate n xs).flatten (List.replicate n vs).flatten
  | 0 => .nil
  | n + 1 => by rw [List.replicate_succ, List.replicate_succ, List.flatten_cons, List.flatten_cons]; exact q.append (rep_flat_go q n)
theorem mul_li {xs : List D} {n : Int} (hz : xs.length * n.toNat ≤ sizeLine) (h0 : -(2 ^ 63) ≤ n) (h1 : n < 2 ^ 63) (h : R true (.lst (List.replicate n.toNat xs).flatten)) : BinR X .Mult (.lst xs) (.int n) R := .of op_rep fun G H x y E r1 r2 Q k => by
  cases r2
  cases r1 with
  | lst hp q1 => exact ⟨_, n, _, rfl, rfl, E _ _ hp, h0, h1, by rw [← q1.length]; exact hz, newL E (rep_flat_go q1 _) h k⟩

/-! ### displays, argument lists -/
theorem ea_nil {R : List D → Prop} (h : R []) : EA X ex [] Γ R := by
  intro σ G H E W tk xa Q k
  exact tWa_of pa_nil (k [] [] G H h (.refl E.ext) .nil)
theorem ea_cons {e : Expr} {es : List Expr} {R : List D → Prop} (h : ED X ex e Γ fun _ d => EA X ex es Γ fun ds => R (d :: ds)) (hs : starEach (e :: es) X.env = (false, eval e X.env) :: starEach es X.env := by rfl) : EA X ex (e :: es) Γ R := by
  intro σ G H E W tk xa Q k
  refine tWa_of (pa_cons (te := tW X e) (t := tWa X es) pe_W pa_W hs) ?_
  refine ED.use (R := fun _ d => EA X ex es Γ fun ds => R (d :: ds)) h E tk xa fun d v G1 H1 h1 s1 r1 => ?_
  refine h1 σ G1 H1 (E.go s1) W tk (xa.go s1) _ fun ds vs G2 H2 h2 s2 r2 => ?_
  exact k (d :: ds) (v :: vs) G2 H2 h2 (s1.trans s2) (.cons (r1.mono s2.le) r2)
theorem ed_lst {es : List Expr} (h : EA X ex es Γ fun ds => ds.length ≤ sizeLine ∧ R true (.lst ds)) : ED X ex (.List es pos) Γ R := by
  intro σ G H E W tk xa Q k
  refine tW_of (pe_lst (t := tWa X es) pa_W) ?_
  refine h σ G H E W tk xa _ fun ds vs G1 H1 h1 s1 r1 => ⟨by rw [← r1.length]; exact h1.1, ?_⟩
  exact newL s1.ext r1 h1.2 fun o d v G' H' hR st rep => k o d v G' H' hR (s1.trans st) (by
    cases o with
    | false => exact rep
    | true => obtain ⟨q, e, hn, z⟩ := rep; exact ⟨q, e, s1.free hn, z⟩)
theorem ed_tup {es : List Expr} {x1} (h : EA X ex es Γ fun ds => ds.length ≤ sizeLine ∧ R false (.tup ds)) : ED X ex (.Tuple es x1 pos) Γ R := by
  intro σ G H E W tk xa Q k
  refine tW_of (pe_tup (t := tWa X es) pa_W) ?_
  refine h σ G H E W tk xa _ fun ds vs G1 H1 h1 s1 r1 => ⟨by rw [← r1.length]; exact h1.1, ?_⟩
  exact newT s1.ext r1 h1.2 fun o d v G' H' hR st rep => k o d v G' H' hR (s1.trans st) (by
    cases o with
    | false => exact rep
    | true => obtain ⟨q, e, hn, z⟩ := rep; exact ⟨q, e, s1.free hn, z⟩)

/-! ### subscripts, slices -/
def IxD (R : Bool → D → Prop) : D → D → Prop
  | .lst xs, .int i => ∃ d, atI xs i = some d ∧ R false d
  | .tup xs, .int i => ∃ d, atI xs i = some d ∧ R false d
  | .scr ns, .int i => ∃ n, atI ns i = some n ∧ R false (.int n)
  | .str z, .int i => z.length ≤ sizeLine ∧ ∃ c, atI z.cps.toList i = some c ∧ R false (.str ⟨#[c]⟩)
  | _, _ => False
theorem atI_map {α β : Type} (f : α → β) {xs : List α} {i : Int} {a : α} (h : atI xs i = some a) : atI (xs.map f) i = some (f a) := by
  unfold atI at h ⊢
  rw [List.length_map]
  cases q : ixN xs.length i with
  | none => rw [q] at h; cases h
  | some j =>
    rw [q] at h
    show (xs.map f)[j]? = _
    rw [List.getElem?_map]
    have h' : xs[j]? = some a := h
    rw [h']; rfl
theorem ed_ix {a b : Expr} (h : ED X ex a Γ fun _ d1 => ED X ex b Γ fun _ d2 => IxD R d1 d2) (hs : PlainIx b := by exact fun _ _ => rfl) : ED X ex (.Subscript a b pos) Γ R := by
  intro σ G H E W tk xa Q k
  refine tW_of (pe_ix ix_seq (ta := tW X a) (tb := tW X b) pe_W pe_W hs) ?_
  refine ED.use (R := fun _ d1 => ED X ex b Γ fun _ d2 => IxD R d1 d2) h E tk xa fun d1 x G1 H1 h1 s1 r1 => ?_
  refine ED.use (R := fun _ d2 => IxD R d1 d2) h1 (E.go s1) tk (xa.go s1) fun d2 y G2 H2 h2 s2 r2 => ?_
  have r1' := r1.mono s2.le
  have st := s1.trans s2
  cases d2 with
  | int i =>
    cases r2
    cases d1 with
    | lst xs =>
      obtain ⟨d, e, hR⟩ := h2
      cases r1' with
      | lst hp q =>
        obtain ⟨v, ev, rv⟩ := q.atI e
        exact .inl ⟨_, _, i, v, rfl, rfl, SqL.of (s2.ext _ _ hp), ev, k _ _ _ G2 H2 hR st rv⟩
    | tup xs =>
      obtain ⟨d, e, hR⟩ := h2
      cases r1' with
      | tup hp q =>
        obtain ⟨v, ev, rv⟩ := q.atI e
        exact .inr (.inl ⟨_, _, i, v, rfl, rfl, SqT.of (s2.ext _ _ hp), ev, k _ _ _ G2 H2 hR st rv⟩)
    | scr ns =>
      obtain ⟨d, e, hR⟩ := h2
      cases r1' with
      | scr hp => exact .inl ⟨_, _, i, _, rfl, rfl, hp.sq s2.ext, atI_map V.int e, k _ _ _ G2 H2 hR st .int⟩
    | str z =>
      obtain ⟨hz, c, e, hR⟩ := h2
      cases r1'
      exact .inr (.inr ⟨z, i, c, rfl, rfl, hz, e, k _ _ _ G2 H2 hR st .str⟩)
    | _ => exact h2.elim
  | _ => cases d1 <;> exact h2.elim

/-- a part of a slice -/
def tWo (X : Cx) (o : Option Expr) : TO := fun σ H Q => ∀ pins s, Inv X pins σ H s → wpAny (model X.prog X.w) X.A (evalPart o X.env) (fun u s' => ∃ i H', Inv X pins σ H' s' ∧ IsPart u i ∧ Q i H') X.xe s
theorem po_W {o : Option Expr} : PO X o (tWo X o) := ⟨fun pins s _ _ _ I h => h pins s I⟩
def EO (X : Cx) (ex : Exn → Prop) (o : Option Expr) (Γ : En) (R : Option Int → Prop) : Prop :=
  ∀ σ G H, Loc X.K G H σ Γ → ∀ W, Tk X W → ExAt X ex W σ G H → ∀ Q : Option Int → Hp → Prop, (∀ i G' H', R i → Step0 G H G' H' → Q i H') → tWo X o σ H Q
theorem eo_none {R : Option Int → Prop} (h : R none) : EO X ex none Γ R :=
  fun σ G H E W tk xa Q k pins s I => po_none.run pins s σ H Q I (k none G H h (.refl E.ext))
theorem eo_some {e : Expr} {R : Option Int → Prop} (h : ED X ex e Γ fun _ d => ∃ i, d = .int i ∧ R (some i)) : EO X ex (some e) Γ R :=
  fun σ G H E W tk xa Q k pins s I => (po_some (te := tW X e) pe_W).run pins s σ H Q I (ED.use (R := fun _ d => ∃ i, d = .int i ∧ R (some i)) h E tk xa fun d v G' H' hR s r => by
    obtain ⟨i, rfl, hR⟩ := hR
    cases r
    exact ⟨i, rfl, k (some i) G' H' hR s⟩)
def cutD {α : Type} (xs : List α) (lo hi : Option Int) : List α := (xs.drop (HT.sIx xs.length 0 lo)).take (HT.sIx xs.length xs.length hi - HT.sIx xs.length 0 lo)
def SlD (R : Bool → D → Prop) (lo hi : Option Int) : D → Prop
  | .lst xs => R true (.lst (cutD xs lo hi))
  | .scr ns => R true (.lst ((cutD ns lo hi).map D.int))
  | .str z => z.length ≤ sizeLine ∧ R false (.str (cutS z lo hi))
  | _ => False
theorem Reps.cut {K : PySem.W.Frag} {G : Gh} {xs : List D} {vs : List V} (h : Reps K G xs vs) (lo hi : Option Int) : Reps K G (cutD xs lo hi) (cutV vs lo hi) := by
  unfold cutD cutV
  rw [h.length]
  exact (h.drop _).take _
theorem cut_map {ns : List Int} (lo hi : Option Int) : cutV (ns.map V.int) lo hi = (cutD ns lo hi).map V.int := by
  unfold cutD cutV
  rw [List.length_map, List.map_take, List.map_drop]
theorem RepO.back {B : Addr → Prop} {K : PySem.W.Frag} {G G1 G' : Gh} {H H1 H' : Hp} {o : Bool} {d : D} {v : V} (s : Step B G H G1 H1) (r : RepO K H1 G' H' o d v) : RepO K H G' H' o d v := by
  cases o with
  | false => exact r
  | true => obtain ⟨q, e, hn, z⟩ := r; exact ⟨q, e, s.free hn, z⟩
theorem ed_slice {e : Expr} {lo hi : Option Expr} {p2 : Pos} (h : ED X ex e Γ fun _ d => EO X ex lo Γ fun l => EO X ex hi Γ fun u => SlD R l u d) : ED X ex (.Subscript e (.Slice lo hi none p2) pos) Γ R := by
  intro σ G H E W tk xa Q k
  refine tW_of (pe_slice (SlR.or sl_list sl_str) (te := tW X e) (tl := tWo X lo) (th := tWo X hi) pe_W po_W po_W) ?_
  refine ED.use (R := fun _ d => EO X ex lo Γ fun l => EO X ex hi Γ fun u => SlD R l u d) h E tk xa fun d v G1 H1 h1 s1 r1 => ?_
  refine h1 σ G1 H1 (E.go s1) W tk (xa.go s1) _ fun l G2 H2 h2 s2 => ?_
  refine h2 σ G2 H2 ((E.go s1).go s2) W tk ((xa.go s1).go s2) _ fun u G3 H3 h3 s3 => ?_
  have st := (s1.trans s2).trans s3
  have r3 := r1.mono (s2.trans s3).le
  have kk : ∀ o d v G' H', R o d → Step0 G3 H3 G' H' → RepO X.K H3 G' H' o d v → Q v H' := fun o d v G' H' hR s r => k o d v G' H' hR (st.trans s) (r.back st)
  cases d with
  | lst xs => cases r3 with | lst hp q => exact .inl ⟨_, _, rfl, SqL.of (s3.ext _ _ hp), newL s3.ext (q.cut l u) h3 kk⟩
  | scr ns => cases r3 with | scr hp => exact .inl ⟨_, _, rfl, hp.sq s3.ext, by rw [cut_map]; exact newL s3.ext (Reps.ofInts _) h3 kk⟩
  | str z => cases r3; exact .inr ⟨z, rfl, h3.1, kk _ _ _ G3 H3 h3.2 (.refl s3.ext) .str⟩
  | _ => exact h3.elim

/-! ### comparisons -/
def CmpR (X : Cx) (op : CmpOp) (d1 d2 : D) (R : Bool → Prop) : Prop :=
  ∀ G H x y, Ext G H → Rep X.K G d1 x → Rep X.K G d2 y → ∀ pins σ s u w, Inv X pins σ H s → RelV x u → RelV y w → ∀ Q : VK,
    (∀ b G' H', R b → Step0 G H G' H' → Q (.bl b) H') → wpAny (model X.prog X.w) X.A (compareOp op u w) (EP X pins σ Q) X.xe s
theorem CmpR.of {op : CmpOp} {r : R2} {d1 d2 : D} {R : Bool → Prop} (ho : OpR X (compareOp op) r) (h : ∀ G H x y, Ext G H → Rep X.K G d1 x → Rep X.K G d2 y → ∀ Q : VK,
    (∀ b G' H', R b → Step0 G H G' H' → Q (.bl b) H') → r x y H Q) : CmpR X op d1 d2 R :=
  fun G H x y E r1 r2 pins σ s u w I ru rw' Q k => ho pins s σ H x y u w Q I ru rw' (h G H x y E r1 r2 Q k)
theorem cmp_go {a b : Expr} {op : CmpOp} {R : Bool → Prop} (h : ED X ex a Γ fun _ d1 => ED X ex b Γ fun _ d2 => CmpR X op d1 d2 R) {σ : St} {G : Gh} {H : Hp} (E : Loc X.K G H σ Γ) {W : WX} (tk : Tk X W) (xa : ExAt X ex W σ G H) {Q : VK}
    (k : ∀ b G' H', R b → Step0 G H G' H' → Q (.bl b) H') {pins : List (Addr × Obj)} {s : Shared} (I : Inv X pins σ H s) :
    wpAny (model X.prog X.w) X.A (eval a X.env) (fun v s₁ => wpAny (model X.prog X.w) X.A (eval b X.env) (fun u s₂ => wpAny (model X.prog X.w) X.A (compareOp op v u) (EP X pins σ Q) X.xe s₂) X.xe s₁) X.xe s := by
  have h1 := (ED.use (R := fun _ d1 => ED X ex b Γ fun _ d2 => CmpR X op d1 d2 R) h E tk xa
    (Q := fun x H1 => ∃ d1 G1, (ED X ex b Γ fun _ d2 => CmpR X op d1 d2 R) ∧ Step0 G H G1 H1 ∧ Rep X.K G1 d1 x) fun d v G' H' a b c => ⟨d, G', a, b, c⟩) pins s I
  refine thn h1 fun u s1 ⟨x, H1, I1, r1, d1, G1, hb, st1, rep1⟩ => ?_
  have h2 := (ED.use (R := fun _ d2 => CmpR X op d1 d2 R) hb (E.go st1) tk (xa.go st1)
    (Q := fun y H2 => ∃ d2 G2, CmpR X op d1 d2 R ∧ Step0 G1 H1 G2 H2 ∧ Rep X.K G2 d2 y) fun d v G' H' a b c => ⟨d, G', a, b, c⟩) pins s1 I1
  refine thn h2 fun w s2 ⟨y, H2, I2, r2, d2, G2, hc, st2, rep2⟩ => ?_
  exact hc G2 H2 x y st2.ext (rep1.mono st2.le) rep2 pins σ s2 u w I2 r1 r2 Q fun b G' H' hR st3 => k b G' H' hR ((st1.trans st2).trans st3)
theorem ed_cmp {a b : Expr} {op : CmpOp} (h : ED X ex a Γ fun _ d1 => ED X ex b Γ fun _ d2 => CmpR X op d1 d2 fun c => R false (.bl c)) (hm : behindInMarks op b = false := by first | exact nomark _ | rfl) : ED X ex (.Compare a [op] [b] pos) Γ R := by
  intro σ G H E W tk xa Q k pins s I
  exact wpAny_Compare1 (cmp_go h E tk xa (fun b G' H' hR s => k false (.bl b) _ G' H' hR s .bl) I) hm
theorem et_cmp {a b : Expr} {op : CmpOp} {R : Bool → Prop} (h : ED X ex a Γ fun _ d1 => ED X ex b Γ fun _ d2 => CmpR X op d1 d2 R) (hm : behindInMarks op b = false := by first | exact nomark _ | rfl) : ET X ex (.Compare a [op] [b] pos) Γ R := by
  intro σ G H E W tk xa Q k pins s I
  refine wpAny_isTrue_Compare1 (thn (cmp_go (Q := fun v H1 => ∃ b G1, R b ∧ Step0 G H G1 H1 ∧ v = .bl b) h E tk xa (fun b G' H' hR s => ⟨b, G', hR, s, rfl⟩) I) fun v s1 h1 => thn h1 fun u s2 h2 => thn h2 fun c s3 ⟨x, H1, I1, r1, q1⟩ => ?_) hm
  obtain ⟨d, G1, hR, st, rfl⟩ := q1
  cases r1
  exact wpAny_truthy_bool ⟨H1, I1, k d G1 H1 hR st⟩
theorem lt_ii {i j : Int} {R : Bool → Prop} (h : R (decide (i < j))) : CmpR X .Lt (.int i) (.int j) R := .of op_lt fun G H x y E r1 r2 Q k => by
  cases r1; cases r2; exact ⟨i, j, rfl, rfl, k _ G H h (.refl E)⟩
theorem le_ii {i j : Int} {R : Bool → Prop} (h : R (decide (i ≤ j))) : CmpR X .LtE (.int i) (.int j) R := .of op_le fun G H x y E r1 r2 Q k => by
  cases r1; cases r2; exact ⟨i, j, rfl, rfl, k _ G H h (.refl E)⟩
theorem gt_ii {i j : Int} {R : Bool → Prop} (h : R (decide (j < i))) : CmpR X .Gt (.int i) (.int j) R := .of op_gt fun G H x y E r1 r2 Q k => by
  cases r1; cases r2; exact ⟨i, j, rfl, rfl, k _ G H h (.refl E)⟩
theorem ge_ii {i j : Int} {R : Bool → Prop} (h : R (decide (j ≤ i))) : CmpR X .GtE (.int i) (.int j) R := .of op_ge fun G H x y E r1 r2 Q k => by
  cases r1; cases r2; exact ⟨i, j, rfl, rfl, k _ G H h (.refl E)⟩
theorem eq_ii {i j : Int} {R : Bool → Prop} (h : R (decide (i = j))) : CmpR X .Eq (.int i) (.int j) R := .of op_eq fun G H x y E r1 r2 Q k => by
  cases r1; cases r2
  exact ⟨rfl, by rw [dec_int, Bool.beq_eq_decide_eq]; exact k _ G H h (.refl E)⟩
theorem ne_ii {i j : Int} {R : Bool → Prop} (h : R (!decide (i = j))) : CmpR X .NotEq (.int i) (.int j) R := .of op_ne fun G H x y E r1 r2 Q k => by
  cases r1; cases r2
  exact ⟨rfl, by rw [dec_int, Bool.beq_eq_decide_eq]; exact k _ G H h (.refl E)⟩
theorem eq_ss {i j : Str} {R : Bool → Prop} (h : R (decide (i = j))) : CmpR X .Eq (.str i) (.str j) R := .of op_eq fun G H x y E r1 r2 Q k => by
  cases r1; cases r2
  have e : decide (V.str i = V.str j) = decide (i = j) := by simp
  exact ⟨rfl, by rw [e]; exact k _ G H h (.refl E)⟩
theorem ne_ss {i j : Str} {R : Bool → Prop} (h : R (!decide (i = j))) : CmpR X .NotEq (.str i) (.str j) R := .of op_ne fun G H x y E r1 r2 Q k => by
  cases r1; cases r2
  have e : decide (V.str i = V.str j) = decide (i = j) := by simp
  exact ⟨rfl, by rw [e]; exact k _ G H h (.refl E)⟩
theorem eq_bb {i j : Bool} {R : Bool → Prop} (h : R (decide (i = j))) : CmpR X .Eq (.bl i) (.bl j) R := .of op_eq fun G H x y E r1 r2 Q k => by
  cases r1; cases r2
  have e : decide (V.bl i = V.bl j) = decide (i = j) := by simp
  exact ⟨rfl, by rw [e]; exact k _ G H h (.refl E)⟩
theorem ne_bb {i j : Bool} {R : Bool → Prop} (h : R (!decide (i = j))) : CmpR X .NotEq (.bl i) (.bl j) R := .of op_ne fun G H x y E r1 r2 Q k => by
  cases r1; cases r2
  have e : decide (V.bl i = V.bl j) = decide (i = j) := by simp
  exact ⟨rfl, by rw [e]; exact k _ G H h (.refl E)⟩
end
/-! ### == at any depth -/
mutual
/-- the library's data -/
def toPy : D → PyData
  | .non => .none
  | .bl b => .bool b
  | .int i => .int i
  | .str s => .str s
  | .lst xs => .list (toPys xs)
  | .tup xs => .tuple (toPys xs)
  | .scr ns => .list (ns.map PyData.int)
  | _ => .none
def toPys : List D → List PyData
  | [] => []
  | x :: xs => toPy x :: toPys xs
end
mutual
/-- == looks through it -/
def isPy : D → Bool
  | .non => true
  | .bl _ => true
  | .int _ => true
  | .str _ => true
  | .lst xs => isPys xs
  | .tup xs => isPys xs
  | .scr _ => true
  | _ => false
def isPys : List D → Bool
  | [] => true
  | x :: xs => isPy x && isPys xs
end
theorem dp_ints {K : PySem.W.Frag} {H : Hp} : ∀ ns : List Int, DpAll K H (ns.map V.int) (ns.map PyData.int)
  | [] => .nil
  | n :: ns => .cons (.int n) (dp_ints ns)
mutual
theorem Rep.dp {K : PySem.W.Frag} {G : Gh} {H : Hp} (E : Ext G H) : ∀ {d : D} {v : V}, Rep K G d v → isPy d = true → Dp K H v (toPy d)
  | _, _, .non, _ => by unfold toPy; exact .non
  | _, _, .bl, _ => by unfold toPy; exact .bl _
  | _, _, .int, _ => by unfold toPy; exact .int _
  | _, _, .str, _ => by unfold toPy; exact .str _
  | _, _, .lst h r, p => by unfold toPy; unfold isPy at p; exact .lst (SqL.of (E _ _ h)) (Reps.dp E r p)
  | _, _, .tup h r, p => by unfold toPy; unfold isPy at p; exact .tup (SqT.of (E _ _ h)) (Reps.dp E r p)
  | _, _, .scr h, _ => by unfold toPy; exact .lst (h.sq E) (dp_ints _)
  | _, _, .ty, p => by cases p
  | _, _, .ref, p => by cases p
  | _, _, .dK _ _, p => by cases p
  | _, _, .dT _ _, p => by cases p
  | _, _, .ins _ _, p => by cases p
  | _, _, .memo _, p => by cases p
  | _, _, .dN _ _ _, p => by cases p
  | _, _, .exn _ _, p => by cases p
  | _, _, .adr _, p => by cases p
theorem Reps.dp {K : PySem.W.Frag} {G : Gh} {H : Hp} (E : Ext G H) : ∀ {d : List D} {v : List V}, Reps K G d v → isPys d = true → DpAll K H v (toPys d)
  | _, _, .nil, _ => by unfold toPys; exact .nil
  | _, _, .cons h r, p => by
    unfold toPys; unfold isPys at p
    rw [Bool.and_eq_true] at p
    exact .cons (Rep.dp E h p.1) (Reps.dp E r p.2)
end
/-- a shape that == serves -/
def eqOk (d : D) : Bool := isPy d && SeqAt.shaped (toPy d)
def eqD (d e : D) : Bool := PyData.eqv (toPy d) (toPy e)
section
variable {X : Cx} {ex : Exn → Prop} {Γ : En} {R : Bool → D → Prop} {pos p : Pos}
theorem eq_dd {d e : D} {R : Bool → Prop} (hu : X.A.units + 64 < cLine) (h1 : eqOk d = true) (h2 : eqOk e = true) (h : R (eqD d e)) : CmpR X .Eq d e R := .of (op_eqD hu) fun G H x y E r1 r2 Q k => by
  unfold eqOk at h1 h2
  rw [Bool.and_eq_true] at h1 h2
  exact ⟨toPy d, toPy e, r1.dp E h1.1, r2.dp E h2.1, h1.2, h2.2, k _ G H h (.refl E)⟩
theorem ne_dd {d e : D} {R : Bool → Prop} (hu : X.A.units + 64 < cLine) (h1 : eqOk d = true) (h2 : eqOk e = true) (h : R (!eqD d e)) : CmpR X .NotEq d e R := .of (op_neD hu) fun G H x y E r1 r2 Q k => by
  unfold eqOk at h1 h2
  rw [Bool.and_eq_true] at h1 h2
  exact ⟨toPy d, toPy e, r1.dp E h1.1, r2.dp E h2.1, h1.2, h2.2, k _ G H h (.refl E)⟩
/-- is None, is not None -/
def isNon : D → Bool
  | .non => true
  | _ => false
theorem Rep.non_iff {K : PySem.W.Frag} {G : Gh} {d : D} {v : V} (r : Rep K G d v) : decide (v = .non) = isNon d := by
  cases r <;> first | rfl | (unfold isNon; exact decide_eq_false (by intro z; cases z))
theorem is_non {d : D} {R : Bool → Prop} (h : R (isNon d)) : CmpR X .Is d .non R := .of op_isN fun G H x y E r1 r2 Q k => by
  cases r2
  exact ⟨rfl, by rw [r1.non_iff]; exact k _ G H h (.refl E)⟩
theorem not_non {d : D} {R : Bool → Prop} (h : R (!isNon d)) : CmpR X .IsNot d .non R := .of op_notN fun G H x y E r1 r2 Q k => by
  cases r2
  exact ⟨rfl, by rw [r1.non_iff]; exact k _ G H h (.refl E)⟩
/-- in, not in: a sign in a text -/
theorem in_ss {c : Nat} {z : Str} {R : Bool → Prop} (h : R (decide (c ∈ z.cps.toList))) : CmpR X .In (.str ⟨#[c]⟩) (.str z) R := .of op_in_sign fun G H x y E r1 r2 Q k => by
  cases r1; cases r2
  exact ⟨c, z, rfl, rfl, k _ G H h (.refl E)⟩
theorem nin_ss {c : Nat} {z : Str} {R : Bool → Prop} (h : R (!decide (c ∈ z.cps.toList))) : CmpR X .NotIn (.str ⟨#[c]⟩) (.str z) R := .of op_notIn_sign fun G H x y E r1 r2 Q k => by
  cases r1; cases r2
  exact ⟨c, z, rfl, rfl, k _ G H h (.refl E)⟩
/-- a text in a text -/
def subS (i j : Str) : Bool := !(Builtin.Str.occurrences j i 0 j.length 1).isEmpty
theorem in_tt {i j : Str} {R : Bool → Prop} (h : R (subS i j)) : CmpR X .In (.str i) (.str j) R := .of op_in_str fun G H x y E r1 r2 Q k => by
  cases r1; cases r2
  exact ⟨i, j, rfl, rfl, k _ G H h (.refl E)⟩
theorem nin_tt {i j : Str} {R : Bool → Prop} (h : R (!subS i j)) : CmpR X .NotIn (.str i) (.str j) R := .of op_notin_str fun G H x y E r1 r2 Q k => by
  cases r1; cases r2
  exact ⟨i, j, rfl, rfl, k _ G H h (.refl E)⟩
/-- flat data without classes and addresses -/
def flat4 : D → Bool
  | .non => true | .bl _ => true | .int _ => true | .str _ => true
  | _ => false
def eq4 : D → D → Bool
  | .non, .non => true
  | .bl a, .bl b => a == b
  | .bl a, .int b => (if a then 1 else 0) == b
  | .int a, .bl b => a == (if b then 1 else 0)
  | .int a, .int b => a == b
  | .str a, .str b => a == b
  | _, _ => false
def in4 (x : D) (xs : List D) : Bool := xs.any fun y => eq4 y x
theorem Rep.flat4 {K : PySem.W.Frag} {G : Gh} {d : D} {v : V} (r : Rep K G d v) (h : DL.flat4 d = true) : flatV v = true := by
  cases r <;> first | rfl | cases h
theorem Rep.eq4 {K : PySem.W.Frag} {G : Gh} {d e : D} {v w : V} (r : Rep K G d v) (r' : Rep K G e w) (h : DL.flat4 d = true) (h' : DL.flat4 e = true) : eqV v w = eq4 d e := by
  cases r <;> (try (cases h)) <;> cases r' <;> (try (cases h')) <;> rfl
theorem Reps.flat4 {K : PySem.W.Frag} {G : Gh} : ∀ {xs : List D} {vs : List V}, Reps K G xs vs → xs.all DL.flat4 = true → vs.all flatV = true
  | _, _, .nil, _ => rfl
  | _, _, .cons h r, f => by
    rw [List.all_cons, Bool.and_eq_true] at f ⊢
    exact ⟨h.flat4 f.1, Reps.flat4 r f.2⟩
theorem Reps.in4 {K : PySem.W.Frag} {G : Gh} {d : D} {v : V} (r : Rep K G d v) (h : DL.flat4 d = true) : ∀ {xs : List D} {vs : List V}, Reps K G xs vs → xs.all DL.flat4 = true → inV v vs = in4 d xs
  | _, _, .nil, _ => rfl
  | x :: xs, w :: vs, .cons hx q, f => by
    rw [List.all_cons, Bool.and_eq_true] at f
    show (eqV w v || inV v vs) = (DL.eq4 x d || DL.in4 d xs)
    rw [hx.eq4 r f.1 h, Reps.in4 r h q f.2]
theorem in_seq {neg : Bool} {op : CmpOp} (ho : OpR X (compareOp op) (rIn X.K neg)) {d : D} {xs : List D} {e : D} (he : e = .lst xs ∨ e = .tup xs) {R : Bool → Prop} (h1 : flat4 d = true) (h2 : xs.all flat4 = true) (h : R (if neg then !in4 d xs else in4 d xs)) : CmpR X op d e R := .of ho fun G H x y E r1 r2 Q k => by
  rcases he with rfl | rfl
  · cases r2 with
    | lst hp q => exact ⟨_, _, rfl, .inl (SqL.of (E _ _ hp)), r1.flat4 h1, q.flat4 h2, by rw [q.in4 r1 h1 h2]; exact k _ G H h (.refl E)⟩
  · cases r2 with
    | tup hp q => exact ⟨_, _, rfl, .inr (SqT.of (E _ _ hp)), r1.flat4 h1, q.flat4 h2, by rw [q.in4 r1 h1 h2]; exact k _ G H h (.refl E)⟩
theorem in_dl {d : D} {xs : List D} {R : Bool → Prop} (h1 : flat4 d = true) (h2 : xs.all flat4 = true) (h : R (in4 d xs)) : CmpR X .In d (.lst xs) R := in_seq op_in_seq (.inl rfl) h1 h2 h
theorem nin_dl {d : D} {xs : List D} {R : Bool → Prop} (h1 : flat4 d = true) (h2 : xs.all flat4 = true) (h : R (!in4 d xs)) : CmpR X .NotIn d (.lst xs) R := in_seq op_notIn_seq (.inl rfl) h1 h2 h
theorem in_dt {d : D} {xs : List D} {R : Bool → Prop} (h1 : flat4 d = true) (h2 : xs.all flat4 = true) (h : R (in4 d xs)) : CmpR X .In d (.tup xs) R := in_seq op_in_seq (.inr rfl) h1 h2 h
theorem nin_dt {d : D} {xs : List D} {R : Bool → Prop} (h1 : flat4 d = true) (h2 : xs.all flat4 = true) (h : R (!in4 d xs)) : CmpR X .NotIn d (.tup xs) R := in_seq op_notIn_seq (.inr rfl) h1 h2 h

/-! ### tests -/
theorem et_val {e : Expr} {R : Bool → Prop} (h : ED X ex e Γ fun _ d => ∃ b, d = .bl b ∧ R b) (he : ∀ whole, isTrue e X.env whole = (do let v ← whole; standAt e.pos; holding [v] (truthy v)) := by intro _; rfl) : ET X ex e Γ R := by
  intro σ G H E W tk xa Q k
  refine tWt_of (pt_val (t := tW X e) pe_W he) ?_
  refine ED.use (R := fun _ d => ∃ b, d = .bl b ∧ R b) h E tk xa fun d v G' H' hR s r => ?_
  obtain ⟨b, rfl, hR⟩ := hR
  cases r
  exact ⟨b, rfl, k b G' H' hR s⟩
theorem et_not {a : Expr} {R : Bool → Prop} (h : ET X ex a Γ fun b => R (!b)) : ET X ex (.UnaryOp .Not a pos) Γ R := by
  intro σ G H E W tk xa Q k
  exact tWt_of (pt_not (tA := tWt X a) pt_W) (h σ G H E W tk xa _ fun b G' H' hR s => k _ G' H' hR s)
/-- and, or as tests: their tests in turn -/
def ETw (X : Cx) (ex : Exn → Prop) (e : Expr) (Γ : En) (R : Bool → Prop) : Prop :=
  ∀ σ G H, Loc X.K G H σ Γ → ∀ W, Tk X W → ExAt X ex W σ G H → ∀ Q : Bool → Hp → Prop, (∀ b G' H', R b → Step0 G H G' H' → Q b H') → ∀ (whole : Sem Value) pins s, Inv X pins σ H s → wpAny (model X.prog X.w) X.A (isTrue e X.env whole) (TP X pins σ Q) X.xe s
theorem et_w {e : Expr} {R : Bool → Prop} (h : ETw X ex e Γ R) : ET X ex e Γ R := fun σ G H E W tk xa Q k pins s I => h σ G H E W tk xa Q k _ pins s I
def tWw (X : Cx) (e : Expr) : TT := fun σ H Q => ∀ (whole : Sem Value) pins s, Inv X pins σ H s → wpAny (model X.prog X.w) X.A (isTrue e X.env whole) (TP X pins σ Q) X.xe s
theorem pw_W {e : Expr} : PW X e (tWw X e) := ⟨fun wh pins s _ _ _ I h => h wh pins s I⟩
theorem ew_and1 {a : Expr} {R : Bool → Prop} (h : ET X ex a Γ R) : ETw X ex (.BoolOp .And [a] pos) Γ R := fun σ G H E W tk xa Q k wh pins s I =>
  (pw_and1 (tA := tWt X a) pt_W).run wh pins s σ H Q I (h σ G H E W tk xa Q k)
theorem ew_or1 {a : Expr} {R : Bool → Prop} (h : ET X ex a Γ R) : ETw X ex (.BoolOp .Or [a] pos) Γ R := fun σ G H E W tk xa Q k wh pins s I =>
  (pw_or1 (tA := tWt X a) pt_W).run wh pins s σ H Q I (h σ G H E W tk xa Q k)
theorem ew_and {a b : Expr} {rest : List Expr} {R : Bool → Prop} (h : ET X ex a Γ fun c => (c = true → ETw X ex (.BoolOp .And (b :: rest) pos) Γ R) ∧ (c = false → R false)) : ETw X ex (.BoolOp .And (a :: b :: rest) pos) Γ R := fun σ G H E W tk xa Q k wh pins s I => by
  refine (pw_and (tA := tWt X a) (tB' := tWw X (.BoolOp .And (b :: rest) pos)) pt_W pw_W).run wh pins s σ H Q I ?_
  refine h σ G H E W tk xa _ fun c G1 H1 hR s1 => ?_
  cases c with
  | true => exact iteT fun wh pins s I => hR.1 rfl σ G1 H1 (E.go s1) W tk (xa.go s1) Q (fun b G' H' hb s' => k b G' H' hb (s1.trans s')) wh pins s I
  | false => exact iteF (k false G1 H1 (hR.2 rfl) s1)
theorem ew_or {a b : Expr} {rest : List Expr} {R : Bool → Prop} (h : ET X ex a Γ fun c => (c = false → ETw X ex (.BoolOp .Or (b :: rest) pos) Γ R) ∧ (c = true → R true)) : ETw X ex (.BoolOp .Or (a :: b :: rest) pos) Γ R := fun σ G H E W tk xa Q k wh pins s I => by
  refine (pw_or (tA := tWt X a) (tB' := tWw X (.BoolOp .Or (b :: rest) pos)) pt_W pw_W).run wh pins s σ H Q I ?_
  refine h σ G H E W tk xa _ fun c G1 H1 hR s1 => ?_
  cases c with
  | false => exact iteF fun wh pins s I => hR.1 rfl σ G1 H1 (E.go s1) W tk (xa.go s1) Q (fun b G' H' hb s' => k b G' H' hb (s1.trans s')) wh pins s I
  | true => exact iteT (k true G1 H1 (hR.2 rfl) s1)
/-- and, or, not of truths, as values -/
theorem ed_one {op} {a : Expr} (h : ED X ex a Γ R) : ED X ex (.BoolOp op [a] pos) Γ R := by
  intro σ G H E W tk xa Q k
  exact tW_of (pe_one (t := tW X a) pe_W) (h σ G H E W tk xa Q k)
theorem ed_and {a b : Expr} {rest : List Expr} (h : ED X ex a Γ fun _ d => ∃ c, d = .bl c ∧ (c = true → ED X ex (.BoolOp .And (b :: rest) pos) Γ R) ∧ (c = false → R false (.bl false))) : ED X ex (.BoolOp .And (a :: b :: rest) pos) Γ R := by
  intro σ G H E W tk xa Q k
  refine tW_of (pe_and (ta := tW X a) (tb := tW X (.BoolOp .And (b :: rest) pos)) pe_W pe_W) ?_
  refine ED.use (R := fun _ d => ∃ c, d = .bl c ∧ (c = true → ED X ex (.BoolOp .And (b :: rest) pos) Γ R) ∧ (c = false → R false (.bl false))) h E tk xa fun d v G1 H1 hR s1 r1 => ?_
  obtain ⟨c, rfl, h1, h2⟩ := hR
  cases r1
  refine ⟨c, rfl, ?_⟩
  cases c with
  | true => exact iteT (h1 rfl σ G1 H1 (E.go s1) W tk (xa.go s1) Q fun o d v G' H' hR s r => k o d v G' H' hR (s1.trans s) (r.back s1))
  | false => exact iteF (k _ _ _ G1 H1 (h2 rfl) s1 .bl)
theorem ed_or {a b : Expr} {rest : List Expr} (h : ED X ex a Γ fun _ d => ∃ c, d = .bl c ∧ (c = false → ED X ex (.BoolOp .Or (b :: rest) pos) Γ R) ∧ (c = true → R false (.bl true))) : ED X ex (.BoolOp .Or (a :: b :: rest) pos) Γ R := by
  intro σ G H E W tk xa Q k
  refine tW_of (pe_or (ta := tW X a) (tb := tW X (.BoolOp .Or (b :: rest) pos)) pe_W pe_W) ?_
  refine ED.use (R := fun _ d => ∃ c, d = .bl c ∧ (c = false → ED X ex (.BoolOp .Or (b :: rest) pos) Γ R) ∧ (c = true → R false (.bl true))) h E tk xa fun d v G1 H1 hR s1 r1 => ?_
  obtain ⟨c, rfl, h1, h2⟩ := hR
  cases r1
  refine ⟨c, rfl, ?_⟩
  cases c with
  | false => exact iteF (h1 rfl σ G1 H1 (E.go s1) W tk (xa.go s1) Q fun o d v G' H' hR s r => k o d v G' H' hR (s1.trans s) (r.back s1))
  | true => exact iteT (k _ _ _ G1 H1 (h2 rfl) s1 .bl)
theorem ed_not {a : Expr} (h : ED X ex a Γ fun _ d => ∃ c, d = .bl c ∧ R false (.bl (!c))) : ED X ex (.UnaryOp .Not a pos) Γ R := by
  intro σ G H E W tk xa Q k
  refine tW_of (pe_not (ta := tW X a) pe_W) ?_
  refine ED.use (R := fun _ d => ∃ c, d = .bl c ∧ R false (.bl (!c))) h E tk xa fun d v G1 H1 hR s1 r1 => ?_
  obtain ⟨c, rfl, h1⟩ := hR
  cases r1
  exact ⟨c, rfl, k _ _ _ G1 H1 h1 s1 .bl⟩
theorem ed_ifx {c a b : Expr} (h : ET X ex c Γ fun t => (t = true → ED X ex a Γ R) ∧ (t = false → ED X ex b Γ R)) : ED X ex (.IfExp c a b pos) Γ R := by
  intro σ G H E W tk xa Q k
  refine tW_of (pe_ifExp (tA := tWt X c) (ta := tW X a) (tb := tW X b) pt_W pe_W pe_W) ?_
  refine h σ G H E W tk xa _ fun t G1 H1 hR s1 => ?_
  cases t with
  | true => exact iteT (hR.1 rfl σ G1 H1 (E.go s1) W tk (xa.go s1) Q fun o d v G' H' hR s r => k o d v G' H' hR (s1.trans s) (r.back s1))
  | false => exact iteF (hR.2 rfl σ G1 H1 (E.go s1) W tk (xa.go s1) Q fun o d v G' H' hR s r => k o d v G' H' hR (s1.trans s) (r.back s1))
/-- a < b < c -/
theorem chain_go {a b c : Expr} {r r' : R2} {R : Bool → Prop} {σ : St} {G : Gh} {H : Hp} (E : Loc X.K G H σ Γ) {W : WX} (tk : Tk X W) (xa : ExAt X ex W σ G H) {Q : VK}
    (h : ED X ex a Γ fun _ d1 => ED X ex b Γ fun _ d2 => ∃ t : Bool, (∀ G H x y (Q : VK), Ext G H → Rep X.K G d1 x → Rep X.K G d2 y → (∀ G' H', Step0 G H G' H' → Q (.bl t) H') → r x y H Q) ∧
      (t = true → ED X ex c Γ fun _ d3 => ∃ t' : Bool, (∀ G H x y (Q : VK), Ext G H → Rep X.K G d2 x → Rep X.K G d3 y → (∀ G' H', Step0 G H G' H' → Q (.bl t') H') → r' x y H Q) ∧ R t') ∧ (t = false → R false))
    (k : ∀ b G' H', R b → Step0 G H G' H' → Q (.bl b) H') : tChain r r' (tW X a) (tW X b) (tW X c) σ H Q := by
  refine ED.use (R := fun _ d1 => ED X ex b Γ fun _ d2 => ∃ t : Bool, (∀ G H x y (Q : VK), Ext G H → Rep X.K G d1 x → Rep X.K G d2 y → (∀ G' H', Step0 G H G' H' → Q (.bl t) H') → r x y H Q) ∧
      (t = true → ED X ex c Γ fun _ d3 => ∃ t' : Bool, (∀ G H x y (Q : VK), Ext G H → Rep X.K G d2 x → Rep X.K G d3 y → (∀ G' H', Step0 G H G' H' → Q (.bl t') H') → r' x y H Q) ∧ R t') ∧ (t = false → R false)) h E tk xa fun d1 x G1 H1 h1 s1 r1 => ?_
  refine ED.use (R := fun _ d2 => ∃ t : Bool, (∀ G H x y (Q : VK), Ext G H → Rep X.K G d1 x → Rep X.K G d2 y → (∀ G' H', Step0 G H G' H' → Q (.bl t) H') → r x y H Q) ∧
      (t = true → ED X ex c Γ fun _ d3 => ∃ t' : Bool, (∀ G H x y (Q : VK), Ext G H → Rep X.K G d2 x → Rep X.K G d3 y → (∀ G' H', Step0 G H G' H' → Q (.bl t') H') → r' x y H Q) ∧ R t') ∧ (t = false → R false)) h1 (E.go s1) tk (xa.go s1) fun d2 y G2 H2 h2 s2 r2 => ?_
  obtain ⟨t, hr, ht, hf⟩ := h2
  refine hr G2 H2 x y _ s2.ext (r1.mono s2.le) r2 fun G3 H3 s3 => ⟨t, rfl, ?_⟩
  have st := (s1.trans s2).trans s3
  cases t with
  | false => exact iteF (k false G3 H3 (hf rfl) st)
  | true =>
    refine iteT ?_
    refine ED.use (R := fun _ d3 => ∃ t' : Bool, (∀ G H x y (Q : VK), Ext G H → Rep X.K G d2 x → Rep X.K G d3 y → (∀ G' H', Step0 G H G' H' → Q (.bl t') H') → r' x y H Q) ∧ R t') (ht rfl) (E.go st) tk (xa.go st) fun d3 z G4 H4 h4 s4 r4 => ?_
    obtain ⟨t', hr', hR⟩ := h4
    exact hr' G4 H4 y z _ s4.ext ((r2.mono s3.le).mono s4.le) r4 fun G5 H5 s5 => k t' G5 H5 hR ((st.trans s4).trans s5)
/-- i <= j < k of ints: which comparisons -/
def CmpI : CmpOp → Int → Int → Bool
  | .Lt, i, j => decide (i < j)
  | .LtE, i, j => decide (i ≤ j)
  | .Gt, i, j => decide (j < i)
  | .GtE, i, j => decide (j ≤ i)
  | _, _, _ => false
def IsCmpI : CmpOp → Bool
  | .Lt => true | .LtE => true | .Gt => true | .GtE => true | _ => false
theorem opCmpI {op : CmpOp} (h : IsCmpI op = true) : OpR X (compareOp op) (rI0 fun i j => .bl (CmpI op i j)) := by
  cases op <;> first | exact op_lt | exact op_le | exact op_gt | exact op_ge | cases h
theorem rI0_go {op : CmpOp} {K : PySem.W.Frag} {i j : Int} : ∀ (G : Gh) (H : Hp) (x y : V) (Q : VK), Ext G H → Rep K G (.int i) x → Rep K G (.int j) y → (∀ G' H', Step0 G H G' H' → Q (.bl (CmpI op i j)) H') → rI0 (fun i j => .bl (CmpI op i j)) x y H Q := fun G H x y Q E r1 r2 k => by
  cases r1; cases r2; exact ⟨i, j, rfl, rfl, k G H (.refl E)⟩
theorem et_chainI {a b c : Expr} {op op' : CmpOp} {R : Bool → Prop} (h : ED X ex a Γ fun _ d1 => ED X ex b Γ fun _ d2 => ∃ i j, d1 = .int i ∧ d2 = .int j ∧ (CmpI op i j = true → ED X ex c Γ fun _ d3 => ∃ k, d3 = .int k ∧ R (CmpI op' j k)) ∧ (CmpI op i j = false → R false))
    (h1 : IsCmpI op = true := by rfl) (h2 : IsCmpI op' = true := by rfl) (hm : lastMarks [op, op'] [b, c] = false := by with_unfolding_all rfl) : ET X ex (.Compare a [op, op'] [b, c] pos) Γ R := by
  intro σ G H E W tk xa Q k
  refine tWt_of (pt_chain (opCmpI h1) (opCmpI h2) (ta := tW X a) (tb := tW X b) (tc := tW X c) pe_W pe_W pe_W hm) ?_
  refine chain_go (R := R) E tk xa (h.imp fun _ d1 h => h.imp fun _ d2 hh => ?_) fun b G' H' hR s => ⟨b, rfl, k b G' H' hR s⟩
  obtain ⟨i, j, rfl, rfl, ht, hf⟩ := hh
  refine ⟨CmpI op i j, rI0_go, fun e => (ht e).imp fun _ d3 h3 => ?_, hf⟩
  obtain ⟨k, rfl, hR⟩ := h3
  exact ⟨CmpI op' j k, rI0_go, hR⟩
end
end DL

/-! DL3: attributes, dicts, calls. -/
namespace DL
open PySem L2

section
variable {K : PySem.W.Frag} {G : Gh}
theorem RepF.get {f : Str} {d : D} : ∀ {fs : List (Str × D)} {vs : List (Str × V)}, RepF K G fs vs → fs.lookup f = some d → ∃ v, vs.lookup f = some v ∧ Rep K G d v
  | _, _, .nil, e => by cases e
  | _, _, .cons (k := k) (x := x) (v := v) (xs := xs) (vs := vs) r q, e => by
    by_cases h : f = k
    · subst h
      rw [List.lookup_cons, show (f == f) = true from by simp] at e
      cases e
      exact ⟨v, by rw [List.lookup_cons, show (f == f) = true from by simp], r⟩
    · have hb : (f == k) = false := by simpa using h
      rw [List.lookup_cons, hb] at e
      obtain ⟨v', e', r'⟩ := RepF.get (f := f) q e
      exact ⟨v', by rw [List.lookup_cons, hb]; exact e', r'⟩
theorem RepF.none {f : Str} : ∀ {fs : List (Str × D)} {vs : List (Str × V)}, RepF K G fs vs → fs.lookup f = Option.none → vs.lookup f = Option.none
  | _, _, .nil, e => rfl
  | _, _, .cons (k := k) (x := x) (v := v) (xs := xs) (vs := vs) r q, e => by
    by_cases h : f = k
    · subst h
      rw [List.lookup_cons, show (f == f) = true from by simp] at e
      cases e
    · have hb : (f == k) = false := by simpa using h
      rw [List.lookup_cons, hb] at e
      rw [List.lookup_cons, hb]
      exact RepF.none (f := f) q e
theorem RepF.length : ∀ {fs : List (Str × D)} {vs : List (Str × V)}, RepF K G fs vs → fs.length = vs.length
  | _, _, .nil => rfl
  | _, _, .cons _ q => congrArg (· + 1) (RepF.length q)
/-- a key as data -/
def kD : Key → D
  | .inl i => .int i
  | .inr x => .str x
theorem rep_kD {k : Key} {v : V} (r : Rep K G (kD k) v) : v = kV k := by
  cases k with
  | inl i => cases r; rfl
  | inr x => cases r; rfl
theorem rep_kDs : ∀ {ks : List Key} {vs : List V}, Reps K G (ks.map kD) vs → vs = ks.map kV
  | [], _, .nil => rfl
  | k :: ks, _, .cons r q => by rw [rep_kD r, rep_kDs q]; rfl
def valD {κ : Type} [DecidableEq κ] (kvs : List (κ × D)) (k : κ) : Option D := (kvs.find? fun kv => decide (kv.1 = k)).map (·.2)
def RepOp (K : PySem.W.Frag) (G : Gh) : Option D → Option V → Prop
  | none, none => True
  | some d, some v => Rep K G d v
  | _, _ => False
theorem RepK.val {k : Key} : ∀ {xs : List (Key × D)} {vs : List (Key × V)}, RepK K G xs vs → RepOp K G (valD xs k) (valV vs k)
  | _, _, .nil => trivial
  | _, _, .cons (k := k') (x := x) (v := v) (xs := xs) (vs := vs) r q => by
    unfold valD valV
    by_cases h : k' = k
    · rw [List.find?_cons_of_pos (by simpa using h), List.find?_cons_of_pos (by simpa using h)]; exact r
    · rw [List.find?_cons_of_neg (by simpa using h), List.find?_cons_of_neg (by simpa using h)]; exact RepK.val q
theorem RepT.val {k : List Key} : ∀ {xs : List (List Key × D)} {vs : List (List Key × V)}, RepT K G xs vs → RepOp K G (valD xs k) (valV vs k)
  | _, _, .nil => trivial
  | _, _, .cons (k := k') (x := x) (v := v) (xs := xs) (vs := vs) r q => by
    unfold valD valV
    by_cases h : k' = k
    · rw [List.find?_cons_of_pos (by simpa using h), List.find?_cons_of_pos (by simpa using h)]; exact r
    · rw [List.find?_cons_of_neg (by simpa using h), List.find?_cons_of_neg (by simpa using h)]; exact RepT.val q
theorem RepK.length : ∀ {xs : List (Key × D)} {vs : List (Key × V)}, RepK K G xs vs → xs.length = vs.length
  | _, _, .nil => rfl
  | _, _, .cons _ q => congrArg (· + 1) (RepK.length q)
theorem RepT.length : ∀ {xs : List (List Key × D)} {vs : List (List Key × V)}, RepT K G xs vs → xs.length = vs.length
  | _, _, .nil => rfl
  | _, _, .cons _ q => congrArg (· + 1) (RepT.length q)
/-- what a dict has at a key -/
inductive GetD : D → D → Option D → Prop
  | k {kvs : List (Key × D)} (k : Key) : GetD (.dK kvs) (kD k) (valD kvs k)
  | t {kvs : List (List Key × D)} (k : List Key) : GetD (.dT kvs) (.tup (k.map kD)) (valD kvs k)
theorem GetD.go {H : Hp} {d y : D} {o : Option D} {v w : V} (g : GetD d y o) (E : Ext G H) (r1 : Rep K G d v) (r2 : Rep K G y w) : ∃ a o', v = .ref a ∧ DGet H a w o' ∧ RepOp K G o o' := by
  cases g with
  | k k =>
    cases r1 with
    | dK hp q =>
      rw [rep_kD r2]
      exact ⟨_, _, rfl, DGet.k (E _ _ hp), q.val⟩
  | t k =>
    cases r1 with
    | dT hp q =>
      cases r2 with
      | tup ht qt =>
        rw [rep_kDs qt] at ht
        exact ⟨_, _, rfl, DGet.t (E _ _ hp) (E _ _ ht), q.val⟩
end

section
variable {X : Cx} {ex : Exn → Prop} {Γ : En} {R : Bool → D → Prop} {pos p apos : Pos}
/-! ### attributes -/
theorem ed_fld {e : Expr} {f : Str} (h : ED X ex e Γ fun _ d => ∃ C fs v, d = .ins C fs ∧ Cls X.K C ∧ NoAttr X.K C f ∧ fs.lookup f = some v ∧ R false v) (hb : attributeBase e f X.env (eval e X.env) = eval e X.env := by rfl) : ED X ex (.Attribute e f pos) Γ R := by
  intro σ G H E W tk xa Q k
  refine tW_of (pe_fld (ta := tW X e) pe_W hb) ?_
  refine ED.use (R := fun _ d => ∃ C fs v, d = .ins C fs ∧ Cls X.K C ∧ NoAttr X.K C f ∧ fs.lookup f = some v ∧ R false v) h E tk xa fun d x G1 H1 h1 s1 r1 => ?_
  obtain ⟨C, fs, v, rfl, hC, hn, hl, hR⟩ := h1
  cases r1 with
  | ins hp q =>
    obtain ⟨w, ew, rw'⟩ := q.get hl
    exact ⟨_, C, _, _, w, rfl, s1.ext _ _ hp, hC, hn, ew, k false v w G1 H1 hR s1 rw'⟩

/-! ### dicts -/
theorem ed_dget {o i : Expr} (h : ED X ex o Γ fun _ d => ED X ex i Γ fun _ y => ∃ v, GetD d y (some v) ∧ R false v) (hu : X.A.units + 1 < cLine) (hs : NoSl i := by exact fun _ _ => rfl) : ED X ex (.Subscript o i pos) Γ R := by
  intro σ G H E W tk xa Q k
  refine tW_of (pe_dget (td := tW X o) (ty := tW X i) hu pe_W pe_W hs) ?_
  refine ED.use (R := fun _ d => ED X ex i Γ fun _ y => ∃ v, GetD d y (some v) ∧ R false v) h E tk xa fun d x G1 H1 h1 s1 r1 => ?_
  refine ED.use (R := fun _ y => ∃ v, GetD d y (some v) ∧ R false v) h1 (E.go s1) tk (xa.go s1) fun y w G2 H2 h2 s2 r2 => ?_
  obtain ⟨v, g, hR⟩ := h2
  obtain ⟨a, o', rfl, dg, ro⟩ := g.go s2.ext (r1.mono s2.le) r2
  cases o' with
  | none => exact ro.elim
  | some v' => exact ⟨a, v', rfl, dg, k false v v' G2 H2 hR (s1.trans s2) ro⟩
def isDi : D → Bool
  | .dK _ => true
  | .dT _ => true
  | _ => false
theorem Rep.isD {K : PySem.W.Frag} {G : Gh} {H : Hp} {d : D} {v : V} (E : Ext G H) (r : Rep K G d v) (h : isDi d = true) : ∃ a, v = .ref a ∧ IsD H a := by
  cases r with
  | dK hp _ => exact ⟨_, rfl, .inl ⟨_, .inl (E _ _ hp)⟩⟩
  | dT hp _ => exact ⟨_, rfl, .inr ⟨_, .inl (E _ _ hp)⟩⟩
  | _ => cases h
theorem RepOp.getD {K : PySem.W.Frag} {G : Gh} {o : Option D} {o' : Option V} {d : D} {v : V} (r : RepOp K G o o') (r' : Rep K G d v) : Rep K G (o.getD d) (o'.getD v) := by
  cases o with
  | none => cases o' with
    | none => exact r'
    | some _ => exact r.elim
  | some x => cases o' with
    | none => exact r.elim
    | some _ => exact r
theorem ed_dget1 {o e : Expr} (h : ED X ex o Γ fun _ d => isDi d = true ∧ ED X ex e Γ fun _ y => ∃ v, GetD d y v ∧ R false (v.getD .non)) (hu : X.A.units + 1 < cLine) (m : M1 X o "get" apos e pos := by exact ⟨rfl, rfl, rfl, rfl⟩) : ED X ex (.Call (.Attribute o "get" apos) [e] [] pos) Γ R := by
  intro σ G H E W tk xa Q k
  refine tW_of (pe_dget1 (td := tW X o) (ty := tW X e) hu pe_W pe_W m) ?_
  refine ED.use (R := fun _ d => isDi d = true ∧ ED X ex e Γ fun _ y => ∃ v, GetD d y v ∧ R false (v.getD .non)) h E tk xa fun d x G1 H1 h1 s1 r1 => ?_
  obtain ⟨a, rfl, hd⟩ := r1.isD s1.ext h1.1
  refine ⟨a, rfl, hd, ?_⟩
  refine ED.use (R := fun _ y => ∃ v, GetD d y v ∧ R false (v.getD .non)) h1.2 (E.go s1) tk (xa.go s1) fun y w G2 H2 h2 s2 r2 => ?_
  obtain ⟨v, g, hR⟩ := h2
  obtain ⟨a', o', ea, dg, ro⟩ := g.go s2.ext (r1.mono s2.le) r2
  cases ea
  exact ⟨o', dg, k false _ _ G2 H2 hR (s1.trans s2) (ro.getD .non)⟩
theorem ed_dget2 {o e f : Expr} (h : ED X ex o Γ fun _ d => isDi d = true ∧ ED X ex e Γ fun _ y => ED X ex f Γ fun _ z => ∃ v, GetD d y v ∧ R false (v.getD z)) (hu : X.A.units + 1 < cLine) (m : M2 X o "get" apos e f pos := by exact ⟨rfl, rfl, rfl, rfl⟩) : ED X ex (.Call (.Attribute o "get" apos) [e, f] [] pos) Γ R := by
  intro σ G H E W tk xa Q k
  refine tW_of (pe_dget2 (td := tW X o) (ty := tW X e) (tx := tW X f) hu pe_W pe_W pe_W m) ?_
  refine ED.use (R := fun _ d => isDi d = true ∧ ED X ex e Γ fun _ y => ED X ex f Γ fun _ z => ∃ v, GetD d y v ∧ R false (v.getD z)) h E tk xa fun d x G1 H1 h1 s1 r1 => ?_
  obtain ⟨a, rfl, hd⟩ := r1.isD s1.ext h1.1
  refine ⟨a, rfl, hd, ?_⟩
  refine ED.use (R := fun _ y => ED X ex f Γ fun _ z => ∃ v, GetD d y v ∧ R false (v.getD z)) h1.2 (E.go s1) tk (xa.go s1) fun y w G2 H2 h2 s2 r2 => ?_
  refine ED.use (R := fun _ z => ∃ v, GetD d y v ∧ R false (v.getD z)) h2 ((E.go s1).go s2) tk ((xa.go s1).go s2) fun z u G3 H3 h3 s3 r3 => ?_
  obtain ⟨v, g, hR⟩ := h3
  obtain ⟨a', o', ea, dg, ro⟩ := g.go s3.ext (r1.mono (s2.trans s3).le) (r2.mono s3.le)
  cases ea
  exact ⟨o', dg, k false _ _ G3 H3 hR ((s1.trans s2).trans s3) (ro.getD r3)⟩
/-- y in d, y not in d -/
theorem RepOp.isSome {K : PySem.W.Frag} {G : Gh} {o : Option D} {o' : Option V} (r : RepOp K G o o') : o'.isSome = o.isSome := by
  cases o with
  | none => cases o' with
    | none => rfl
    | some _ => exact r.elim
  | some x => cases o' with
    | none => exact r.elim
    | some _ => rfl
theorem in_dict {d y : D} {o : Option D} {R : Bool → Prop} (hu : X.A.units + 1 < cLine) (g : GetD d y o) (h : R o.isSome) : CmpR X .In y d R := fun G H x z E r1 r2 pins σ s u w I ru rw' Q k => by
  obtain ⟨a, o', rfl, dg, ro⟩ := g.go E r2 r1
  obtain rfl : w = Value.ref a := rw'
  exact d_in hu I dg ru fun s' I' => ⟨.bl o.isSome, H, I', by rw [← ro.isSome]; rfl, k _ G H h (.refl E)⟩

/-! ### calls of the module's defs -/
/-- a def's promise by data: φ args what-is-returned what-is-raised -/
abbrev Ph := List D → (Bool → D → Prop) → (Exn → Prop) → Prop
def spD (K : PySem.W.Frag) (n : Nat) (φ : Ph) : Sp := fun vs H Q Ek => ∃ (G : Gh) (ds : List D) (rt : Bool → D → Prop) (xs : Exn → Prop), Ext G H ∧ Reps K G ds vs ∧ ds.length = n ∧ φ ds rt xs ∧
  (∀ o d v G' H', rt o d → Step0 G H G' H' → RepO K H G' H' o d v → Q v H') ∧ (∀ x c d G' H', xs x → Step0 G H G' H' → ExcAt K H G' H' x c d → Ek c d H')
theorem spD_len {K : PySem.W.Frag} {n : Nat} {φ : Ph} {vs : List V} {H : Hp} {Q : VK} {Ek : XK} (h : spD K n φ vs H Q Ek) : vs.length = n := by
  obtain ⟨G, ds, _, _, _, r, hl, _⟩ := h
  rw [← r.length, hl]
/-- what a def is, for its callers -/
structure FnD (P : Program) (w : World) (K : PySem.W.Frag) (mg : Str → Option Value) (base : Heap) (k : Nat) (f : Addr) (n : Nat) (φ : Ph) : Prop where
  ok : ∃ fd ps, FnOk P w K mg base (L2.CX P w) k f fd ps (spD K n φ) ∧ Binds K fd ps []
  kp : PySem.W.keepIn K (.ref f) = true
abbrev FnX (X : Cx) := FnD X.prog X.w X.K X.mg X.base
theorem ed_call {x : Str} {f : Addr} {k n : Nat} {φ : Ph} {e : Expr} {es : List Expr} (F : FnX X k f n φ) (hr : Room k X.A) (hm : X.mg x = some (.ref f)) (hg : Gl X x)
    (h : EA X ex (e :: es) Γ fun ds => ds.length = n ∧ φ ds R ex)
    (hdb : (x == ("__debug__" : Str)) = false := by decide) (he : starEach (e :: es) X.env = (false, eval e X.env) :: starEach es X.env := by rfl) (hpl : (backTo pos (starEach es X.env)).any (·.1) = false := by rfl) :
    ED X ex (.Call (.Name x p) (e :: es) [] pos) Γ R := by
  intro σ G H E W tk xa Q k
  obtain ⟨fd, ps, F1, F2⟩ := F.ok
  refine tW_of (pe_callS F1 hr hg hm F.kp F2 (E := WE W) tk.call (t := tWa X (e :: es)) pa_W hdb he hpl) ?_
  refine h σ G H E W tk xa _ fun ds vs G1 H1 h1 s1 r1 => ?_
  exact ⟨G1, ds, R, ex, s1.ext, r1, h1.1, h1.2, fun o d v G' H' hR s r => k o d v G' H' hR (s1.trans s) (r.back s1), fun x c d G' H' hx s hc => xa x c d G' H' hx (s1.trans s) (hc.older s1)⟩

/-! ### built-in functions -/
theorem ed_cb {x : Str} {id : String} {r : List V → Hp → VK → Prop} {e : Expr} {es : List Expr} (hc : CallR X (.builtin id) r) (hm : X.mg x = none) (hv : bootBuiltins x = some (.builtin id)) (hg : Gl X x)
    (h : EA X ex (e :: es) Γ fun ds => ∀ vs G H, Ext G H → Reps X.K G ds vs → ∀ Q : VK, (∀ o d v G' H', R o d → Step0 G H G' H' → RepO X.K H G' H' o d v → Q v H') → r vs H Q)
    (hn : x ≠ "__name__" := by decide) (hdb : (x == ("__debug__" : Str)) = false := by decide)
    (he : starEach (e :: es) X.env = (false, eval e X.env) :: starEach es X.env := by rfl) (hpl : (backTo pos (starEach es X.env)).any (·.1) = false := by rfl) : ED X ex (.Call (.Name x p) (e :: es) [] pos) Γ R := by
  intro σ G H E W tk xa Q k
  refine tW_of (pe_callB hc hg hm hv (t := tWa X (e :: es)) pa_W hn hdb he hpl) ?_
  refine h σ G H E W tk xa _ fun ds vs G1 H1 h1 s1 r1 => ?_
  exact h1 vs G1 H1 s1.ext r1 Q fun o d v G' H' hR s r => k o d v G' H' hR (s1.trans s) (r.back s1)
theorem ed_ct {x : Str} {T : String} {r : List V → Hp → VK → Prop} {e : Expr} {es : List Expr} (hc : CallR X (.type T) r) (hm : X.mg x = none) (hv : bootBuiltins x = some (.type T)) (hg : Gl X x)
    (h : EA X ex (e :: es) Γ fun ds => ∀ vs G H, Ext G H → Reps X.K G ds vs → ∀ Q : VK, (∀ o d v G' H', R o d → Step0 G H G' H' → RepO X.K H G' H' o d v → Q v H') → r vs H Q)
    (hn : x ≠ "__name__" := by decide) (hdb : (x == ("__debug__" : Str)) = false := by decide)
    (he : starEach (e :: es) X.env = (false, eval e X.env) :: starEach es X.env := by rfl) (hpl : (backTo pos (starEach es X.env)).any (·.1) = false := by rfl) : ED X ex (.Call (.Name x p) (e :: es) [] pos) Γ R := by
  intro σ G H E W tk xa Q k
  refine tW_of (pe_callTy hc hg hm hv (t := tWa X (e :: es)) pa_W hn hdb he hpl) ?_
  refine h σ G H E W tk xa _ fun ds vs G1 H1 h1 s1 r1 => ?_
  exact h1 vs G1 H1 s1.ext r1 Q fun o d v G' H' hR s r => k o d v G' H' hR (s1.trans s) (r.back s1)
end
end DL

/-! DL4: built-in functions and methods, by data. -/
namespace DL
open PySem L2
section
variable {X : Cx} {ex : Exn → Prop} {Γ : En} {R : Bool → D → Prop} {pos p apos : Pos}
/-! ### len -/
def lenD : D → Option Nat
  | .str x => if x.length ≤ sizeLine then some x.length else none
  | .lst xs => some xs.length
  | .tup xs => some xs.length
  | .scr ns => some ns.length
  | .dK kvs => some kvs.length
  | .dT kvs => some kvs.length
  | _ => none
theorem rep1 {K : PySem.W.Frag} {G : Gh} {d : D} {vs : List V} (r : Reps K G [d] vs) : ∃ v, vs = [v] ∧ Rep K G d v := by
  cases r with
  | cons h t => cases t; exact ⟨_, rfl, h⟩
theorem rep2 {K : PySem.W.Frag} {G : Gh} {d e : D} {vs : List V} (r : Reps K G [d, e] vs) : ∃ v w, vs = [v, w] ∧ Rep K G d v ∧ Rep K G e w := by
  cases r with
  | cons h t => obtain ⟨w, rfl, h'⟩ := rep1 t; exact ⟨_, w, rfl, h, h'⟩
theorem ed_len {e : Expr} (h : ED X ex e Γ fun _ d => ∃ n, lenD d = some n ∧ R false (.int n)) (hm : X.mg "len" = none) (hg : Gl X "len") 
    (he : starEach (e :: []) X.env = (false, eval e X.env) :: starEach [] X.env := by rfl) (hpl : (backTo pos (starEach [] X.env)).any (·.1) = false := by rfl) : ED X ex (.Call (.Name "len" p) [e] [] pos) Γ R := by
  refine ed_cb (CallR.or (CallR.or call_len call_lenD) call_len_dT) hm PySem.boot_len hg (ea_cons (h.imp fun _ d hd => ea_nil fun vs G H E r Q k => ?_) he) (by decide) (by decide) he hpl
  obtain ⟨v, rfl, rr⟩ := rep1 r
  obtain ⟨n, hl, hR⟩ := hd
  have fin := k false (.int n) (.int n) G H hR (.refl E) .int
  cases rr with
  | str =>
    rename_i x
    have hl : (if x.length ≤ sizeLine then some x.length else none) = some n := hl
    by_cases hz : x.length ≤ sizeLine
    · rw [if_pos hz] at hl; cases hl; exact .inl (.inl ⟨_, _, rfl, ⟨hz, rfl⟩, fin⟩)
    · rw [if_neg hz] at hl; cases hl
  | lst hp q => cases hl; rw [q.length] at fin; exact .inl (.inl ⟨_, _, rfl, .inl ⟨_, SqL.of (E _ _ hp), rfl⟩, fin⟩)
  | tup hp q => cases hl; rw [q.length] at fin; exact .inl (.inl ⟨_, _, rfl, .inr ⟨_, SqT.of (E _ _ hp), rfl⟩, fin⟩)
  | scr hp => cases hl; exact .inl (.inl ⟨_, _, rfl, .inl ⟨_, hp.sq E, by rw [List.length_map]⟩, fin⟩)
  | dK hp q => cases hl; rw [q.length] at fin; exact .inl (.inr ⟨_, _, rfl, E _ _ hp, fin⟩)
  | dT hp q => cases hl; rw [q.length] at fin; exact .inr ⟨_, _, rfl, E _ _ hp, fin⟩
  | _ => cases hl
/-! ### numbers -/
theorem ed_max2 {a b : Expr} (h : ED X ex a Γ fun _ d => ED X ex b Γ fun _ e => ∃ i j, d = .int i ∧ e = .int j ∧ R false (.int (max i j))) (hc : X.calm = true) (hm : X.mg "max" = none) (hg : Gl X "max")
    (h1 : starEach (a :: [b]) X.env = (false, eval a X.env) :: starEach [b] X.env := by rfl) (h2 : starEach (b :: []) X.env = (false, eval b X.env) :: starEach [] X.env := by rfl) (hpl : (backTo pos (starEach [b] X.env)).any (·.1) = false := by rfl) : ED X ex (.Call (.Name "max" p) [a, b] [] pos) Γ R := by
  refine ed_cb (call_max2 hc) hm (by decide +kernel) hg (ea_cons (h.imp fun _ d hd => ea_cons (hd.imp fun _ e he => ea_nil fun vs G H E r Q k => ?_) h2) h1) (by decide) (by decide) h1 hpl
  obtain ⟨i, j, rfl, rfl, hR⟩ := he
  obtain ⟨v, w, rfl, r1, r2⟩ := rep2 r
  cases r1; cases r2
  refine ⟨i, j, rfl, ?_⟩
  have e : (if j > i then j else i) = max i j := by omega
  rw [e]
  exact k false _ _ G H hR (.refl E) .int
theorem ed_min2 {a b : Expr} (h : ED X ex a Γ fun _ d => ED X ex b Γ fun _ e => ∃ i j, d = .int i ∧ e = .int j ∧ R false (.int (min i j))) (hc : X.calm = true) (hm : X.mg "min" = none) (hg : Gl X "min")
    (h1 : starEach (a :: [b]) X.env = (false, eval a X.env) :: starEach [b] X.env := by rfl) (h2 : starEach (b :: []) X.env = (false, eval b X.env) :: starEach [] X.env := by rfl) (hpl : (backTo pos (starEach [b] X.env)).any (·.1) = false := by rfl) : ED X ex (.Call (.Name "min" p) [a, b] [] pos) Γ R := by
  refine ed_cb (call_min2 hc) hm (by decide +kernel) hg (ea_cons (h.imp fun _ d hd => ea_cons (hd.imp fun _ e he => ea_nil fun vs G H E r Q k => ?_) h2) h1) (by decide) (by decide) h1 hpl
  obtain ⟨i, j, rfl, rfl, hR⟩ := he
  obtain ⟨v, w, rfl, r1, r2⟩ := rep2 r
  cases r1; cases r2
  refine ⟨i, j, rfl, ?_⟩
  have e : (if j < i then j else i) = min i j := by omega
  rw [e]
  exact k false _ _ G H hR (.refl E) .int
/-- max, min of one list of ints -/
theorem ed_maxL {a : Expr} (h : ED X ex a Γ fun _ d => ∃ ns : List Int, d = .lst (ns.map D.int) ∧ 0 < ns.length ∧ ∀ m, m ∈ ns → (∀ y ∈ ns, y ≤ m) → R false (.int m)) (hc : X.calm = true) (hm : X.mg "max" = none) (hg : Gl X "max")
    (h1 : starEach (a :: []) X.env = (false, eval a X.env) :: starEach [] X.env := by rfl) (hpl : (backTo pos (starEach [] X.env)).any (·.1) = false := by rfl) : ED X ex (.Call (.Name "max" p) [a] [] pos) Γ R := by
  refine ed_cb (cr_max hc) hm (by decide +kernel) hg (ea_cons (h.imp fun _ d hd => ea_nil fun vs G H E r Q k => ?_) h1) (by decide) (by decide) h1 hpl
  obtain ⟨ns, rfl, h0, hR⟩ := hd
  obtain ⟨v, rfl, rr⟩ := rep1 r
  cases rr with
  | lst hp q =>
    rw [q.ints] at hp
    exact ⟨_, ns, rfl, SqL.of (E _ _ hp), h0, fun m h1 h2 => k false _ _ G H (hR m h1 h2) (.refl E) .int⟩
theorem ed_minL {a : Expr} (h : ED X ex a Γ fun _ d => ∃ ns : List Int, d = .lst (ns.map D.int) ∧ 0 < ns.length ∧ ∀ m, m ∈ ns → (∀ y ∈ ns, m ≤ y) → R false (.int m)) (hc : X.calm = true) (hm : X.mg "min" = none) (hg : Gl X "min")
    (h1 : starEach (a :: []) X.env = (false, eval a X.env) :: starEach [] X.env := by rfl) (hpl : (backTo pos (starEach [] X.env)).any (·.1) = false := by rfl) : ED X ex (.Call (.Name "min" p) [a] [] pos) Γ R := by
  refine ed_cb (cr_min hc) hm (by decide +kernel) hg (ea_cons (h.imp fun _ d hd => ea_nil fun vs G H E r Q k => ?_) h1) (by decide) (by decide) h1 hpl
  obtain ⟨ns, rfl, h0, hR⟩ := hd
  obtain ⟨v, rfl, rr⟩ := rep1 r
  cases rr with
  | lst hp q =>
    rw [q.ints] at hp
    exact ⟨_, ns, rfl, SqL.of (E _ _ hp), h0, fun m h1 h2 => k false _ _ G H (hR m h1 h2) (.refl E) .int⟩
theorem ed_sum {a : Expr} (h : ED X ex a Γ fun _ d => ∃ ns : List Int, d = .lst (ns.map D.int) ∧ R false (.int ns.sum)) (hc : X.calm = true) (hm : X.mg "sum" = none) (hg : Gl X "sum")
    (h1 : starEach (a :: []) X.env = (false, eval a X.env) :: starEach [] X.env := by rfl) (hpl : (backTo pos (starEach [] X.env)).any (·.1) = false := by rfl) : ED X ex (.Call (.Name "sum" p) [a] [] pos) Γ R := by
  refine ed_cb (cr_sum hc) hm (by decide +kernel) hg (ea_cons (h.imp fun _ d hd => ea_nil fun vs G H E r Q k => ?_) h1) (by decide) (by decide) h1 hpl
  obtain ⟨ns, rfl, hR⟩ := hd
  obtain ⟨v, rfl, rr⟩ := rep1 r
  cases rr with
  | lst hp q =>
    rw [q.ints] at hp
    exact ⟨_, ns, rfl, SqL.of (E _ _ hp), k false _ _ G H hR (.refl E) .int⟩
/-- str(n) -/
theorem ed_strI {a : Expr} (h : ED X ex a Γ fun _ d => ∃ i : Int, d = .int i ∧ i.natAbs.log2 < 1920 ∧ R false (.str (toString i))) (hm : X.mg "str" = none) (hg : Gl X "str")
    (h1 : starEach (a :: []) X.env = (false, eval a X.env) :: starEach [] X.env := by rfl) (hpl : (backTo pos (starEach [] X.env)).any (·.1) = false := by rfl) : ED X ex (.Call (.Name "str" p) [a] [] pos) Γ R := by
  refine ed_ct call_str_int hm (by decide +kernel) hg (ea_cons (h.imp fun _ d hd => ea_nil fun vs G H E r Q k => ?_) h1) (by decide) (by decide) h1 hpl
  obtain ⟨i, rfl, h0, hR⟩ := hd
  obtain ⟨v, rfl, rr⟩ := rep1 r
  cases rr
  exact ⟨i, rfl, h0, k false _ _ G H hR (.refl E) .str⟩
/-- int(text), int(truth), int(n) -/
theorem ed_intS {a : Expr} (h : ED X ex a Γ fun _ d => ∃ (s : Str) (n : Int), d = .str s ∧ PySem.intText? s = some n ∧ s.length ≤ 640 ∧ R false (.int n)) (hm : X.mg "int" = none) (hg : Gl X "int")
    (h1 : starEach (a :: []) X.env = (false, eval a X.env) :: starEach [] X.env := by rfl) (hpl : (backTo pos (starEach [] X.env)).any (·.1) = false := by rfl) : ED X ex (.Call (.Name "int" p) [a] [] pos) Γ R := by
  refine ed_ct call_int_str hm (by decide +kernel) hg (ea_cons (h.imp fun _ d hd => ea_nil fun vs G H E r Q k => ?_) h1) (by decide) (by decide) h1 hpl
  obtain ⟨s, n, rfl, h0, hl, hR⟩ := hd
  obtain ⟨v, rfl, rr⟩ := rep1 r
  cases rr
  exact ⟨s, n, rfl, h0, hl, k false _ _ G H hR (.refl E) .int⟩
theorem ed_intB {a : Expr} (h : ED X ex a Γ fun _ d => ∃ b, d = .bl b ∧ R false (.int (if b then 1 else 0))) (hm : X.mg "int" = none) (hg : Gl X "int")
    (h1 : starEach (a :: []) X.env = (false, eval a X.env) :: starEach [] X.env := by rfl) (hpl : (backTo pos (starEach [] X.env)).any (·.1) = false := by rfl) : ED X ex (.Call (.Name "int" p) [a] [] pos) Γ R := by
  refine ed_ct call_int1 hm (by decide +kernel) hg (ea_cons (h.imp fun _ d hd => ea_nil fun vs G H E r Q k => ?_) h1) (by decide) (by decide) h1 hpl
  obtain ⟨b, rfl, hR⟩ := hd
  obtain ⟨v, rfl, rr⟩ := rep1 r
  cases rr
  exact .inr ⟨b, rfl, k false _ _ G H hR (.refl E) .int⟩

/-! ### list(xs), list(text) -/
theorem ed_listL {a : Expr} (h : ED X ex a Γ fun _ d => ∃ xs, (d = .lst xs ∨ d = .tup xs) ∧ R true (.lst xs)) (hm : X.mg "list" = none) (hg : Gl X "list")
    (h1 : starEach (a :: []) X.env = (false, eval a X.env) :: starEach [] X.env := by rfl) (hpl : (backTo pos (starEach [] X.env)).any (·.1) = false := by rfl) : ED X ex (.Call (.Name "list" p) [a] [] pos) Γ R := by
  refine ed_ct call_list_of hm (by decide +kernel) hg (ea_cons (h.imp fun _ d hd => ea_nil fun vs G H E r Q k => ?_) h1) (by decide) (by decide) h1 hpl
  obtain ⟨xs, hd, hR⟩ := hd
  obtain ⟨v, rfl, rr⟩ := rep1 r
  rcases hd with rfl | rfl
  · cases rr with
    | lst hp q => exact ⟨_, _, rfl, .inl (SqL.of (E _ _ hp)), newL E q hR k⟩
  · cases rr with
    | tup hp q => exact ⟨_, _, rfl, .inr (SqT.of (E _ _ hp)), newL E q hR k⟩

/-! ### isinstance with a built-in type -/
def isiD (T : String) : D → Option Bool
  | .non => some (T == "NoneType")
  | .bl _ => some (T == "bool" || T == "int")
  | .int _ => some (T == "int")
  | .str _ => some (T == "str")
  | .lst _ => some (T == "list")
  | .scr _ => some (T == "list")
  | .tup _ => some (T == "tuple")
  | .dK _ => some (T == "dict")
  | .dT _ => some (T == "dict")
  | _ => none
def tyOf : D → Option String
  | .non => some "NoneType"
  | .bl _ => some "bool"
  | .int _ => some "int"
  | .str _ => some "str"
  | .lst _ => some "list"
  | .scr _ => some "list"
  | .tup _ => some "tuple"
  | .dK _ => some "dict"
  | .dT _ => some "dict"
  | _ => none
theorem Rep.tyX {K : PySem.W.Frag} {G : Gh} {H : Hp} {d : D} {v : V} {t : String} (E : Ext G H) (r : Rep K G d v) (h : tyOf d = some t) : TyX K H v (.type t) := by
  cases r with
  | non => cases h; exact .base .non
  | bl => cases h; exact .base (.bl _)
  | int => cases h; exact .base (.int _)
  | str => cases h; exact .base (.str _)
  | lst hp _ => cases h; exact .base (.lst (E _ _ hp))
  | tup hp _ => cases h; exact .base (.tup (E _ _ hp))
  | dK hp _ => cases h; exact .base (.dK (E _ _ hp))
  | dT hp _ => cases h; exact .base (.dT (E _ _ hp))
  | scr hp =>
    cases h
    rcases hp with ⟨o, hp⟩ | ⟨o, its, n, h1, h2, _⟩
    · exact .base (.frz (E _ _ hp))
    · exact .kList h1 h2
  | _ => cases h
def T5 : List String := ["int", "bool", "str", "list", "tuple"]
theorem kit5 : ∀ t ∈ ["NoneType", "bool", "int", "str", "list", "tuple", "dict"], ∀ T ∈ T5, kitB t T = some (t == T || (t == "bool" && T == "int")) := by decide +kernel
theorem ed_isi {a : Expr} {T : String} {x2 : Str} {p2 : Pos} (h : ED X ex a Γ fun _ d => ∃ b, isiD T d = some b ∧ R false (.bl b)) (hT : T ∈ T5) (hm : X.mg "isinstance" = none) (hg : Gl X "isinstance")
    (hm2 : X.mg x2 = none) (hv2 : bootBuiltins x2 = some (.type T)) (hg2 : Gl X x2) (hn2 : x2 ≠ "__name__" := by decide) (hd2 : (x2 == ("__debug__" : Str)) = false := by decide)
    (h1 : starEach (a :: [.Name x2 p2]) X.env = (false, eval a X.env) :: starEach [.Name x2 p2] X.env := by rfl) (h2 : starEach (.Name x2 p2 :: []) X.env = (false, eval (.Name x2 p2) X.env) :: starEach [] X.env := by rfl)
    (hpl : (backTo pos (starEach [.Name x2 p2] X.env)).any (·.1) = false := by rfl) : ED X ex (.Call (.Name "isinstance" p) [a, .Name x2 p2] [] pos) Γ R := by
  refine ed_cb call_isi hm (by decide +kernel) hg (ea_cons (h.imp fun _ d hd => ea_cons (ed_c (pe_bltn hg2 hm2 hv2 (v := .ty T) rfl hn2 hd2) (fun _ => .ty) (ea_nil fun vs G H E r Q k => ?_)) h2) h1) (by decide) (by decide) h1 hpl
  obtain ⟨b, hb, hR⟩ := hd
  obtain ⟨v, w, rfl, r1, r2⟩ := rep2 r
  cases r2
  have fin := k false (.bl b) (.bl b) G H hR (.refl E) .bl
  have go : ∀ t, tyOf d = some t → t ∈ ["NoneType", "bool", "int", "str", "list", "tuple", "dict"] → (t == T || (t == "bool" && T == "int")) = b → rIsi X.K [v, .ty T] H Q := fun t ht hmem e =>
    ⟨v, .ty T, .type t, .type T, b, rfl, .ty T, r1.tyX E ht, kit_ty (by rw [kit5 t hmem T hT, e]), fin⟩
  have ne : ∀ {s u : String}, (s == u) = (u == s) := fun {s u} => by
    by_cases e : s = u
    · rw [e]
    · rw [beq_eq_false_iff_ne.mpr e, beq_eq_false_iff_ne.mpr (Ne.symm e)]
  cases r1 with
  | non => cases hb; exact go "NoneType" rfl (by decide) (by rw [ne]; simp)
  | bl => cases hb; exact go "bool" rfl (by decide) (by rw [ne]; simp)
  | int => cases hb; exact go "int" rfl (by decide) (by rw [ne]; simp)
  | str => cases hb; exact go "str" rfl (by decide) (by rw [ne]; simp)
  | lst hp q => cases hb; exact go "list" rfl (by decide) (by rw [ne]; simp)
  | scr hp => cases hb; exact go "list" rfl (by decide) (by rw [ne]; simp)
  | tup hp q => cases hb; exact go "tuple" rfl (by decide) (by rw [ne]; simp)
  | dK hp q => cases hb; exact go "dict" rfl (by decide) (by rw [ne]; simp)
  | dT hp q => cases hb; exact go "dict" rfl (by decide) (by rw [ne]; simp)
  | _ => cases hb

/-! ### methods of texts -/
theorem ed_m1 {id : String} {name : Str} {r : V → List V → Hp → VK → Prop} {o e : Expr} (slot : Slot "str" name id) (ty : typeOf (.builtin id) = pure (.type "method_descriptor")) (rule : MtR X id r)
    (h : ED X ex o Γ fun _ d => ∃ a, d = .str a ∧ ED X ex e Γ fun _ f => ∀ v G H, Ext G H → Rep X.K G f v → ∀ Q : VK, (∀ o d v G' H', R o d → Step0 G H G' H' → RepO X.K H G' H' o d v → Q v H') → r (.str a) [v] H Q)
    (hs : starEach [e] X.env = [(false, eval e X.env)] := by rfl) (hbase : attributeBase o name X.env (eval o X.env) = eval o X.env := by rfl) (hline : (apos.endLine == pos.line) = true := by rfl) : ED X ex (.Call (.Attribute o name apos) [e] [] pos) Γ R := by
  intro σ G H E W tk xa Q k
  refine tW_of (pe_m1 (to := tW X o) (te := tW X e) slot ty rule pe_W pe_W hs hbase hline) ?_
  refine ED.use (R := fun _ d => ∃ a, d = .str a ∧ ED X ex e Γ fun _ f => ∀ v G H, Ext G H → Rep X.K G f v → ∀ Q : VK, (∀ o d v G' H', R o d → Step0 G H G' H' → RepO X.K H G' H' o d v → Q v H') → r (.str a) [v] H Q) h E tk xa fun d v G1 H1 h1 s1 r1 => ?_
  obtain ⟨a, rfl, h1⟩ := h1
  cases r1
  refine ⟨⟨a, rfl⟩, ?_⟩
  refine ED.use (R := fun _ f => ∀ v G H, Ext G H → Rep X.K G f v → ∀ Q : VK, (∀ o d v G' H', R o d → Step0 G H G' H' → RepO X.K H G' H' o d v → Q v H') → r (.str a) [v] H Q) h1 (E.go s1) tk (xa.go s1) fun f w G2 H2 h2 s2 r2 => ?_
  exact h2 w G2 H2 s2.ext r2 Q fun o d v G' H' hR s r => k o d v G' H' hR ((s1.trans s2).trans s) (r.back (s1.trans s2))
theorem ed_join {o e : Expr} (h : ED X ex o Γ fun _ d => ∃ a : Str, d = .str a ∧ ED X ex e Γ fun _ f => ∃ ys : List Str, f = .lst (ys.map D.str) ∧ (ys.map (·.length)).sum + ys.length * a.length ≤ 16777216 ∧ R false (.str (Txt.join a ys)))
    (hs : starEach [e] X.env = [(false, eval e X.env)] := by rfl) (hbase : attributeBase o "join" X.env (eval o X.env) = eval o X.env := by rfl) (hline : (apos.endLine == pos.line) = true := by rfl) : ED X ex (.Call (.Attribute o "join" apos) [e] [] pos) Γ R :=
  ed_m1 PySem.F.slot_str_join PySem.F.type_str_join mt_join (h.imp fun _ d ⟨a, e, h1⟩ => ⟨a, e, h1.imp fun _ f ⟨ys, ef, hz, hR⟩ v G H E r Q k => by
    subst ef
    cases r with
    | lst hp q =>
      rw [q.strs] at hp
      exact ⟨a, _, ys, rfl, rfl, .inl (SqL.of (E _ _ hp)), hz, k _ _ _ G H hR (.refl E) .str⟩⟩) hs hbase hline
theorem ed_split {o e : Expr} (h : ED X ex o Γ fun _ d => ∃ a : Str, d = .str a ∧ ED X ex e Γ fun _ f => ∃ b : Str, f = .str b ∧ (b.length == 0) = false ∧ a.length + 2 ≤ sizeLine ∧ R true (.lst ((Txt.split a b).map D.str)))
    (hs : starEach [e] X.env = [(false, eval e X.env)] := by rfl) (hbase : attributeBase o "split" X.env (eval o X.env) = eval o X.env := by rfl) (hline : (apos.endLine == pos.line) = true := by rfl) : ED X ex (.Call (.Attribute o "split" apos) [e] [] pos) Γ R :=
  ed_m1 PySem.F.slot_str_split PySem.F.type_str_split mt_split (h.imp fun _ d ⟨a, e, h1⟩ => ⟨a, e, h1.imp fun _ f ⟨b, ef, hz, hl, hR⟩ v G H E r Q k => by
    subst ef
    cases r
    exact ⟨a, b, rfl, rfl, hz, hl, newL E (Reps.ofStrs _) hR k⟩⟩) hs hbase hline
theorem ed_startswith {o e : Expr} (h : ED X ex o Γ fun _ d => ∃ a : Str, d = .str a ∧ ED X ex e Γ fun _ f => ∃ b : Str, f = .str b ∧ R false (.bl (Txt.startswith a b)))
    (hs : starEach [e] X.env = [(false, eval e X.env)] := by rfl) (hbase : attributeBase o "startswith" X.env (eval o X.env) = eval o X.env := by rfl) (hline : (apos.endLine == pos.line) = true := by rfl) : ED X ex (.Call (.Attribute o "startswith" apos) [e] [] pos) Γ R :=
  ed_m1 PySem.F.slot_str_startswith PySem.F.type_str_startswith mt_startswith (h.imp fun _ d ⟨a, e, h1⟩ => ⟨a, e, h1.imp fun _ f ⟨b, ef, hR⟩ v G H E r Q k => by
    subst ef
    cases r
    exact ⟨a, b, rfl, rfl, k _ _ _ G H hR (.refl E) .bl⟩⟩) hs hbase hline
end
end DL

/-! DL5: statements, loops, comprehensions, by data. -/
namespace DL
open PySem L2

theorem set_get {α : Type} {l : List α} {i j : Nat} {a b : α} (h : (l.set i a)[j]? = some b) : (j = i ∧ b = a) ∨ (j ≠ i ∧ l[j]? = some b) := by
  by_cases e : j = i
  · subst e
    by_cases hl : j < l.length
    · rw [List.getElem?_set_self hl] at h
      cases h
      exact .inl ⟨rfl, rfl⟩
    · rw [List.getElem?_eq_none (by rw [List.length_set]; omega)] at h
      cases h
  · rw [List.getElem?_set_ne (Ne.symm e)] at h
    exact .inr ⟨e, h⟩

section
variable {K : PySem.W.Frag} {F : Fm} {G G1 : Gh} {H H1 : Hp} {σ : St} {Γ : En}
/-- slot i takes a known value -/
theorem Loc.setv {i : Nat} {d : D} {v : V} (E : Loc K G H σ Γ) (r : Rep K G d v) : Loc K G H (σ.set i (some v)) (Γ.set i (some (false, d))) where
  len := by rw [List.length_set, List.length_set]; exact E.len
  ext := E.ext
  val := fun j e h => by
    rcases set_get h with ⟨rfl, he⟩ | ⟨hj, h⟩
    · cases he
      have hl : j < σ.length := by
        rw [E.len]
        have := (List.getElem?_eq_some_iff.mp h).1
        rw [List.length_set] at this
        exact this
      exact ⟨v, by rw [List.getElem?_set_self hl], r⟩
    · obtain ⟨w, h1, h2⟩ := E.val j e h
      exact ⟨w, by rw [List.getElem?_set_ne (Ne.symm hj)]; exact h1, h2⟩
  own := fun j e h => by
    rcases set_get h with ⟨rfl, he⟩ | ⟨hj, h⟩
    · cases he
    · obtain ⟨p, h1, h2, h3⟩ := E.own j e h
      exact ⟨p, by rw [List.getElem?_set_ne (Ne.symm hj)]; exact h1, h2, h3⟩
  dis := fun j l d e p hjl h1 h2 h3 h4 => by
    rcases set_get h1 with ⟨rfl, he⟩ | ⟨hj, h1⟩
    · cases he
    · rcases set_get h2 with ⟨rfl, he⟩ | ⟨hl, h2⟩
      · cases he
      · rw [List.getElem?_set_ne (Ne.symm hj)] at h3
        rw [List.getElem?_set_ne (Ne.symm hl)] at h4
        exact E.dis j l d e p hjl h1 h2 h3 h4
/-- slot i takes a new own object -/
theorem Loc.seto {i : Nat} {d : D} {p : Addr} (E : Loc K G H σ Γ) (E1 : Loc K G1 H1 σ Γ) (hn : H p = none) (n : G1 p = none) (w : OwnAt K G1 H1 p d) : Loc K G1 H1 (σ.set i (some (.ref p))) (Γ.set i (some (true, d))) where
  len := by rw [List.length_set, List.length_set]; exact E.len
  ext := E1.ext
  val := fun j e h => by
    rcases set_get h with ⟨rfl, he⟩ | ⟨hj, h⟩
    · cases he
    · obtain ⟨w, h1, h2⟩ := E1.val j e h
      exact ⟨w, by rw [List.getElem?_set_ne (Ne.symm hj)]; exact h1, h2⟩
  own := fun j e h => by
    rcases set_get h with ⟨rfl, he⟩ | ⟨hj, h⟩
    · cases he
      have hl : j < σ.length := by
        rw [E.len]
        have := (List.getElem?_eq_some_iff.mp h).1
        rw [List.length_set] at this
        exact this
      exact ⟨p, by rw [List.getElem?_set_self hl], n, w⟩
    · obtain ⟨q, h1, h2, h3⟩ := E1.own j e h
      exact ⟨q, by rw [List.getElem?_set_ne (Ne.symm hj)]; exact h1, h2, h3⟩
  dis := fun j l d1 e q hjl h1 h2 h3 h4 => by
    have old : ∀ (m : Nat) (f : D), Γ[m]? = some (some (true, f)) → σ[m]? = some (some (.ref p)) → False := fun m f g1 g2 => by
      obtain ⟨q', a1, a2, a3⟩ := E.own m f g1
      rw [g2] at a1; cases a1
      obtain ⟨o, ho⟩ := a3.there
      rw [hn] at ho; cases ho
    have atI : ∀ (m : Nat) (q : Addr), m < σ.length → (σ.set m (some (V.ref p)))[m]? = some (some (.ref q)) → q = p := fun m q hm g => by
      rw [List.getElem?_set_self hm] at g; cases g; rfl
    have lt : ∀ (m : Nat) (f : D), (Γ.set i (some (true, d)))[m]? = some (some (true, f)) → m < σ.length := fun m f g => by
      have := (List.getElem?_eq_some_iff.mp g).1
      rw [List.length_set] at this
      rw [E.len]; exact this
    have hj' := lt j _ h1
    have hl' := lt l _ h2
    rcases set_get h1 with ⟨e1, _⟩ | ⟨hj, g1⟩
    · rcases set_get h2 with ⟨e2, _⟩ | ⟨hl, g2⟩
      · exact hjl (e1.trans e2.symm)
      · subst e1
        have := atI j q hj' h3; subst this
        rw [List.getElem?_set_ne (Ne.symm hl)] at h4
        exact old l e g2 h4
    · rcases set_get h2 with ⟨e2, _⟩ | ⟨hl, g2⟩
      · subst e2
        have := atI l q hl' h4; subst this
        rw [List.getElem?_set_ne (Ne.symm hj)] at h3
        exact old j _ g1 h3
      · rw [List.getElem?_set_ne (Ne.symm hj)] at h3
        rw [List.getElem?_set_ne (Ne.symm hl)] at h4
        exact E1.dis j l _ e q hjl g1 g2 h3 h4
theorem EnvOk.setv {i : Nat} {d : D} {v : V} (E : EnvOk K F G H σ Γ) (r : Rep K G d v) : EnvOk K F G H (σ.set i (some v)) (Γ.set i (some (false, d))) :=
  ⟨E.loc.setv r, E.step, fun j e p h1 h2 => by
    rcases set_get h1 with ⟨rfl, he⟩ | ⟨hj, h1⟩
    · cases he
    · rw [List.getElem?_set_ne (Ne.symm hj)] at h2
      exact E.lent j e p h1 h2⟩
theorem EnvOk.seto {i : Nat} {d : D} {p : Addr} (E : EnvOk K F G H σ Γ) (s : Step0 G H G1 H1) (hn : H p = none) (n : G1 p = none) (w : OwnAt K G1 H1 p d) : EnvOk K F G1 H1 (σ.set i (some (.ref p))) (Γ.set i (some (true, d))) :=
  ⟨E.loc.seto (E.loc.go s) hn n w, (E.go s).step, fun j e q h1 h2 => by
    rcases set_get h1 with ⟨rfl, he⟩ | ⟨hj, h1⟩
    · have hl : j < σ.length := by
        have := (List.getElem?_eq_some_iff.mp h2).1
        rw [List.length_set] at this
        exact this
      rw [List.getElem?_set_self hl] at h2
      cases h2
      exact .inl (E.step.free hn)
    · rw [List.getElem?_set_ne (Ne.symm hj)] at h2
      exact E.lent j e q h1 h2⟩
/-- a slot forgotten -/
theorem EnvOk.drop {i : Nat} (E : EnvOk K F G H σ Γ) : EnvOk K F G H σ (Γ.set i none) := by
  have g : ∀ {j : Nat} {b : Bool} {e : D}, (Γ.set i none)[j]? = some (some (b, e)) → Γ[j]? = some (some (b, e)) := fun {j b e} h => by
    rcases set_get h with ⟨rfl, he⟩ | ⟨_, h⟩
    · cases he
    · exact h
  exact ⟨⟨by rw [List.length_set]; exact E.loc.len, E.loc.ext, fun j e h => E.loc.val j e (g h), fun j e h => E.loc.own j e (g h), fun j l d e p hjl h1 h2 => E.loc.dis j l d e p hjl (g h1) (g h2)⟩, E.step, fun j e p h => E.lent j e p (g h)⟩
/-- an own slot becomes known (it must not be lent) -/
theorem EnvOk.know {i : Nat} {d : D} (E : EnvOk K F G H σ Γ) (hb : ∀ a, ¬ F.B a) (h : Γ[i]? = some (some (true, d))) : ∃ G', EnvOk K F G' H σ (Γ.set i (some (false, d))) ∧ Le G G' := by
  obtain ⟨p, h1, h2, h3⟩ := E.loc.own i d h
  obtain ⟨o, ho, r⟩ := h3.know h2
  have hf : F.H0 p = none := (E.lent i d p h h1).resolve_right (hb p)
  have hi : i < σ.length := (List.getElem?_eq_some_iff.mp h1).1
  have le : Le G (gupd G p (.ho o)) := Le.gupd h2
  have es : σ = σ.set i (some (.ref p)) := by
    apply List.ext_getElem? ; intro j
    by_cases e : j = i
    · subst e; rw [h1, List.getElem?_set_self hi]
    · rw [List.getElem?_set_ne (Ne.symm e)]
  have st : Step F.B F.G0 F.H0 (gupd G p (.ho o)) H := E.step.know hf ho h2
  have gn : ∀ {j : Nat} {e : D} {q : Addr}, j ≠ i → Γ[j]? = some (some (true, e)) → σ[j]? = some (some (.ref q)) → q ≠ p := fun {j e q} hj g1 g2 z => by
    subst z; exact E.loc.dis j i e d q hj g1 h g2 h1
  refine ⟨_, ⟨⟨by rw [List.length_set]; exact E.loc.len, st.ext, fun j e hj => ?_, fun j e hj => ?_, fun j l a b q hjl g1 g2 g3 g4 => ?_⟩, st, fun j e q g1 g2 => ?_⟩, le⟩
  · rcases set_get hj with ⟨rfl, he⟩ | ⟨_, hj⟩
    · cases he; exact ⟨_, h1, r⟩
    · obtain ⟨v, a1, a2⟩ := E.loc.val j e hj; exact ⟨v, a1, a2.mono le⟩
  · rcases set_get hj with ⟨rfl, he⟩ | ⟨hji, hj⟩
    · cases he
    · obtain ⟨q, a1, a2, a3⟩ := E.loc.own j e hj
      exact ⟨q, a1, by rw [gupd_ne (gn hji hj a1)]; exact a2, a3.mono le fun o h => h⟩
  · rcases set_get g1 with ⟨rfl, he⟩ | ⟨_, g1⟩
    · cases he
    · rcases set_get g2 with ⟨rfl, he⟩ | ⟨_, g2⟩
      · cases he
      · exact E.loc.dis j l a b q hjl g1 g2 g3 g4
  · rcases set_get g1 with ⟨rfl, he⟩ | ⟨_, g1⟩
    · cases he
    · exact E.lent j e q g1 g2
/-- an own object changed -/
theorem EnvOk.write {i : Nat} {d d' : D} {p : Addr} {o : HO} (E : EnvOk K F G H σ Γ) (h : Γ[i]? = some (some (true, d))) (hp : σ[i]? = some (some (.ref p))) (w : OwnAt K G (upd H p o) p d') : EnvOk K F G (upd H p o) σ (Γ.set i (some (true, d'))) := by
  obtain ⟨p', h1, h2, h3⟩ := E.loc.own i d h
  rw [hp] at h1; cases h1
  have gn : ∀ {j : Nat} {e : D} {q : Addr}, j ≠ i → Γ[j]? = some (some (true, e)) → σ[j]? = some (some (.ref q)) → q ≠ p := fun {j e q} hj g1 g2 z => by
    subst z; exact E.loc.dis j i e d q hj g1 h g2 hp
  have st : Step F.B F.G0 F.H0 G (upd H p o) := E.step.write (E.lent i d p h hp) h2
  refine ⟨⟨by rw [List.length_set]; exact E.loc.len, st.ext, fun j e hj => ?_, fun j e hj => ?_, fun j l a b q hjl g1 g2 g3 g4 => ?_⟩, st, fun j e q g1 g2 => ?_⟩
  · rcases set_get hj with ⟨rfl, he⟩ | ⟨_, hj⟩
    · cases he
    · exact E.loc.val j e hj
  · rcases set_get hj with ⟨rfl, he⟩ | ⟨hji, hj⟩
    · cases he; exact ⟨p, hp, h2, w⟩
    · obtain ⟨q, a1, a2, a3⟩ := E.loc.own j e hj
      exact ⟨q, a1, a2, a3.mono (Le.refl _) fun u hu => by rw [upd_ne (gn hji hj a1)]; exact hu⟩
  · have g1' : ∃ a', Γ[j]? = some (some (true, a')) := by
      rcases set_get g1 with ⟨rfl, _⟩ | ⟨_, g1⟩
      · exact ⟨d, h⟩
      · exact ⟨a, g1⟩
    have g2' : ∃ a', Γ[l]? = some (some (true, a')) := by
      rcases set_get g2 with ⟨rfl, _⟩ | ⟨_, g2⟩
      · exact ⟨d, h⟩
      · exact ⟨b, g2⟩
    obtain ⟨a', g1'⟩ := g1'
    obtain ⟨b', g2'⟩ := g2'
    exact E.loc.dis j l a' b' q hjl g1' g2' g3 g4
  · rcases set_get g1 with ⟨rfl, he⟩ | ⟨_, g1⟩
    · exact E.lent j d q h g2
    · exact E.lent j e q g1 g2
end

section
variable {X : Cx} {ex : EX} {Γ : En} {P : Po} {pos p apos : Pos}
/-! ### blocks -/
theorem wd_nil (h : P.nx Γ) : WD X ex [] Γ P := by
  intro F σ G H E W xk Dn lk
  exact tWs_of pss_nil (lk.nx G H σ Γ h E (Le.refl _))
theorem wd_cons {st : Stmt} {rest : List Stmt} (h : W1 X ex st Γ { P with nx := fun Γ' => WD X ex rest Γ' P }) : WD X ex (st :: rest) Γ P := by
  intro F σ G H E W xk Dn lk
  refine tWs_of (pss_cons (t := tW1 X st) (u := tWs X rest) ps_W pss_W) ?_
  exact h F σ G H E W xk { Dn with nx := fun σ' H' => tWs X rest Dn σ' H' } ⟨fun G' H' σ' Γ' h' E' l => h' F σ' G' H' E' W (xk.go l) Dn (lk.go l), lk.rt, lk.bk, lk.ct, lk.nb⟩
theorem wd_one {st : Stmt} (h : W1 X ex st Γ P) : WD X ex [st] Γ P := by
  intro F σ G H E W xk Dn lk
  exact tWs_of (pss_one (t := tW1 X st) ps_W) (h F σ G H E W xk Dn lk)
theorem WD.imp {st : List Stmt} {P' : Po} (h : WD X ex st Γ P) (k1 : ∀ Γ', P.nx Γ' → P'.nx Γ') (k2 : ∀ o d Γ', P.rt o d Γ' → P'.rt o d Γ') (k3 : ∀ Γ', P.bk Γ' → P'.bk Γ') (k4 : ∀ Γ', P.ct Γ' → P'.ct Γ') (k5 : P.lb = P'.lb) : WD X ex st Γ P' :=
  fun F σ G H E W xk Dn lk => h F σ G H E W xk Dn ⟨fun G' H' σ' Γ' h' => lk.nx G' H' σ' Γ' (k1 Γ' h'), fun o d v G' H' σ' Γ' h' => lk.rt o d v G' H' σ' Γ' (k2 o d Γ' h'), fun G' H' σ' Γ' h' => lk.bk G' H' σ' Γ' (k3 Γ' h'), fun G' H' σ' Γ' h' => lk.ct G' H' σ' Γ' (k4 Γ' h'), fun a h => by rw [k5]; exact lk.nb a h⟩
/-- a slot forgotten, ahead of statements -/
theorem wd_drop (i : Nat) {st : List Stmt} (h : WD X ex st (Γ.set i none) P) : WD X ex st Γ P := fun F σ G H E W xk Dn lk => h F σ G H E.drop W xk Dn lk

/-- an own slot known, ahead of statements -/
theorem wd_know (i : Nat) {d : D} {st : List Stmt} (hΓ : Γ[i]? = some (some (true, d))) (h : WD X ex st (Γ.set i (some (false, d))) P) (hB : P.lb = [] := by rfl) : WD X ex st Γ P := fun F σ G H E W xk Dn lk => by
  obtain ⟨G', E', le⟩ := E.know (fun a h => by have := lk.nb a h; rw [hB] at this; cases this) hΓ
  exact h F σ G' H E' W (xk.go le) Dn (lk.go le)

/-! ### small statements -/
theorem w_pass (h : P.nx Γ) : W1 X ex (.Pass pos) Γ P := fun F σ G H E W xk Dn lk => tW1_of ps_pass (lk.nx G H σ Γ h E (Le.refl _))
theorem w_break (h : P.bk Γ) : W1 X ex (.Break pos) Γ P := fun F σ G H E W xk Dn lk => tW1_of ps_break (lk.bk G H σ Γ h E (Le.refl _))
theorem w_continue (h : P.ct Γ) : W1 X ex (.Continue pos) Γ P := fun F σ G H E W xk Dn lk => tW1_of ps_continue (lk.ct G H σ Γ h E (Le.refl _))
/-- x = e -/
theorem w_asg {x : Str} {e : Expr} {i : Nat} {p' : Pos} (hN : X.N.Nodup) (hi : X.N[i]? = some x) (hx : L2.Loc X.env.scope x)
    (h : ED X (fun x => ex x Γ) e Γ fun o d => P.nx (Γ.set i (some (o, d)))) (hs : swapsWith e (some (.Name x p')) pos.line X.env = pure false := by rfl)
    (hf : X.fn x = true ∨ X.env.scope.names.lookup x = some .local := by first | exact .inl rfl | exact .inr rfl) : W1 X ex (.Assign [.Name x p'] e pos) Γ P := by
  intro F σ G H E W xk Dn lk
  refine tW1_of (ps_set hN hi hx (te := tW X e) pe_W hs hf) ?_
  refine h σ G H E.loc W xk.te (xk.lk.at E) _ fun o d v G1 H1 h1 s1 r1 => ?_
  cases o with
  | false => exact lk.nx G1 H1 _ _ h1 ((E.go s1).setv r1) s1.le
  | true =>
    obtain ⟨q, rfl, hn, n, w⟩ := r1
    exact lk.nx G1 H1 _ _ h1 (E.seto s1 hn n w) s1.le
/-- an expression alone -/
theorem w_expr {e : Expr} (h : ED X (fun x => ex x Γ) e Γ fun _ _ => P.nx Γ) (hs : swapsWith e none pos.line X.env = pure false := by rfl) : W1 X ex (.Expr e pos) Γ P := by
  intro F σ G H E W xk Dn lk
  refine tW1_of (ps_expr (te := tW X e) pe_W hs) ?_
  exact h σ G H E.loc W xk.te (xk.lk.at E) _ fun o d v G1 H1 h1 s1 r1 => lk.nx G1 H1 _ _ h1 (E.go s1) s1.le
theorem w_ret {e : Expr} (h : ED X (fun x => ex x Γ) e Γ fun o d => P.rt o d Γ) : W1 X ex (.Return (some e) pos) Γ P := by
  intro F σ G H E W xk Dn lk
  refine tW1_of (ps_ret (te := tW X e) pe_W) ?_
  exact h σ G H E.loc W xk.te (xk.lk.at E) _ fun o d v G1 H1 h1 s1 r1 => lk.rt o d v G1 H1 σ Γ h1 (E.go s1) (r1.back E.step) s1.le
theorem w_retN (h : P.rt false .non Γ) : W1 X ex (.Return none pos) Γ P := by
  intro F σ G H E W xk Dn lk
  exact tW1_of ps_retN (lk.rt false .non _ G H σ Γ h E .non (Le.refl _))
/-- an own list (dict) of the def's own is handed back: its slot is forgotten -/
theorem w_retO {x : Str} {i : Nat} {d : D} (hN : X.N[i]? = some x) (hv : Vis X.env.scope x) (hΓ : Γ[i]? = some (some (true, d))) (hB : P.lb = [])
    (h : P.rt true d (Γ.set i none)) (hd : (x == ("__debug__" : Str)) = false := by decide) (hcd : (x == ("__classdict__" : Str)) = false := by decide) : W1 X ex (.Return (some (.Name x p)) pos) Γ P := by
  intro F σ G H E W xk Dn lk
  refine tW1_of (ps_ret (pe_var hN hv hd hcd)) ?_
  obtain ⟨q, h1, h2, h3⟩ := E.loc.own i d hΓ
  exact ⟨_, h1, lk.rt true d _ G H σ _ h E.drop ⟨q, rfl, (E.lent i d q hΓ h1).resolve_right (fun h => by have := lk.nb q h; rw [hB] at this; cases this), h2, h3⟩ (Le.refl _)⟩
theorem w_if {c : Expr} {a b : List Stmt} (h : ET X (fun x => ex x Γ) c (frz Γ) fun t => (t = true → WD X ex a Γ P) ∧ (t = false → WD X ex b Γ P)) : W1 X ex (.If c a b pos) Γ P := by
  intro F σ G H E W xk Dn lk
  refine tW1_of (ps_if (tc := tWt X c) (t := tWs X a) (u := tWs X b) pt_W pss_W pss_W) ?_
  refine et_flat h σ G H E.loc W xk.te (xk.lk.at E) _ fun t G1 H1 h1 s1 => ?_
  cases t with
  | true => exact iteT (h1.1 rfl F σ G1 H1 (E.go s1) W (xk.go s1.le) Dn (lk.go s1.le))
  | false => exact iteF (h1.2 rfl F σ G1 H1 (E.go s1) W (xk.go s1.le) Dn (lk.go s1.le))
end
end DL

/-! DL6: changes of own things, targets, loops. -/
namespace DL
open PySem L2
section
variable {X : Cx} {ex : EX} {Γ : En} {P : Po} {pos p apos : Pos}
theorem ty_list {K : PySem.W.Frag} {H : Hp} {q : Addr} {vs : List V} (h : H q = some (.lst vs)) : tyV K "list" (.ref q) H := .inl ⟨rfl, _, SqL.of h⟩
/-- x.append(e) -/
theorem w_app {x : Str} {i : Nat} {xs : List D} {e : Expr} (hN : X.N[i]? = some x) (hv : Vis X.env.scope x) (hΓ : Γ[i]? = some (some (true, .lst xs)))
    (h : ED X (fun x => ex x Γ) e Γ fun _ d => xs.length < sizeLine ∧ P.nx (Γ.set i (some (true, .lst (xs ++ [d])))))
    (hs : swapsWith (.Call (.Attribute (.Name x p) "append" apos) [e] [] pos) none pos.line X.env = pure false := by rfl)
    (hbase : attributeBase (.Name x p) "append" X.env (eval (.Name x p) X.env) = eval (.Name x p) X.env := by rfl)
    (hfew : ((backTo pos (starEach [e] X.env)).all (fun x => !x.1) && (backToKw pos (keywordEach [] X.env)).all (fun x => x.1.isSome)
      && decide (([e] : List Expr).length + ([] : List Keyword).length + (if ([] : List Keyword).isEmpty then 0 else 1) < 30)) = true := by rfl)
    (hline : (apos.endLine == pos.line) = true := by rfl) (hs1 : starEach (e :: []) X.env = (false, eval e X.env) :: starEach [] X.env := by rfl) (hpl : (backTo pos (starEach [] X.env)).any (·.1) = false := by rfl)
    (hd : (x == ("__debug__" : Str)) = false := by decide) (hcd : (x == ("__classdict__" : Str)) = false := by decide) : W1 X ex (.Expr (.Call (.Attribute (.Name x p) "append" apos) [e] [] pos) pos) Γ P := by
  intro F σ G H E W xk Dn lk
  refine tW1_of (ps_expr (pe_bm PySem.F.plainAttrs_list PySem.F.slot_list_append PySem.F.type_list_append mt_append (pe_var hN hv hd hcd) (pa_cons (te := tW X e) (t := tWa X []) pe_W pa_W hs1) hbase hfew hline hs1 hpl) hs) ?_
  obtain ⟨q, h1, h2, h3⟩ := E.loc.own i _ hΓ
  cases h3 with
  | lst hp r =>
    refine ⟨_, h1, ty_list hp, ?_⟩
    refine ED.use (R := fun _ d => xs.length < sizeLine ∧ P.nx (Γ.set i (some (true, .lst (xs ++ [d]))))) (h.imp fun _ _ h => h) E.loc xk.te (xk.lk.at E) fun d v G1 H1 hR s1 r1 => ?_
    refine (ea_nil (ex := fun _ => False) (R := fun ds => ds = []) rfl) σ G1 H1 (E.loc.go s1) (fun _ _ _ _ => False) (.of takes0) (fun _ _ _ _ _ hx => hx.elim) _ fun ds vs G2 H2 e2 s2 r2 => ?_
    subst e2
    cases r2
    have E2 := (E.go s1).go s2
    have hp2 := s2.kept q _ (s1.kept q _ hp h2 id) (s1.gfree hp h2) id
    refine ⟨q, _, v, rfl, rfl, hp2, by rw [← r.length]; exact hR.1, ?_⟩
    refine lk.nx G2 _ σ _ hR.2 (E2.write hΓ h1 (.lst upd_same ?_)) (s1.trans s2).le
    exact ((r.mono (s1.trans s2).le)).append (.cons (r1.mono s2.le) .nil)

/-- x[i] = e, x an own list -/
theorem w_setI {x : Str} {i : Nat} {xs : List D} {e ix : Expr} {p2 : Pos} (hN : X.N[i]? = some x) (hv : Vis X.env.scope x) (hΓ : Γ[i]? = some (some (true, .lst xs)))
    (h : ED X (fun x => ex x Γ) e Γ fun _ d => ED X (fun x => ex x Γ) ix Γ fun _ y => ∃ n j, y = .int n ∧ ixN xs.length n = some j ∧ P.nx (Γ.set i (some (true, .lst (xs.set j d)))))
    (ha : ∀ v, assign (.Subscript (.Name x p) ix p2) X.env v = (do
      let ov ← holding [v] (eval (.Name x p) X.env)
      let iv ← holding [v, ov] (eval ix X.env)
      standAt p2
      holding [v, ov, iv] (setItem ov iv v)
      release [v, ov, iv] []) := by intro _; rfl)
    (hs : swapsWithSole [.Subscript (.Name x p) ix p2] e pos.line X.env = pure false := by rfl) (hw : swappedStores [.Subscript (.Name x p) ix p2] e X.env = pure none := by rfl)
    (h1 : (assignEach [.Subscript (.Name x p) ix p2] X.env).map (·.2) = [assign (.Subscript (.Name x p) ix p2) X.env] := by rfl)
    (hd : (x == ("__debug__" : Str)) = false := by decide) (hcd : (x == ("__classdict__" : Str)) = false := by decide) : W1 X ex (.Assign [.Subscript (.Name x p) ix p2] e pos) Γ P := by
  intro F σ G H E W xk Dn lk
  refine tW1_of (ps_asg (te := tW X e) pe_W (pg_sub (ti := tW X ix) (pe_var hN hv hd hcd) pe_W set_list ha) hs hw h1) ?_
  refine ED.use (R := fun _ d => ED X (fun x => ex x Γ) ix Γ fun _ y => ∃ n j, y = .int n ∧ ixN xs.length n = some j ∧ P.nx (Γ.set i (some (true, .lst (xs.set j d))))) (h.imp fun _ _ h => h) E.loc xk.te (xk.lk.at E) fun d v G1 H1 hR s1 r1 => ?_
  have E1 := E.go s1
  obtain ⟨q, h1, h2, h3⟩ := E1.loc.own i _ hΓ
  cases h3 with
  | lst hp r =>
    refine ⟨_, h1, ?_⟩
    refine ED.use (R := fun _ y => ∃ n j, y = .int n ∧ ixN xs.length n = some j ∧ P.nx (Γ.set i (some (true, .lst (xs.set j d))))) (hR.imp fun _ _ h => h) E1.loc xk.te (xk.lk.at E1 s1.le) fun y w G2 H2 hR2 s2 r2 => ?_
    obtain ⟨n, j, rfl, hj, hR2⟩ := hR2
    cases r2
    have E2 := E1.go s2
    have hp2 := s2.kept q _ hp h2 id
    refine ⟨q, _, n, j, rfl, rfl, hp2, by rw [← r.length]; exact hj, ?_⟩
    exact lk.nx G2 _ σ _ hR2 (E2.write hΓ h1 (.lst upd_same ((r.mono s2.le).set (r1.mono s2.le) j))) (s1.trans s2).le

def putD {κ : Type} [DecidableEq κ] (kvs : List (κ × D)) (k : κ) (v : D) : List (κ × D) :=
  if (kvs.any fun kv => decide (kv.1 = k)) = true then kvs.map (fun kv => if kv.1 = k then (kv.1, v) else kv) else kvs ++ [(k, v)]
theorem RepK.snoc {K : PySem.W.Frag} {G : Gh} {k : Key} {d : D} {v : V} (r : Rep K G d v) : ∀ {xs : List (Key × D)} {vs : List (Key × V)}, RepK K G xs vs → RepK K G (xs ++ [(k, d)]) (vs ++ [(k, v)])
  | _, _, .nil => .cons r .nil
  | _, _, .cons q t => .cons q (RepK.snoc r t)
theorem RepT.snoc {K : PySem.W.Frag} {G : Gh} {k : List Key} {d : D} {v : V} (r : Rep K G d v) : ∀ {xs : List (List Key × D)} {vs : List (List Key × V)}, RepT K G xs vs → RepT K G (xs ++ [(k, d)]) (vs ++ [(k, v)])
  | _, _, .nil => .cons r .nil
  | _, _, .cons q t => .cons q (RepT.snoc r t)
theorem RepK.any {K : PySem.W.Frag} {G : Gh} {k : Key} : ∀ {xs : List (Key × D)} {vs : List (Key × V)}, RepK K G xs vs → (xs.any fun kv => decide (kv.1 = k)) = (vs.any fun kv => decide (kv.1 = k))
  | _, _, .nil => rfl
  | _, _, .cons q t => by rw [List.any_cons, List.any_cons, RepK.any t]
theorem RepT.any {K : PySem.W.Frag} {G : Gh} {k : List Key} : ∀ {xs : List (List Key × D)} {vs : List (List Key × V)}, RepT K G xs vs → (xs.any fun kv => decide (kv.1 = k)) = (vs.any fun kv => decide (kv.1 = k))
  | _, _, .nil => rfl
  | _, _, .cons q t => by rw [List.any_cons, List.any_cons, RepT.any t]
theorem RepK.sets {K : PySem.W.Frag} {G : Gh} {k : Key} {d : D} {v : V} (r : Rep K G d v) : ∀ {xs : List (Key × D)} {vs : List (Key × V)}, RepK K G xs vs → RepK K G (xs.map (fun kv => if kv.1 = k then (kv.1, d) else kv)) (vs.map (fun kv => if kv.1 = k then (kv.1, v) else kv))
  | _, _, .nil => .nil
  | _, _, .cons (k := k') q t => by
    rw [List.map_cons, List.map_cons]
    by_cases e : k' = k
    · rw [if_pos e, if_pos e]; exact .cons r (RepK.sets r t)
    · rw [if_neg e, if_neg e]; exact .cons q (RepK.sets r t)
theorem RepT.sets {K : PySem.W.Frag} {G : Gh} {k : List Key} {d : D} {v : V} (r : Rep K G d v) : ∀ {xs : List (List Key × D)} {vs : List (List Key × V)}, RepT K G xs vs → RepT K G (xs.map (fun kv => if kv.1 = k then (kv.1, d) else kv)) (vs.map (fun kv => if kv.1 = k then (kv.1, v) else kv))
  | _, _, .nil => .nil
  | _, _, .cons (k := k') q t => by
    rw [List.map_cons, List.map_cons]
    by_cases e : k' = k
    · rw [if_pos e, if_pos e]; exact .cons r (RepT.sets r t)
    · rw [if_neg e, if_neg e]; exact .cons q (RepT.sets r t)
theorem RepK.put {K : PySem.W.Frag} {G : Gh} {k : Key} {d : D} {v : V} (r : Rep K G d v) {xs : List (Key × D)} {vs : List (Key × V)} (q : RepK K G xs vs) : RepK K G (putD xs k d) (putK vs k v) := by
  unfold putD putK
  rw [q.any]
  by_cases e : (vs.any fun kv => decide (kv.1 = k)) = true
  · rw [if_pos e, if_pos e]; exact q.sets r
  · rw [if_neg e, if_neg e]; exact q.snoc r
theorem RepT.put {K : PySem.W.Frag} {G : Gh} {k : List Key} {d : D} {v : V} (r : Rep K G d v) {xs : List (List Key × D)} {vs : List (List Key × V)} (q : RepT K G xs vs) : RepT K G (putD xs k d) (putK vs k v) := by
  unfold putD putK
  rw [q.any]
  by_cases e : (vs.any fun kv => decide (kv.1 = k)) = true
  · rw [if_pos e, if_pos e]; exact q.sets r
  · rw [if_neg e, if_neg e]; exact q.snoc r
/-- a dict with one more entry, or a changed one -/
inductive PutD : D → D → D → D → Prop
  | k {kvs : List (Key × D)} (k : Key) (v : D) : kvs.length < sizeLine → PutD (.dK kvs) (kD k) v (.dK (putD kvs k v))
  | t {kvs : List (List Key × D)} (k : List Key) (v : D) : kvs.length < sizeLine → PutD (.dT kvs) (.tup (k.map kD)) v (.dT (putD kvs k v))
/-- x[k] = e, x an own dict -/
theorem w_dput {x : Str} {i : Nat} {dd : D} {e ix : Expr} {p2 : Pos} (hN : X.N[i]? = some x) (hv : Vis X.env.scope x) (hΓ : Γ[i]? = some (some (true, dd)))
    (h : ED X (fun x => ex x Γ) e Γ fun _ d => ED X (fun x => ex x Γ) ix Γ fun _ y => ∃ dd', PutD dd y d dd' ∧ P.nx (Γ.set i (some (true, dd'))))
    (hu : X.A.units + 1 < cLine) (hs : swapsWith e (some (.Subscript (.Name x p) ix p2)) pos.line X.env = pure false := by rfl)
    (hd : (x == ("__debug__" : Str)) = false := by decide) (hcd : (x == ("__classdict__" : Str)) = false := by decide) : W1 X ex (.Assign [.Subscript (.Name x p) ix p2] e pos) Γ P := by
  intro F σ G H E W xk Dn lk
  refine tW1_of (ps_dput hu (tv := tW X e) (ty := tW X ix) (pe_var hN hv hd hcd) pe_W pe_W hs) ?_
  refine ED.use (R := fun _ d => ED X (fun x => ex x Γ) ix Γ fun _ y => ∃ dd', PutD dd y d dd' ∧ P.nx (Γ.set i (some (true, dd')))) (h.imp fun _ _ h => h) E.loc xk.te (xk.lk.at E) fun d v G1 H1 hR s1 r1 => ?_
  have E1 := E.go s1
  obtain ⟨q, h1, h2, h3⟩ := E1.loc.own i _ hΓ
  refine ⟨_, h1, ?_⟩
  refine ED.use (R := fun _ y => ∃ dd', PutD dd y d dd' ∧ P.nx (Γ.set i (some (true, dd')))) (hR.imp fun _ _ h => h) E1.loc xk.te (xk.lk.at E1 s1.le) fun y w G2 H2 hR2 s2 r2 => ?_
  obtain ⟨dd', hput, hR2⟩ := hR2
  have E2 := E1.go s2
  cases hput with
  | k k v' hl =>
    cases h3 with
    | dK hp r =>
      have hp2 := s2.kept q _ hp h2 id
      rw [rep_kD r2]
      refine ⟨q, _, rfl, DPut.k hp2 (by rw [← r.length]; exact hl), ?_⟩
      exact lk.nx G2 _ σ _ hR2 (E2.write hΓ h1 (.dK upd_same (RepK.put (r1.mono s2.le) (r.mono s2.le)))) (s1.trans s2).le
  | t k v' hl =>
    cases h3 with
    | dT hp r =>
      have hp2 := s2.kept q _ hp h2 id
      cases r2 with
      | tup ht qt =>
        rw [rep_kDs qt] at ht
        refine ⟨q, _, rfl, DPut.t hp2 (s2.ext _ _ ht) (by rw [← r.length]; exact hl), ?_⟩
        exact lk.nx G2 _ σ _ hR2 (E2.write hΓ h1 (.dT upd_same (RepT.put (r1.mono s2.le) (r.mono s2.le)))) (s1.trans s2).le
/-- {} -/
theorem ed_dnewK {ex : Exn → Prop} {R : Bool → D → Prop} (h : R true (.dK [])) : ED X ex (.Dict [] [] pos) Γ R := by
  intro σ G H E W tk xa Q k
  exact tW_of pe_dnewK fun q hq => k true _ _ G _ h (.alloc E.ext hq) ⟨q, rfl, hq, E.ext.gfree hq, .dK upd_same .nil⟩
theorem ed_dnewT {ex : Exn → Prop} {R : Bool → D → Prop} (h : R true (.dT [])) : ED X ex (.Dict [] [] pos) Γ R := by
  intro σ G H E W tk xa Q k
  exact tW_of pe_dnewT fun q hq => k true _ _ G _ h (.alloc E.ext hq) ⟨q, rfl, hq, E.ext.gfree hq, .dT upd_same .nil⟩
/-- x += e, ints -/
theorem w_augAdd {x : Str} {i : Nat} {a : Int} {e : Expr} {p' : Pos} (hN : X.N.Nodup) (hi : X.N[i]? = some x) (hx : L2.Loc X.env.scope x) (hΓ : Γ[i]? = some (some (false, .int a)))
    (h : ED X (fun x => ex x Γ) e Γ fun _ d => ∃ b, d = .int b ∧ P.nx (Γ.set i (some (false, .int (a + b)))))
    (hf : X.fn x = true ∨ X.env.scope.names.lookup x = some .local := by first | exact .inl rfl | exact .inr rfl) : W1 X ex (.AugAssign (.Name x p') .Add e pos) Γ P := by
  intro F σ G H E W xk Dn lk
  refine tW1_of (ps_aug hN hi hx (te := tW X e) pe_W ip_add hf) ?_
  obtain ⟨v, h1, h2⟩ := E.loc.val i _ hΓ
  cases h2
  refine ⟨_, h1, ?_⟩
  refine ED.use (R := fun _ d => ∃ b, d = .int b ∧ P.nx (Γ.set i (some (false, .int (a + b))))) (h.imp fun _ _ h => h) E.loc xk.te (xk.lk.at E) fun d v G1 H1 hR s1 r1 => ?_
  obtain ⟨b, rfl, hR⟩ := hR
  cases r1
  exact ⟨a, b, rfl, rfl, lk.nx G1 H1 _ _ hR ((E.go s1).setv .int) s1.le⟩
theorem w_augSub {x : Str} {i : Nat} {a : Int} {e : Expr} {p' : Pos} (hN : X.N.Nodup) (hi : X.N[i]? = some x) (hx : L2.Loc X.env.scope x) (hΓ : Γ[i]? = some (some (false, .int a)))
    (h : ED X (fun x => ex x Γ) e Γ fun _ d => ∃ b, d = .int b ∧ P.nx (Γ.set i (some (false, .int (a - b)))))
    (hf : X.fn x = true ∨ X.env.scope.names.lookup x = some .local := by first | exact .inl rfl | exact .inr rfl) : W1 X ex (.AugAssign (.Name x p') .Sub e pos) Γ P := by
  intro F σ G H E W xk Dn lk
  refine tW1_of (ps_aug hN hi hx (te := tW X e) pe_W ip_sub hf) ?_
  obtain ⟨v, h1, h2⟩ := E.loc.val i _ hΓ
  cases h2
  refine ⟨_, h1, ?_⟩
  refine ED.use (R := fun _ d => ∃ b, d = .int b ∧ P.nx (Γ.set i (some (false, .int (a - b))))) (h.imp fun _ _ h => h) E.loc xk.te (xk.lk.at E) fun d v G1 H1 hR s1 r1 => ?_
  obtain ⟨b, rfl, hR⟩ := hR
  cases r1
  exact ⟨a, b, rfl, rfl, lk.nx G1 H1 _ _ hR ((E.go s1).setv .int) s1.le⟩

/-! ### targets -/
theorem td_name {x : Str} {i : Nat} {d : D} {R : En → Prop} (hN : X.N.Nodup) (hi : X.N[i]? = some x) (hx : L2.Loc X.env.scope x) (h : R (Γ.set i (some (false, d)))) (hf : X.fn x = true ∨ X.env.scope.names.lookup x = some .local := by first | exact .inl rfl | exact .inr rfl) : TD X (.Name x pos) d Γ R := by
  intro F σ G H E v r Q k
  exact tWg_of (pg_name hN hi hx hf) (k _ _ G H h (E.setv r) (.refl E.loc.ext))
/-- two names -/
theorem td_two {t1 t2 : Expr} {k1 : Nat} {d1 d2 : D} {R : En → Prop} (hc : X.calm = true) (h : TD X t1 d1 Γ fun Γ' => TD X t2 d2 Γ' R)
    (hn : (assignEach [t1, t2] X.env).length = 2 := by rfl) (hst : (assignEach [t1, t2] X.env).findIdx? (·.1) = none := by rfl)
    (ha : (assignEach [t1, t2] X.env).map (·.2) = assign t1 X.env :: (assignEach [t2] X.env).map (·.2) := by rfl) (hb : (assignEach [t2] X.env).map (·.2) = assign t2 X.env :: (assignEach [] X.env).map (·.2) := by rfl) : TD X (.Tuple [t1, t2] k1 pos) (.tup [d1, d2]) Γ R := by
  intro F σ G H E v r Q k
  refine tWg_of (pg_tup hc (pgs_cons (t := tWg X t1) pg_W (pgs_cons (t := tWg X t2) pg_W pgs_nil hb) ha) hn hst) ?_
  cases r with
  | tup hp q =>
    obtain ⟨v1, v2, rfl, r1, r2⟩ := rep2 q
    refine ⟨_, _, rfl, SqT.of (E.loc.ext _ _ hp), rfl, v1, [v2], rfl, ?_⟩
    refine h F σ G H E v1 r1 _ fun Γ1 σ1 G1 H1 h1 E1 s1 => ?_
    refine ⟨v2, [], rfl, ?_⟩
    exact h1 F σ1 G1 H1 E1 v2 (r2.mono s1.le) _ fun Γ2 σ2 G2 H2 h2 E2 s2 => ⟨rfl, k Γ2 σ2 G2 H2 h2 E2 (s1.trans s2)⟩
theorem td_three {t1 t2 t3 : Expr} {k1 : Nat} {d1 d2 d3 : D} {R : En → Prop} (hc : X.calm = true) (h : TD X t1 d1 Γ fun Γ' => TD X t2 d2 Γ' fun Γ' => TD X t3 d3 Γ' R)
    (hn : (assignEach [t1, t2, t3] X.env).length = 3 := by rfl) (hst : (assignEach [t1, t2, t3] X.env).findIdx? (·.1) = none := by rfl)
    (ha : (assignEach [t1, t2, t3] X.env).map (·.2) = assign t1 X.env :: (assignEach [t2, t3] X.env).map (·.2) := by rfl) (hb : (assignEach [t2, t3] X.env).map (·.2) = assign t2 X.env :: (assignEach [t3] X.env).map (·.2) := by rfl)
    (hb3 : (assignEach [t3] X.env).map (·.2) = assign t3 X.env :: (assignEach [] X.env).map (·.2) := by rfl) : TD X (.Tuple [t1, t2, t3] k1 pos) (.tup [d1, d2, d3]) Γ R := by
  intro F σ G H E v r Q k
  refine tWg_of (pg_tup hc (pgs_cons (t := tWg X t1) pg_W (pgs_cons (t := tWg X t2) pg_W (pgs_cons (t := tWg X t3) pg_W pgs_nil hb3) hb) ha) hn hst) ?_
  cases r with
  | tup hp q =>
    cases q with
    | cons r1 q =>
      obtain ⟨v2, v3, rfl, r2, r3⟩ := rep2 q
      refine ⟨_, _, rfl, SqT.of (E.loc.ext _ _ hp), rfl, _, [v2, v3], rfl, ?_⟩
      refine h F σ G H E _ r1 _ fun Γ1 σ1 G1 H1 h1 E1 s1 => ?_
      refine ⟨v2, [v3], rfl, ?_⟩
      refine h1 F σ1 G1 H1 E1 v2 (r2.mono s1.le) _ fun Γ2 σ2 G2 H2 h2 E2 s2 => ⟨v3, [], rfl, ?_⟩
      exact h2 F σ2 G2 H2 E2 v3 (r3.mono (s1.trans s2).le) _ fun Γ3 σ3 G3 H3 h3 E3 s3 => ⟨rfl, k Γ3 σ3 G3 H3 h3 E3 ((s1.trans s2).trans s3)⟩
/-- target = e, any target -/
theorem w_asgT {tg e : Expr} (h : ED X (fun x => ex x Γ) e Γ fun _ d => TD X tg d Γ P.nx) (hs : swapsWithSole [tg] e pos.line X.env = pure false := by rfl) (hw : swappedStores [tg] e X.env = pure none := by rfl)
    (h1 : (assignEach [tg] X.env).map (·.2) = [assign tg X.env] := by rfl) : W1 X ex (.Assign [tg] e pos) Γ P := by
  intro F σ G H E W xk Dn lk
  refine tW1_of (ps_asg (te := tW X e) pe_W (g := tWg X tg) pg_W hs hw h1) ?_
  refine ED.use (R := fun _ d => TD X tg d Γ P.nx) (h.imp fun _ _ h => h) E.loc xk.te (xk.lk.at E) fun d v G1 H1 hR s1 r1 => ?_
  exact hR F σ G1 H1 (E.go s1) v r1 _ fun Γ' σ' G' H' hn E' s' => lk.nx G' H' σ' Γ' hn E' (s1.trans s').le

/-! ### loops -/
theorem w_for {tg it : Expr} {body : List Stmt} (hc : X.calm = true)
    (h : EI X (fun x => ex x Γ) tg it Γ fun ds => ∃ I : Nat → En → Prop, I 0 Γ ∧ (∀ i d Γ', ds[i]? = some d → I i Γ' → TD X tg d Γ' fun Γ'' => WD X ex body Γ'' { P with nx := I (i + 1), ct := I (i + 1), bk := P.nx }) ∧ ∀ Γ', I ds.length Γ' → P.nx Γ')
    (hs : ∀ x, foldedSetIterable it X.env x = pure x := by intro _; rfl) : W1 X ex (.For tg it body [] pos) Γ P := by
  intro F σ G H E W xk Dn lk
  obtain ⟨wi, hpi, hw⟩ := h
  refine tW1_of (ps_for xk.po hc hpi (g := tWg X tg) (tb := tWs X body) pg_W pss_W hs) ?_
  refine hw σ G H E.loc W xk.te (xk.lk.at E) _ fun J ds G1 H1 hR s1 sq => ?_
  obtain ⟨I, h0, hst, hend⟩ := hR
  refine ⟨fun i m σ' H' => m = ds.length - i ∧ i ≤ ds.length ∧ ∃ G' Γ', EnvOk X.K F G' H' σ' Γ' ∧ Le G1 G' ∧ I i Γ', ⟨ds.length, rfl, Nat.zero_le _, G1, Γ, E.go s1, Le.refl _, h0⟩, ?_⟩
  rintro i m σ' H' ⟨rfl, hi, G', Γ', E', le, hI⟩
  have e1 : Ext G1 H' := fun a g q => E'.loc.ext a g (le a g q)
  by_cases hlt : i < ds.length
  · refine .inr ⟨sq.go i H' hlt e1, fun σ2 H2 => ∃ G2 Γ2, EnvOk X.K F G2 H2 σ2 Γ2 ∧ Le G1 G2 ∧ I (i + 1) Γ2, fun σ2 H2 ⟨G2, Γ2, a, b, c⟩ => ⟨ds.length - (i + 1), by omega, rfl, hlt, G2, Γ2, a, b, c⟩, fun x H2 y => ?_⟩
    obtain ⟨G2, d, s2, hd, r⟩ := sq.give i G' H' x H2 hlt le E'.loc.ext y
    obtain ⟨d', ed', hd'⟩ : ∃ d', ds[i]? = some d' ∧ d' = d := ⟨d, hd, rfl⟩
    refine hst i d Γ' hd hI F σ' G2 H2 (E'.go s2) x r _ fun Γ3 σ3 G3 H3 h3 E3 s3 => ?_
    exact h3 F σ3 G3 H3 E3 W (xk.go (s1.le.trans (le.trans (s2.trans s3).le))) _ ⟨fun G4 H4 σ4 Γ4 h4 E4 l4 => ⟨G4, Γ4, E4, (le.trans (s2.trans s3).le).trans l4, h4⟩, fun o d v G4 H4 σ4 Γ4 h4 E4 r4 l4 => lk.rt o d v G4 H4 σ4 Γ4 h4 E4 r4 (s1.le.trans ((le.trans (s2.trans s3).le).trans l4)),
      fun G4 H4 σ4 Γ4 h4 E4 l4 => lk.nx G4 H4 σ4 Γ4 h4 E4 (s1.le.trans ((le.trans (s2.trans s3).le).trans l4)), fun G4 H4 σ4 Γ4 h4 E4 l4 => ⟨G4, Γ4, E4, (le.trans (s2.trans s3).le).trans l4, h4⟩, lk.nb⟩
  · have ei : i = ds.length := by omega
    subst ei
    exact .inl ⟨sq.stop H' e1, lk.nx G' H' σ' Γ' (hend Γ' hI) E' (s1.le.trans le)⟩
theorem w_while {c : Expr} {body : List Stmt} (h : ∃ I : Nat → En → Prop, (∃ m, I m Γ) ∧ ∀ m Γ', I m Γ' → ET X (fun x => ex x Γ') c (frz Γ') fun b => (b = true → WD X ex body Γ' { P with nx := fun Γ'' => ∃ m', m' < m ∧ I m' Γ'', ct := fun Γ'' => ∃ m', m' < m ∧ I m' Γ'', bk := P.nx }) ∧ (b = false → P.nx Γ')) : W1 X ex (.While c body [] pos) Γ P := by
  intro F σ G H E W xk Dn lk
  obtain ⟨I, ⟨m0, h0⟩, hst⟩ := h
  refine tW1_of (ps_while xk.po (tc := tWt X c) (tb := tWs X body) pt_W pss_W) ?_
  refine ⟨fun m σ' H' => ∃ G' Γ', EnvOk X.K F G' H' σ' Γ' ∧ Le G G' ∧ I m Γ', ⟨m0, G, Γ, E, Le.refl _, h0⟩, ?_⟩
  rintro m σ' H' ⟨G', Γ', E', le, hI⟩
  refine et_flat (hst m Γ' hI) σ' G' H' E'.loc W xk.te (xk.lk.at E' le) _ fun t G1 H1 h1 s1 => ?_
  have l1 := le.trans s1.le
  cases t with
  | false => exact iteF (lk.nx G1 H1 σ' Γ' (h1.2 rfl) (E'.go s1) l1)
  | true =>
    refine iteT ⟨fun σ2 H2 => ∃ m', m' < m ∧ ∃ G2 Γ2, EnvOk X.K F G2 H2 σ2 Γ2 ∧ Le G G2 ∧ I m' Γ2, fun σ2 H2 ⟨m', hm, z⟩ => ⟨m', hm, z⟩, ?_⟩
    exact h1.1 rfl F σ' G1 H1 (E'.go s1) W (xk.go l1) _ ⟨fun G4 H4 σ4 Γ4 ⟨m', hm, h4⟩ E4 l4 => ⟨m', hm, G4, Γ4, E4, l1.trans l4, h4⟩, fun o d v G4 H4 σ4 Γ4 h4 E4 r4 l4 => lk.rt o d v G4 H4 σ4 Γ4 h4 E4 r4 (l1.trans l4),
      fun G4 H4 σ4 Γ4 h4 E4 l4 => lk.nx G4 H4 σ4 Γ4 h4 E4 (l1.trans l4), fun G4 H4 σ4 Γ4 ⟨m', hm, h4⟩ E4 l4 => ⟨m', hm, G4, Γ4, E4, l1.trans l4, h4⟩, lk.nb⟩
end
end DL

/-! DL7: what is walked. -/
namespace DL
open PySem L2
theorem Le.ext {G G' : Gh} {H : Hp} (l : Le G G') (e : Ext G' H) : Ext G H := fun a g q => e a g (l a g q)
section
variable {K : PySem.W.Frag} {G : Gh}
theorem sq_list {p : Addr} {xs : List D} {vs : List V} (h : G p = some (.ho (.lst vs))) (r : Reps K G xs vs) : SeqOk K G (Itl K p) xs where
  go := fun i H hi e => walk_list.goes i H (by rw [← r.length]; exact hi) (SqL.of (e _ _ h))
  stop := fun H e => by rw [r.length]; exact walk_list.stops H (SqL.of (e _ _ h))
  give := fun i G' H x H' hi le e y => by
    obtain ⟨rfl, hx⟩ := walk_list.yields i H x H' (by rw [← r.length]; exact hi) (SqL.of (le.ext e _ _ h)) y
    obtain ⟨d, hd, rd⟩ := r.getv hx
    exact ⟨G', d, .refl e, hd, rd.mono le⟩
theorem sq_scr {p : Addr} {ns : List Int} (h : SqG K G p (ns.map V.int)) : SeqOk K G (Itl K p) (ns.map D.int) where
  go := fun i H hi e => walk_list.goes i H (by rw [List.length_map] at hi ⊢; exact hi) (h.sq e)
  stop := fun H e => by rw [List.length_map]; have := walk_list.stops H (h.sq e); rw [List.length_map] at this; exact this
  give := fun i G' H x H' hi le e y => by
    obtain ⟨rfl, hx⟩ := walk_list.yields i H x H' (by rw [List.length_map] at hi ⊢; exact hi) (h.sq (le.ext e)) y
    rw [List.getElem?_map] at hx
    cases q : ns[i]? with
    | none => rw [q] at hx; cases hx
    | some n => rw [q] at hx; cases hx; exact ⟨G', .int n, .refl e, by rw [List.getElem?_map, q]; rfl, .int⟩
theorem sq_tup {p : Addr} {xs : List D} {vs : List V} (h : G p = some (.ho (.tup vs))) (r : Reps K G xs vs) : SeqOk K G (Itt K p) xs where
  go := fun i H hi e => walk_tup.goes i H (by rw [← r.length]; exact hi) (SqT.of (e _ _ h))
  stop := fun H e => by rw [r.length]; exact walk_tup.stops H (SqT.of (e _ _ h))
  give := fun i G' H x H' hi le e y => by
    obtain ⟨rfl, hx⟩ := walk_tup.yields i H x H' (by rw [← r.length]; exact hi) (SqT.of (le.ext e _ _ h)) y
    obtain ⟨d, hd, rd⟩ := r.getv hx
    exact ⟨G', d, .refl e, hd, rd.mono le⟩
/-- the signs of a text, each a text -/
def signs (z : Str) : List Str := z.cps.toList.map fun c => ⟨#[c]⟩
theorem signs_length (z : Str) : (signs z).length = z.cps.size := by unfold signs; simp
theorem sq_str {z : Str} : SeqOk K G (Its z) ((signs z).map D.str) where
  go := fun i H hi e => walk_str.goes i H (by rw [List.length_map, signs_length] at hi; exact hi) trivial
  stop := fun H e => by rw [List.length_map, signs_length]; exact walk_str.stops H trivial
  give := fun i G' H x H' hi le e y => by
    rw [List.length_map, signs_length] at hi
    obtain ⟨rfl, c, hc, rfl⟩ := walk_str.yields i H x H' hi trivial y
    refine ⟨G', .str ⟨#[c]⟩, .refl e, ?_, .str⟩
    unfold signs
    rw [List.getElem?_map, List.getElem?_map, Array.getElem?_toList, hc]
    rfl
def rangeD (lo : Int) (n : Nat) : List D := (List.range n).map fun i => .int (lo + (i : Nat))
theorem rangeD_length (lo : Int) (n : Nat) : (rangeD lo n).length = n := by unfold rangeD; simp
theorem rangeD_get {lo : Int} {n i : Nat} {d : D} (h : (rangeD lo n)[i]? = some d) : i < n ∧ d = .int (lo + (i : Nat)) := by
  have hi : i < n := by have := (List.getElem?_eq_some_iff.mp h).1; rw [rangeD_length] at this; exact this
  unfold rangeD at h
  rw [List.getElem?_map, List.getElem?_range hi] at h
  cases h
  exact ⟨hi, rfl⟩
theorem sq_range {lo : Int} {n : Nat} : SeqOk K G (Itr lo n) (rangeD lo n) where
  go := fun i H hi e => walk_range.goes i H (by rw [rangeD_length] at hi; exact hi) trivial
  stop := fun H e => by rw [rangeD_length]; exact walk_range.stops H trivial
  give := fun i G' H x H' hi le e y => by
    rw [rangeD_length] at hi
    obtain ⟨rfl, rfl⟩ := (walk_range (lo := lo)).yields i H x H' hi trivial y
    refine ⟨G', .int (lo + (i : Nat)), .refl e, ?_, .int⟩
    unfold rangeD
    rw [List.getElem?_map, List.getElem?_range hi]
    rfl
def rangeCD (lo c : Int) (n : Nat) : List D := (List.range n).map fun i => .int (lo + (i : Nat) * c)
theorem rangeCD_length (lo c : Int) (n : Nat) : (rangeCD lo c n).length = n := by unfold rangeCD; simp
theorem rangeCD_get {lo c : Int} {n i : Nat} {d : D} (h : (rangeCD lo c n)[i]? = some d) : i < n ∧ d = .int (lo + (i : Nat) * c) := by
  have hi : i < n := by have := (List.getElem?_eq_some_iff.mp h).1; rw [rangeCD_length] at this; exact this
  unfold rangeCD at h
  rw [List.getElem?_map, List.getElem?_range hi] at h
  cases h
  exact ⟨hi, rfl⟩
theorem sq_rangeC {lo c : Int} {n : Nat} : SeqOk K G (Itc lo c n) (rangeCD lo c n) where
  go := fun i H hi e => walk_rangeC.goes i H (by rw [rangeCD_length] at hi; exact hi) trivial
  stop := fun H e => by rw [rangeCD_length]; exact walk_rangeC.stops H trivial
  give := fun i G' H x H' hi le e y => by
    rw [rangeCD_length] at hi
    obtain ⟨rfl, rfl⟩ := (walk_rangeC (lo := lo) (c := c)).yields i H x H' hi trivial y
    refine ⟨G', .int (lo + (i : Nat) * c), .refl e, ?_, .int⟩
    unfold rangeCD
    rw [List.getElem?_map, List.getElem?_range hi]
    rfl
/-- pairs of two rows, each a new tuple -/
def pairs (xs ys : List D) : List D := (xs.zip ys).map fun p => .tup [p.1, p.2]
theorem pairs_length (xs ys : List D) : (pairs xs ys).length = min xs.length ys.length := by unfold pairs; simp
theorem pairs_get {xs ys : List D} {i : Nat} {d : D} (h : (pairs xs ys)[i]? = some d) : ∃ a b, xs[i]? = some a ∧ ys[i]? = some b ∧ d = .tup [a, b] := by
  unfold pairs at h
  rw [List.getElem?_map] at h
  cases q : (xs.zip ys)[i]? with
  | none => rw [q] at h; cases h
  | some p =>
    rw [q] at h; cases h
    have := List.getElem?_zip_eq_some.mp q
    exact ⟨p.1, p.2, this.1, this.2, rfl⟩
theorem pairs_of {xs ys : List D} {i : Nat} {a b : D} (h1 : xs[i]? = some a) (h2 : ys[i]? = some b) : (pairs xs ys)[i]? = some (.tup [a, b]) := by
  unfold pairs
  rw [List.getElem?_map, List.getElem?_zip_eq_some (z := (a, b)) |>.mpr ⟨h1, h2⟩]
  rfl
theorem give_pair {G' : Gh} {H H' : Hp} {x : V} {a b : D} {v w : V} {T : Addr} (e : Ext G' H) (ra : Rep K G' a v) (rb : Rep K G' b w) (hx : x = .ref T) (hT : H T = none) (hH : H' = upd H T (.tup [v, w])) :
    ∃ G2 d, Step0 G' H G2 H' ∧ d = D.tup [a, b] ∧ Rep K G2 d x := by
  subst hx hH
  exact ⟨gupd G' T (.ho (.tup [v, w])), _, (Step.alloc e hT).know hT upd_same (e.gfree hT), rfl, .tup gupd_same (.cons (ra.mono (Le.gupd (e.gfree hT))) (.cons (rb.mono (Le.gupd (e.gfree hT))) .nil))⟩
theorem sq_enum {p : Addr} {xs : List D} {vs : List V} (h : G p = some (.ho (.lst vs))) (r : Reps K G xs vs) : SeqOk K G (Ite K p) (pairs (rangeD 0 xs.length) xs) where
  go := fun i H hi e => walk_enum.goes i H (by rw [pairs_length, rangeD_length, Nat.min_self, r.length] at hi; exact hi) (SqL.of (e _ _ h))
  stop := fun H e => by rw [pairs_length, rangeD_length, Nat.min_self, r.length]; exact walk_enum.stops H (SqL.of (e _ _ h))
  give := fun i G' H x H' hi le e y => by
    have hi' := hi
    rw [pairs_length, rangeD_length, Nat.min_self] at hi'
    obtain ⟨T, v, w, h1, h2, h3, h4, h5⟩ := walk_enum.yields i H x H' (by rw [← r.length]; exact hi') (SqL.of (le.ext e _ _ h)) y
    cases h4
    obtain ⟨d, hd, rd⟩ := r.getv h5
    obtain ⟨G2, d2, s, e2, r2⟩ := give_pair (K := K) (a := .int (i : Nat)) (b := d) e .int (rd.mono le) h1 h2 h3
    refine ⟨G2, d2, s, ?_, r2⟩
    rw [e2]
    refine pairs_of ?_ hd
    unfold rangeD
    rw [List.getElem?_map, List.getElem?_range hi']
    simp
theorem sq_zip {p q : Addr} {xs ys : List D} {vs ws : List V} (h : G p = some (.ho (.lst vs))) (r : Reps K G xs vs) (h' : G q = some (.ho (.lst ws))) (r' : Reps K G ys ws) : SeqOk K G (Itz K p q) (pairs xs ys) where
  go := fun i H hi e => (walk_zip rfl).goes i H (by rw [pairs_length, r.length, r'.length] at hi; exact hi) ⟨SqL.of (e _ _ h), SqL.of (e _ _ h')⟩
  stop := fun H e => by rw [pairs_length, r.length, r'.length]; exact (walk_zip rfl).stops H ⟨SqL.of (e _ _ h), SqL.of (e _ _ h')⟩
  give := fun i G' H x H' hi le e y => by
    rw [pairs_length, r.length, r'.length] at hi
    obtain ⟨T, v, w, h1, h2, h3, h4, h5⟩ := (walk_zip rfl).yields i H x H' hi ⟨SqL.of (le.ext e _ _ h), SqL.of (le.ext e _ _ h')⟩ y
    obtain ⟨d, hd, rd⟩ := r.getv h4
    obtain ⟨d', hd', rd'⟩ := r'.getv h5
    obtain ⟨G2, d2, s, e2, r2⟩ := give_pair (K := K) (a := d) (b := d') e (rd.mono le) (rd'.mono le) h1 h2 h3
    exact ⟨G2, d2, s, by rw [e2]; exact pairs_of hd hd', r2⟩
end
section
variable {X : Cx} {ex : Exn → Prop} {Γ : En} {pos p : Pos} {tg e : Expr} {R : List D → Prop}
/-- over a list -/
theorem ei_list (h : ED X ex e Γ fun _ d => (∃ xs, d = .lst xs ∧ R xs) ∨ ∃ ns, d = .scr ns ∧ R (ns.map D.int)) : EI X ex tg e Γ R := by
  refine ⟨_, pi_list (tl := tW X e) pe_W, fun σ G H E W tk xa Q k => ?_⟩
  refine ED.use (R := fun _ d => (∃ xs, d = .lst xs ∧ R xs) ∨ ∃ ns, d = .scr ns ∧ R (ns.map D.int)) h E tk xa fun d v G1 H1 h1 s1 r1 => ?_
  rcases h1 with ⟨xs, rfl, hR⟩ | ⟨ns, rfl, hR⟩
  · cases r1 with
    | lst hp q => exact ⟨_, rfl, ⟨_, SqL.of (s1.ext _ _ hp)⟩, k _ _ G1 H1 hR s1 (sq_list hp q)⟩
  · cases r1 with
    | scr hp => exact ⟨_, rfl, ⟨_, hp.sq s1.ext⟩, k _ _ G1 H1 hR s1 (sq_scr hp)⟩
theorem ei_tup (h : ED X ex e Γ fun _ d => ∃ xs, d = .tup xs ∧ R xs) : EI X ex tg e Γ R := by
  refine ⟨_, pi_tup (tl := tW X e) pe_W, fun σ G H E W tk xa Q k => ?_⟩
  refine ED.use (R := fun _ d => ∃ xs, d = .tup xs ∧ R xs) h E tk xa fun d v G1 H1 h1 s1 r1 => ?_
  obtain ⟨xs, rfl, hR⟩ := h1
  cases r1 with
  | tup hp q => exact ⟨_, rfl, ⟨_, SqT.of (s1.ext _ _ hp)⟩, k _ _ G1 H1 hR s1 (sq_tup hp q)⟩
theorem ei_str (h : ED X ex e Γ fun _ d => ∃ z, d = .str z ∧ R ((signs z).map D.str)) : EI X ex tg e Γ R := by
  refine ⟨_, pi_str (te := tW X e) pe_W, fun σ G H E W tk xa Q k => ?_⟩
  refine ED.use (R := fun _ d => ∃ z, d = .str z ∧ R ((signs z).map D.str)) h E tk xa fun d v G1 H1 h1 s1 r1 => ?_
  obtain ⟨z, rfl, hR⟩ := h1
  cases r1
  exact ⟨z, rfl, k _ _ G1 H1 hR s1 sq_str⟩
theorem ei_range1 {a : Expr} (h : ED X ex a Γ fun _ d => ∃ j : Int, d = .int j ∧ -(2 ^ 62) ≤ j ∧ j < 2 ^ 62 ∧ R (rangeD 0 j.toNat)) (hm : X.mg "range" = none) (hg : Gl X "range")
    (h1 : starEach [a] X.env = [(false, eval a X.env)] := by rfl) : EI X ex tg (.Call (.Name "range" p) [a] [] pos) Γ R := by
  refine ⟨_, pi_range1 hg hm (ta := tWa X [a]) pa_W (hs := h1), fun σ G H E W tk xa Q k => ?_⟩
  refine (ea_cons (R := fun ds => ∃ j : Int, ds = [.int j] ∧ -(2 ^ 62) ≤ j ∧ j < 2 ^ 62 ∧ R (rangeD 0 j.toNat)) (h.imp fun _ d ⟨j, e, z⟩ => ea_nil ⟨j, by rw [e], z⟩) (by rw [h1]; rfl)) σ G H E W tk xa _ fun ds vs G1 H1 hR s1 r1 => ?_
  obtain ⟨j, rfl, h2, h3, hR⟩ := hR
  obtain ⟨v, rfl, r⟩ := rep1 r1
  cases r
  exact ⟨j, rfl, h2, h3, k _ _ G1 H1 hR s1 sq_range⟩
theorem ei_range2 {a b : Expr} (h : ED X ex a Γ fun _ d => ED X ex b Γ fun _ e => ∃ i j : Int, d = .int i ∧ e = .int j ∧ (-(2 ^ 62) ≤ i ∧ i < 2 ^ 62 ∧ -(2 ^ 62) ≤ j ∧ j < 2 ^ 62) ∧ R (rangeD i (j - i).toNat)) (hm : X.mg "range" = none) (hg : Gl X "range")
    (h1 : starEach [a, b] X.env = [(false, eval a X.env), (false, eval b X.env)] := by rfl) (h2 : starEach [b] X.env = [(false, eval b X.env)] := by rfl) : EI X ex tg (.Call (.Name "range" p) [a, b] [] pos) Γ R := by
  refine ⟨_, pi_range2 hg hm (ta := tWa X [a, b]) pa_W (hs := h1) (hs2 := h2), fun σ G H E W tk xa Q k => ?_⟩
  refine (ea_cons (R := fun ds => ∃ i j : Int, ds = [.int i, .int j] ∧ (-(2 ^ 62) ≤ i ∧ i < 2 ^ 62 ∧ -(2 ^ 62) ≤ j ∧ j < 2 ^ 62) ∧ R (rangeD i (j - i).toNat)) (h.imp fun _ d hd => ea_cons (hd.imp fun _ e ⟨i, j, e1, e2, z⟩ => ea_nil ⟨i, j, by rw [e1, e2], z⟩) (by rw [h2]; rfl)) (by rw [h1, h2])) σ G H E W tk xa _ fun ds vs G1 H1 hR s1 r1 => ?_
  obtain ⟨i, j, rfl, h3, hR⟩ := hR
  obtain ⟨v, w, rfl, r, r'⟩ := rep2 r1
  cases r; cases r'
  exact ⟨i, j, rfl, h3, k _ _ G1 H1 hR s1 sq_range⟩
theorem ei_range3 {a b c : Expr} (h : ED X ex a Γ fun _ d => ED X ex b Γ fun _ e => ED X ex c Γ fun _ f => ∃ (i j l : Int) (n : Nat), d = .int i ∧ e = .int j ∧ f = .int l ∧ RgC i j l n ∧ R (rangeCD i l n)) (hm : X.mg "range" = none) (hg : Gl X "range")
    (h1 : starEach (a :: [b, c]) X.env = (false, eval a X.env) :: starEach [b, c] X.env := by rfl) (h2 : starEach (b :: [c]) X.env = (false, eval b X.env) :: starEach [c] X.env := by rfl) (h3 : starEach (c :: []) X.env = (false, eval c X.env) :: starEach [] X.env := by rfl) (hpl : (backTo pos (starEach [b, c] X.env)).any (·.1) = false := by rfl) :
    EI X ex tg (.Call (.Name "range" p) [a, b, c] [] pos) Γ R := by
  refine ⟨_, pi_range3 hg hm (ta := tWa X [a, b, c]) pa_W (hs := h1) (hpl := hpl), fun σ G H E W tk xa Q k => ?_⟩
  refine (ea_cons (R := fun ds => ∃ (i j l : Int) (n : Nat), ds = [.int i, .int j, .int l] ∧ RgC i j l n ∧ R (rangeCD i l n)) (h.imp fun _ d hd => ea_cons (hd.imp fun _ e he => ea_cons (he.imp fun _ f ⟨i, j, l, n, e1, e2, e3, z⟩ => ea_nil ⟨i, j, l, n, by rw [e1, e2, e3], z⟩) h3) h2) h1) σ G H E W tk xa _ fun ds vs G1 H1 hR s1 r1 => ?_
  obtain ⟨i, j, l, n, rfl, h4, hR⟩ := hR
  cases r1 with
  | cons r rr =>
    obtain ⟨v, w, rfl, r', r''⟩ := rep2 rr
    cases r; cases r'; cases r''
    exact ⟨i, j, l, n, rfl, h4, k _ _ G1 H1 hR s1 sq_rangeC⟩
/-- enumerate(list) -/
theorem ei_enumL {a : Expr} {elts : List Expr} {kk : Nat} {tpos : Pos} (h : ED X ex a Γ fun _ d => ∃ xs, d = .lst xs ∧ R (pairs (rangeD 0 xs.length) xs)) (hm : X.mg "enumerate" = none) (hg : Gl X "enumerate")
    (hs : starEach [a] X.env = [(false, eval a X.env)] := by rfl) : EI X ex (.Tuple elts kk tpos) (.Call (.Name "enumerate" p) [a] [] pos) Γ R := by
  refine ⟨_, pi_enum hg hm (ta := tWa X [a]) pa_W hs, fun σ G H E W tk xa Q k => ?_⟩
  refine (ea_cons (R := fun ds => ∃ xs, ds = [.lst xs] ∧ R (pairs (rangeD 0 xs.length) xs)) (h.imp fun _ d ⟨j, e, z⟩ => ea_nil ⟨j, by rw [e], z⟩) (by rw [hs]; rfl)) σ G H E W tk xa _ fun ds vs G1 H1 hR s1 r1 => ?_
  obtain ⟨xs, rfl, hR⟩ := hR
  obtain ⟨v, rfl, r⟩ := rep1 r1
  cases r with
  | lst hp q => exact ⟨_, _, rfl, SqL.of (s1.ext _ _ hp), k _ _ G1 H1 hR s1 (sq_enum hp q)⟩
theorem ei_zip {a b : Expr} {elts : List Expr} {kk : Nat} {tpos : Pos} (h : ED X ex a Γ fun _ d => ED X ex b Γ fun _ e => ∃ xs ys, d = .lst xs ∧ e = .lst ys ∧ R (pairs xs ys)) (hm : X.mg "zip" = none) (hg : Gl X "zip")
    (h1 : starEach (a :: [b]) X.env = (false, eval a X.env) :: starEach [b] X.env := by rfl) (h2 : starEach (b :: []) X.env = (false, eval b X.env) :: starEach [] X.env := by rfl) (hpl : (backTo pos (starEach [b] X.env)).any (·.1) = false := by rfl) : EI X ex (.Tuple elts kk tpos) (.Call (.Name "zip" p) [a, b] [] pos) Γ R := by
  refine ⟨_, pi_zip hg hm (ta := tWa X [a, b]) pa_W (hs := h1) (hpl := hpl), fun σ G H E W tk xa Q k => ?_⟩
  refine (ea_cons (R := fun ds => ∃ xs ys, ds = [.lst xs, .lst ys] ∧ R (pairs xs ys)) (h.imp fun _ d hd => ea_cons (hd.imp fun _ e ⟨i, j, e1, e2, z⟩ => ea_nil ⟨i, j, by rw [e1, e2], z⟩) h2) h1) σ G H E W tk xa _ fun ds vs G1 H1 hR s1 r1 => ?_
  obtain ⟨xs, ys, rfl, hR⟩ := hR
  obtain ⟨v, w, rfl, r, r'⟩ := rep2 r1
  cases r with
  | lst hp q =>
    cases r' with
    | lst hp' q' => exact ⟨_, _, _, _, rfl, SqL.of (s1.ext _ _ hp), SqL.of (s1.ext _ _ hp'), k _ _ G1 H1 hR s1 (sq_zip hp q hp' q')⟩
end
end DL

/-! DL8: enumerate(text). -/
namespace DL
open PySem L2 PySem.Spec PyProof.Rows
/-- enumerate over the signs of x -/
def Ites (x : Str) : It :=
  ⟨fun i _ => i < x.cps.size, fun i H v H' => ∃ T c, v = .ref T ∧ H T = none ∧ x.cps[i]? = some c ∧ H' = upd H T (.tup [.int (i : Nat), .str ⟨#[c]⟩]), fun i _ => i = x.cps.size⟩
theorem strIter_or (x : Str) : strIterType x = "str_ascii_iterator" ∨ strIterType x = "str_iterator" := by
  unfold strIterType
  split
  · exact .inl rfl
  · exact .inr rfl
theorem drawsS {prog : Program} {w : World} {A : Around} (hh : A.handled = none) (it : Addr) (x : Str) (t : Tok) :
    Draws prog w A it [it] x.cps.size (fun i v => ∃ c u, x.cps[i]? = some c ∧ v = .str ⟨#[c]⟩ u) (fun i h => h.IsStrIter it (strIterType x) x t i) := by
  rcases strIter_or x with e | e
  · rw [e]; exact Draws.strAscii hh it x t
  · rw [e]; exact Draws.strWide hh it x t
theorem turn_enumS {P : Program} {w : World} {K : PySem.W.Frag} {elts : List Expr} {kk : Nat} {tpos : Pos} (x : Str) (t : Tok) (e it : Addr) :
    Turn P w K (.Tuple elts kk tpos) (Ites x) [e, it] e (fun i h => (∃ old, IsEnum h e it ((i : Nat) : Int) old) ∧ h.IsStrIter it (strIterType x) x t i ∧ e ≠ it) where
  mem := by simp
  obj := fun i h st b hb => by
    obtain ⟨⟨old, he⟩, ⟨o, ho, hc, hd⟩, _⟩ := st
    have e' : b = e ∨ b = it := by simpa using hb
    rcases e' with z | z
    · rw [z]; exact ⟨_, he, fun v q => nomatch q⟩
    · rw [z]; exact ⟨o, ho, fun v q => by rw [hd] at q; cases q⟩
  keep := fun i h h' st k => let ⟨⟨old, he⟩, ⟨o, ho, hr⟩, hne⟩ := st; ⟨⟨old, k e (by simp) _ he⟩, ⟨o, k it (by simp) o ho, hr⟩, hne⟩
  item := by
    intro X hP hw hK hc i pins s σ H E I hf st hg
    subst hP hw hK
    obtain ⟨⟨old, he⟩, hit, hne⟩ := st
    have hel : e < s.heap.objs.size := Heap.lt_size he
    have hil : it < s.heap.objs.size := by obtain ⟨_, q, _⟩ := hit; exact Heap.lt_size q
    refine wpAny_pyNext_enum_itemD (drawsS (show X.A.in1.handled = none from I.ok.hd hc) it x t) he hit hg hne (by simpa using hne) fun v h' tk hv ho hit' hT hsz hk => ?_
    obtain ⟨c, u, hcx, rfl⟩ := hv
    refine ⟨_, rfl, wpAny_letOwnedTupleGo_enum (s := { s with heap := h', toks := tk + 1 }) ho fun h'' he' sb => ?_⟩
    have hT2 : h''.get? s.heap.objs.size = some { cls := .type "tuple", data := .seq #[.int i tk, .str ⟨#[c]⟩ u] } := (sb.2 _ (Nat.ne_of_gt hel)).trans hT
    have new : ObjOk X.prog X.w (upd H s.heap.objs.size (.tup [.int (i : Nat), .str ⟨#[c]⟩])) h'' s.heap.objs.size (.tup [.int (i : Nat), .str ⟨#[c]⟩]) :=
      ⟨by show 2 ≤ sizeLine; decide, [.int i tk, .str ⟨#[c]⟩ u], .cons ⟨_, rfl⟩ (.cons ⟨_, rfl⟩ .nil), ⟨_, hT2, rfl, _, rfl⟩⟩
    have I1 : Inv X pins σ (upd H s.heap.objs.size (.tup [.int (i : Nat), .str ⟨#[c]⟩])) { s with heap := h'', toks := tk + 1 } :=
      I.turnedNew (ch := [e, it]) (fun b ob hb q => (sb.2 b (fun z => hb (by simp [z]))).trans (hk b ob (fun z => hb (by simp [z])) (fun z => hb (by simp [z])) q)) hf (Nat.le_refl _) new
    refine ⟨.ref s.heap.objs.size, _, I1, rfl, ⟨_, c, rfl, I.hok.fresh (Nat.le_refl _), hcx, rfl⟩, ⟨⟨.str ⟨#[c]⟩ u, ?_⟩, ?_, hne⟩, fun b hb => ?_⟩
    · have e1 : ((i + 1 : Nat) : Int) = (i : Int) + 1 := by omega
      rw [e1]; exact he'
    · obtain ⟨o, ho', hr⟩ := hit'
      exact ⟨o, (sb.2 it (Ne.symm hne)).trans ho', hr⟩
    · have hb' : b < s.heap.objs.size := by
        have e' : b = e ∨ b = it := by simpa using hb
        rcases e' with z | z
        · rw [z]; exact hel
        · rw [z]; exact hil
      rw [upd_ne (Nat.ne_of_lt hb')]
      exact (hf b hb).1
  done := by
    intro X hP hw hK hc i pins s σ H E I hf st hg
    subst hP hw hK
    obtain ⟨⟨old, he⟩, hit, hne⟩ := st
    obtain ⟨f0, f1, f2, f3, f4, f5⟩ := hf it (by simp)
    have hg : i = x.cps.size := hg
    subst hg
    exact wpAny_pyNext_enum_endD (drawsS (show X.A.in1.handled = none from I.ok.hd hc) it x t) he hit fun h' eb => ⟨rfl, I.turned (t' := s.toks) (fun b o hb q => eb b o hb q) f0 f1 f3 f4 f5⟩
  self := fun A i s Q E st h => let ⟨⟨_, he⟩, _⟩ := st; wpAny_pyIter_enum he h
def iEnumS (ta : TA) : TI := fun σ H R => ta σ H fun vs H1 => ∃ x, vs = [.str x] ∧ R (Ites x) H1
theorem pi_enumS {X : Cx} {e : Expr} {ta : TA} {p pos tpos : Pos} {elts : List Expr} {kk : Nat} (hg : Gl X "enumerate") (hm : X.mg "enumerate" = none) (ha : PA X [e] ta) (hs : starEach [e] X.env = [(false, eval e X.env)] := by rfl) :
    PI X (.Tuple elts kk tpos) (.Call (.Name "enumerate" p) [e] [] pos) (iEnumS ta) := by
  refine ⟨fun pins s σ H R I h => ?_⟩
  refine Call_ (ld_blt I hg hm boot_enumerate (PyProof.Rows.callWith_type1 (thn (ha.run pos pins s σ H _ I h) fun us s1 ⟨vs, H1, I1, r1, q1⟩ => ?_) hs rfl))
  obtain ⟨x, ex, q⟩ := q1
  subst ex
  cases r1 with
  | cons r rr =>
    cases rr
    obtain ⟨t, rfl⟩ := r
    refine call_enumerate_str fun h' he hit hsz hk => wpAny_pyIter_enum he ?_
    have I2 : Inv X pins σ H1 { s1 with heap := h' } := I1.kept (t' := s1.toks) hk
    refine ⟨s1.heap.objs.size + 1, [s1.heap.objs.size + 1, s1.heap.objs.size], _, _, H1, rfl, I2, turn_enumS x t (s1.heap.objs.size + 1) s1.heap.objs.size, ⟨⟨.none, he⟩, hit, Nat.succ_ne_self _⟩, fun b hb => ?_, q⟩
    have e' : b = s1.heap.objs.size + 1 ∨ b = s1.heap.objs.size := by simpa using hb
    have hle : s1.heap.objs.size ≤ b := by
      rcases e' with z | z
      · rw [z]; exact Nat.le_add_right _ _
      · rw [z]; exact Nat.le_refl _
    exact I1.fpOk hle (I1.hok.fresh hle)
theorem sq_enumS {K : PySem.W.Frag} {G : Gh} {z : Str} : SeqOk K G (Ites z) (pairs (rangeD 0 (signs z).length) ((signs z).map D.str)) where
  go := fun i H hi e => by rw [pairs_length, rangeD_length, List.length_map, Nat.min_self, signs_length] at hi; exact hi
  stop := fun H e => by rw [pairs_length, rangeD_length, List.length_map, Nat.min_self, signs_length]; rfl
  give := fun i G' H x H' hi le e y => by
    have hi' := hi
    rw [pairs_length, rangeD_length, List.length_map, Nat.min_self] at hi'
    obtain ⟨T, c, h1, h2, h3, h4⟩ := y
    obtain ⟨G2, d2, s, e2, r2⟩ := give_pair (K := K) (a := .int (i : Nat)) (b := .str ⟨#[c]⟩) e .int .str h1 h2 h4
    refine ⟨G2, d2, s, ?_, r2⟩
    rw [e2]
    refine pairs_of ?_ ?_
    · unfold rangeD
      rw [List.getElem?_map, List.getElem?_range hi']
      simp
    · unfold signs
      rw [List.getElem?_map, List.getElem?_map, Array.getElem?_toList, h3]
      rfl
theorem ei_enumS {X : Cx} {ex : Exn → Prop} {Γ : En} {pos p : Pos} {R : List D → Prop} {a : Expr} {elts : List Expr} {kk : Nat} {tpos : Pos} (h : ED X ex a Γ fun _ d => ∃ z, d = .str z ∧ R (pairs (rangeD 0 (signs z).length) ((signs z).map D.str))) (hm : X.mg "enumerate" = none) (hg : Gl X "enumerate")
    (hs : starEach [a] X.env = [(false, eval a X.env)] := by rfl) : EI X ex (.Tuple elts kk tpos) (.Call (.Name "enumerate" p) [a] [] pos) Γ R := by
  refine ⟨_, pi_enumS hg hm (ta := tWa X [a]) pa_W hs, fun σ G H E W tk xa Q k => ?_⟩
  refine (ea_cons (R := fun ds => ∃ z, ds = [.str z] ∧ R (pairs (rangeD 0 (signs z).length) ((signs z).map D.str))) (h.imp fun _ d ⟨j, e, z⟩ => ea_nil ⟨j, by rw [e], z⟩) (by rw [hs]; rfl)) σ G H E W tk xa _ fun ds vs G1 H1 hR s1 r1 => ?_
  obtain ⟨xs, rfl, hR⟩ := hR
  obtain ⟨v, rfl, r⟩ := rep1 r1
  cases r
  exact ⟨_, rfl, k _ _ G1 H1 hR s1 sq_enumS⟩
end DL

/-! DL9: defs, comprehensions, exceptions. -/
namespace DL
open PySem L2
section
variable {P : Program} {w : World} {K : PySem.W.Frag} {mg : Str → Option Value} {base : Heap}
/-- the slots at the entry -/
def env0 (N : List Str) (ds : List D) : En := ds.map (fun d => some (false, d)) ++ List.replicate (N.length - ds.length) none
theorem loc_start {G : Gh} {H : Hp} {N : List Str} {ds : List D} {vs : List V} (e : Ext G H) (r : Reps K G ds vs) : Loc K G H (L2.start N vs) (env0 N ds) where
  len := by
    unfold L2.start env0
    rw [List.length_append, List.length_append, List.length_map, List.length_map, List.length_replicate, List.length_replicate, r.length]
  ext := e
  val := fun i d h => by
    unfold env0 at h
    unfold L2.start
    by_cases hi : i < ds.length
    · rw [List.getElem?_append_left (by simpa using hi), List.getElem?_map] at h
      cases q : ds[i]? with
      | none => rw [q] at h; cases h
      | some d' =>
        rw [q] at h; cases h
        obtain ⟨v, hv, rv⟩ := r.get q
        refine ⟨v, ?_, rv⟩
        rw [List.getElem?_append_left (by rw [List.length_map, ← r.length]; exact hi), List.getElem?_map, hv]
        rfl
    · rw [List.getElem?_append_right (by simpa using hi), List.getElem?_replicate] at h
      split at h <;> cases h
  own := fun i d h => by
    unfold env0 at h
    by_cases hi : i < ds.length
    · rw [List.getElem?_append_left (by simpa using hi), List.getElem?_map] at h
      cases q : ds[i]? with
      | none => rw [q] at h; cases h
      | some d' => rw [q] at h; cases h
    · rw [List.getElem?_append_right (by simpa using hi), List.getElem?_replicate] at h
      split at h <;> cases h
  dis := fun i j d e p _ h => by
    unfold env0 at h
    by_cases hi : i < ds.length
    · rw [List.getElem?_append_left (by simpa using hi), List.getElem?_map] at h
      cases q : ds[i]? with
      | none => rw [q] at h; cases h
      | some d' => rw [q] at h; cases h
    · rw [List.getElem?_append_right (by simpa using hi), List.getElem?_replicate] at h
      split at h <;> cases h
/-- the context of a def's body -/
abbrev bodyX (P : Program) (w : World) (K : PySem.W.Frag) (mg : Str → Option Value) (base : Heap) (N : List Str) (qual : Str) (st : Stmt) (f : Addr) (cdv : Value) (A : Around) (outer : List Env) (s : Shared) (H : Hp) (E : XK) : Cx :=
  cxOf (L2.CX P w) P w K mg base N qual (defScope st) f cdv A outer s H E
/-- THE RULE of a def -/
theorem fn_OK {x qual : Str} {st : Stmt} {f : Addr} {fd : FuncData} {N ps : List Str} {k : Nat} {φ : Ph} (F : Fun K x qual st f fd) (S : FnScope N ps (defScope st))
    (hbody : ∀ (cdv : Value) (A : Around) (outer : List Env) (s : Shared) (H : Hp) (E : XK), Room k (bodyX P w K mg base N qual st f cdv A outer s H E).A → ∀ ds rt xs, φ ds rt xs → ds.length = ps.length →
      WD (bodyX P w K mg base N qual st f cdv A outer s H E) (fun x _ => xs x) (defBody st) (env0 N ds) { nx := fun _ => rt false .non, rt := fun o d _ => rt o d }) :
    FnOk P w K mg base (L2.CX P w) (k + 1) f fd ps (spD K ps.length φ) := by
  refine F.okX S (fun vs H Q E h => spD_len h) (fun cdv A outer s H vs Q E hr h => ⟨_, pss_W, ?_⟩)
  obtain ⟨G, ds, rt, xs, e, r, hl, hφ, hrt, hxs⟩ := h
  refine hbody cdv A outer s H E hr ds rt xs hφ hl { B := fun _ => False, G0 := G, H0 := H } _ G H ⟨loc_start e r, .refl e, fun i d p h => ?_⟩ (fun c d _ H' => E c d H') ⟨takes_of rfl rfl rfl rfl, passes_of rfl, fun x c d G' H' σ' Γ' hx E' _ hc => hxs x c d G' H' hx E'.step hc⟩ _
    ⟨fun G' H' σ' Γ' h E' _ => hrt _ _ _ G' H' h E'.step .non, fun o d v G' H' σ' Γ' h E' r' _ => hrt o d v G' H' h E'.step r', fun _ _ _ _ h => h.elim, fun _ _ _ _ h => h.elim, fun a h => h.elim⟩
  unfold env0 at h
  by_cases hi : i < ds.length
  · rw [List.getElem?_append_left (by simpa using hi), List.getElem?_map] at h
    cases q : ds[i]? with
    | none => rw [q] at h; cases h
    | some d' => rw [q] at h; cases h
  · rw [List.getElem?_append_right (by simpa using hi), List.getElem?_replicate] at h
    split at h <;> cases h
theorem fn_D {x qual : Str} {st : Stmt} {f : Addr} {fd : FuncData} {N ps : List Str} {k : Nat} {φ : Ph} (F : Fun K x qual st f fd) (S : FnScope N ps (defScope st)) (b : Binds K fd ps [])
    (hbody : ∀ (cdv : Value) (A : Around) (outer : List Env) (s : Shared) (H : Hp) (E : XK), Room k (bodyX P w K mg base N qual st f cdv A outer s H E).A → ∀ ds rt xs, φ ds rt xs → ds.length = ps.length →
      WD (bodyX P w K mg base N qual st f cdv A outer s H E) (fun x _ => xs x) (defBody st) (env0 N ds) { nx := fun _ => rt false .non, rt := fun o d _ => rt o d }) :
    FnD P w K mg base (k + 1) f ps.length φ := ⟨⟨fd, ps, fn_OK F S hbody, b⟩, F.kp⟩
end
end DL

/-! DL10: exceptions made, raised, caught. -/
namespace DL
open PySem L2 PySem.Spec PyProof.Rows
/-- what the written part says of the class whose __init__ is called by the subclasses: it is ValueError's -/
structure JIn (K : PySem.W.Frag) (C : Addr) : Prop where
  rd : PySem.W.readsIn K C (.type "type") = true
  ga : PySem.W.specialIn K (.ref C) "__getattribute__" = some (some (.builtin "type.__getattribute__"))
  at_ : PySem.W.findCls K (.ref C) (.type "type") "__init__" = some (.val (.builtin "ValueError.__init__"))
section
variable {X : Cx} {e : Expr} {es : List Expr} {ta : TA} {x : Str} {p1 p2 pos : Pos} {CJ : Addr}
/-- J.__init__(self, ..) -/
theorem pe_jinit {pl : Sem Bool} (hg : Gl X x) (hm : X.mg x = some (.ref CJ)) (J : JIn X.K CJ) (ha : PA X (e :: es) ta)
    (hdb : (x == ("__debug__" : Str)) = false := by decide)
    (hc : eval (.Call (.Attribute (.Name x p1) "__init__" p2) (e :: es) [] pos) X.env = (do
      let ov ← eval (.Name x p1) X.env
      standAt p2.atName
      let (f, first) ← holding [ov] (getMethod ov "__init__" pl)
      callWith pos f first (backTo pos (starEach (e :: es) X.env)) (backToKw pos (keywordEach [] X.env))) := by rfl)
    (he : starEach (e :: es) X.env = (false, eval e X.env) :: starEach es X.env := by rfl) (hpl : (backTo pos (starEach es X.env)).any (·.1) = false := by rfl) :
    PE X (.Call (.Attribute (.Name x p1) "__init__" p2) (e :: es) [] pos) (tVeI X.K ta) := by
  refine ⟨fun pins s σ H Q I h => ?_⟩
  refine PySem.W.methodCall_KW (ld_glob I hg hm ?_ hdb) hc
  refine PySem.W.method_cls I.kIn J.ga (PySem.W.cls_value I.kIn J.rd J.at_ (by decide +kernel) ?_)
  show wpAny _ _ (callWith pos (Value.builtin "ValueError.__init__") [] (backTo pos (starEach (e :: es) X.env)) []) _ _ _
  refine PyProof.Rows.callWith_method1 (thn (ha.run pos pins _ σ H _ (I.tok _) h) fun us s1 ⟨vs, H1, I1, r1, a, C, ws, ev, hl, T, ea, q⟩ => ?_) he hpl
  subst ev
  cases r1 with
  | @cons _ u0 _ ur ra rw' =>
    obtain rfl : u0 = Value.ref a := ra
    have hlen : ur.length ≤ sizeLine := by
      rw [← Paired.length rw', sizeLine_eq]
      omega
    exact oinit_ok T I1 ea hlen fun s' J => ⟨.non, H1, J, rfl, q⟩
end
/-- an error class's __init__: its fields in order -/
def spE (C : Addr) (names : List Str) : Sp := fun vs H Q _ => ∃ a ys, vs = .ref a :: ys ∧ ys.length = names.length ∧ H a = some (exo a C none) ∧
  ∀ d, H d = none → d ≠ a → Q .non (upd (upd H d (exd d (names.zip ys).reverse)) a (exo a C (some d)))
theorem upd_swap {H : Hp} {a b : Addr} {o u : HO} (h : a ≠ b) : upd (upd H a o) b u = upd (upd H b u) a o := by
  funext c
  unfold upd
  by_cases h1 : c = b
  · by_cases h2 : c = a
    · exact absurd (h2.symm.trans h1) h
    · rw [if_pos h1, if_neg h2, if_pos h1]
  · by_cases h2 : c = a
    · rw [if_neg h1, if_pos h2, if_pos h2]
    · rw [if_neg h1, if_neg h2, if_neg h2, if_neg h1]
/-- an error class: where it stands, its fields -/
structure ErrC (P : Program) (w : World) (K : PySem.W.Frag) (mg : Str → Option Value) (base : Heap) (x : Str) (C : Addr) (names : List Str) : Prop where
  gC : mg x = some (.ref C)
  T : OexC K C
  init : ∃ fI fd ps, PySem.W.findIn K (.ref C) "__init__" = some (some (.ref fI)) ∧ PySem.W.typeIn K (.ref fI) = some (.type "function") ∧ FnOk P w K mg base CX0 1 fI fd ps (spE C names) ∧ Binds K fd ps []
/-- the readings of the two shapes of __init__ end so -/
theorem err_fin1 {K : PySem.W.Frag} {C a : Addr} {f1 : Str} {m : Str} {y : V} {H : Hp} {Q : VK} {D : Ends} {σ : L2.St} (T : OexC K C) (ha : H a = some (exo a C none)) (h1 : PySem.W.findIn K (.ref C) f1 = some none) (hD : D.nx σ = fun H' => Q .non H')
    (k : ∀ d, H d = none → d ≠ a → Q .non (upd (upd H d (exd d (([f1] : List Str).zip [y]).reverse)) a (exo a C (some d)))) (hσ0 : σ[0]? = some (some (.ref a))) (hσ1 : σ[1]? = some (some y)) :
    tSeq (tDrop (tVeI K (tCons (tVar 0) (tCons (tC (.str m)) tNil)))) (tOst K f1 (tVar 0) (tVar 1)) D σ H :=
  ⟨_, hσ0, a, C, [.str m], rfl, (by show 1 ≤ 1000; decide), T, ha, _, hσ1, _, hσ0, a, C, rfl, T, h1, .inl ⟨ha, fun d e1 e2 => by rw [hD]; exact k d e1 e2⟩⟩
theorem err_fin2 {K : PySem.W.Frag} {C a : Addr} {f1 f2 : Str} {m : Str} {y z : V} {H : Hp} {Q : VK} {D : Ends} {σ : L2.St} (T : OexC K C) (ha : H a = some (exo a C none)) (h1 : PySem.W.findIn K (.ref C) f1 = some none) (h2 : PySem.W.findIn K (.ref C) f2 = some none) (hD : D.nx σ = fun H' => Q .non H')
    (k : ∀ d, H d = none → d ≠ a → Q .non (upd (upd H d (exd d (([f1, f2] : List Str).zip [y, z]).reverse)) a (exo a C (some d)))) (hσ0 : σ[0]? = some (some (.ref a))) (hσ1 : σ[1]? = some (some y)) (hσ2 : σ[2]? = some (some z)) :
    tSeq (tDrop (tVeI K (tCons (tVar 0) (tCons (tC (.str m)) tNil)))) (tSeq (tOst K f1 (tVar 0) (tVar 1)) (tOst K f2 (tVar 0) (tVar 2))) D σ H := by
  refine ⟨_, hσ0, a, C, [.str m], rfl, (by show 1 ≤ 1000; decide), T, ha, _, hσ1, _, hσ0, a, C, rfl, T, h1, .inl ⟨ha, fun d e1 e2 => ?_⟩⟩
  refine ⟨_, hσ2, _, hσ0, a, C, rfl, T, h2, .inr ⟨d, _, upd_same, by rw [upd_ne e2, upd_same], (by show 1 ≤ 900; decide), ?_⟩⟩
  have hD' : D.nx σ = fun H' => Q .non H' := hD
  rw [hD']
  have e := k d e1 e2
  have e3 : upd (upd (upd H d (exd d [(f1, y)])) a (exo a C (some d))) d (exd d ((f2, z) :: [(f1, y)])) = upd (upd H d (exd d (([f1, f2] : List Str).zip [y, z]).reverse)) a (exo a C (some d)) := by
    rw [upd_swap (Ne.symm e2), upd_upd]; rfl
  rw [e3]
  exact e
section
variable {X : Cx} {ex : EX} {Γ : En} {P : Po} {pos p pos2 : Pos}
theorem zip_rep {K : PySem.W.Frag} {G : Gh} : ∀ {ns : List Str} {ds : List D} {vs : List V}, Reps K G ds vs → RepF K G (ns.zip ds) (ns.zip vs)
  | [], _, _, _ => .nil
  | _ :: _, _, _, .nil => .nil
  | n :: ns, _, _, .cons r q => .cons r (zip_rep q)
theorem RepF.append {K : PySem.W.Frag} {G : Gh} : ∀ {xs ys : List (Str × D)} {vs ws : List (Str × V)}, RepF K G xs vs → RepF K G ys ws → RepF K G (xs ++ ys) (vs ++ ws)
  | _, _, _, _, .nil, s => s
  | _, _, _, _, .cons r t, s => .cons r (RepF.append t s)
theorem RepF.reverse {K : PySem.W.Frag} {G : Gh} : ∀ {xs : List (Str × D)} {vs : List (Str × V)}, RepF K G xs vs → RepF K G xs.reverse vs.reverse
  | _, _, .nil => .nil
  | _, _, .cons r t => by rw [List.reverse_cons, List.reverse_cons]; exact (RepF.reverse t).append (.cons r .nil)
/-- raise C(e, ..), an error class with its own fields -/
theorem w_raise {x : Str} {C : Addr} {names : List Str} {e : Expr} {es : List Expr} (T : ErrC X.prog X.w X.K X.mg X.base x C names) (hc : X.calm = true) (hr : Room 2 X.A) (hg : Gl X x)
    (h : EA X (fun x => ex x Γ) (e :: es) Γ fun ds => ds.length = names.length ∧ ds.all flat = true ∧ ex ⟨C, (names.zip ds).reverse⟩ Γ) (hn : names.length ≤ 10)
    (hdb : (x == ("__debug__" : Str)) = false := by decide) (he : starEach (e :: es) X.env = (false, eval e X.env) :: starEach es X.env := by rfl) (hpl : (backTo pos (starEach es X.env)).any (·.1) = false := by rfl) :
    W1 X ex (.Raise (some (.Call (.Name x p) (e :: es) [] pos)) none pos2) Γ P := by
  intro F σ G H E W xk Dn lk
  obtain ⟨fI, fd, ps, iC, tI, F1, b⟩ := T.init
  refine tW1_of (ps_raise hc xk.tk (pmk_oex T.T iC tI F1 hr b .nil pass0 hg T.gC (ta := tWa X (e :: es)) pa_W hdb he hpl)) ?_
  refine h σ G H E.loc W xk.te (xk.lk.at E) _ fun ds vs G1 H1 h1 s1 r1 => ?_
  refine ⟨by rw [← r1.length, h1.1]; omega, fun a hna => ⟨a, vs, by rw [List.append_nil], by rw [← r1.length]; exact h1.1, upd_same, fun d hnd hda => ⟨rfl, d, _, upd_same, by rw [upd_ne hda, upd_same], ?_, ?_⟩⟩⟩
  · rw [upd_ne hda] at hnd; exact hnd
  · have hnd' : H1 d = none := by rw [upd_ne hda] at hnd; exact hnd
    have eH : upd (del (upd (upd (upd H1 a (exo a C none)) d (exd d (names.zip vs).reverse)) a (exo a C (some d))) a) d (.xd (names.zip vs).reverse) = upd H1 d (.xd (names.zip vs).reverse) := by
      funext b
      by_cases hb : b = d
      · rw [hb, upd_same, upd_same]
      · rw [upd_ne hb, upd_ne hb]
        by_cases ha : b = a
        · rw [ha, del_same, hna]
        · rw [del_ne ha, upd_ne ha, upd_ne hb, upd_ne ha]
    rw [eH]
    have s2 : Step0 G1 H1 G1 (upd H1 d (.xd (names.zip vs).reverse)) := .alloc s1.ext hnd'
    refine xk.lk ⟨C, (names.zip ds).reverse⟩ _ _ G1 _ σ Γ h1.2.2 (E.go (s1.trans s2)) (s1.trans s2).le ⟨rfl, .inr ⟨d, _, rfl, upd_same, s1.ext.gfree hnd', E.step.free (s1.free hnd'), (zip_rep r1).reverse, ?_⟩⟩
    show ((names.zip ds).reverse).all (fun p => flat p.2) = true
    rw [List.all_reverse, List.all_eq_true]
    intro q hq
    exact List.all_eq_true.mp h1.2.1 q.2 (List.of_mem_zip hq).2
/-- an error class without fields, made with a text -/
structure ErrT (K : PySem.W.Frag) (mg : Str → Option Value) (x : Str) (C : Addr) : Prop where
  gC : mg x = some (.ref C)
  exI : PySem.W.excIn K C [.type "ValueError", .type "Exception", .type "BaseException", .type "object"] "ValueError.__new__" = true
  kC : PySem.W.keepIn K (.ref C) = true
  exC : PySem.W.subIn K (.ref C) (.type "BaseException") = some true
  tyC : PySem.W.typeIn K (.ref C) = some (.type "type")
theorem w_raiseT {x m : Str} {C : Addr} {j : Nat} {p2 : Pos} (T : ErrT X.K X.mg x C) (hc : X.calm = true) (hg : Gl X x) (h : ex ⟨C, []⟩ Γ) (hdb : (x == ("__debug__" : Str)) = false := by decide) :
    W1 X ex (.Raise (some (.Call (.Name x p) [.Constant (.str m) j p2] [] pos)) none pos2) Γ P := by
  intro F σ G H E W xk Dn lk
  refine tW1_of (ps_raise hc xk.tk (pmk_own PySem.F.excBase_ValueError T.exI T.gC T.kC (raises_own T.exC T.tyC) hg hdb)) ?_
  exact xk.lk ⟨C, []⟩ _ _ G H σ Γ h E (Le.refl _) ⟨rfl, .inl ⟨rfl, rfl⟩⟩
/-! ### try .. except -/
/-- nothing leaves -/
abbrev noEx : EX := fun _ _ => False
theorem xok_suite {F : Fm} {X : Cx} {G : Gh} (h : X.xe = fun _ _ => False) : XOk X F G noEx (fun _ _ _ _ => False) :=
  ⟨takes0, by rw [h]; exact PassesOwn.never, fun _ _ _ _ _ _ _ hx => hx.elim⟩
/-- try: body except x: suite (no name) -/
theorem w_try {x : Str} {c : Value} {body suite : List Stmt} {b₀ : Stmt} {np pos' : Pos} (hs : X.stack = X.env :: X.outer) (hf : X.env.frame = some X.env.locals) (hc : Names X x c)
    (h : ∀ (pn : List (Addr × Obj)) (xe : Value → Shared → Prop), WD (X.tr pn xe) (fun y Γ' => ∃ b, PySem.W.exmOne X.K (.ref y.cls) c = some b ∧ (b = true → ∀ a q pn, WD (X.suite a (q :: pn)) noEx (b₀ :: suite) Γ' P) ∧ (b = false → ex y Γ')) body Γ P) :
    W1 X ex (.Try body [.ExceptHandler (some (.Name x np)) none (b₀ :: suite) pos'] [] [] pos) Γ P := by
  intro F σ G H E W xk Dn lk
  refine tW1_of (ps_try_only (tb := fun W' D σ H => ∀ (pn : List (Addr × Obj)) (xe : Value → Shared → Prop), Takes (X.tr pn xe) W' → PassesOwn (model X.prog X.w) X.A X.env xe → tWs (X.tr pn xe) body D σ H)
    (ts := fun a cls d D σ H => ∀ (oe : Obj) (pn : List (Addr × Obj)), tWs (X.suite a ((a, oe) :: pn)) (b₀ :: suite) D σ H) hs hf hc xk.tk
    (fun W' pn xe tk po => ⟨fun pins s σ H D I hh => hh pn xe tk po pins s I⟩) (fun a oe cls d pn hz hd => ⟨fun pins s σ H D I hh => hh oe pn pins s I⟩)) ?_
  intro pn xe tk po
  refine h pn xe F σ G H E _ ⟨tk, po, fun y cv d G1 H1 σ1 Γ1 hy E1 le he => ?_⟩ Dn lk
  obtain ⟨b, hb, hy1, hy0⟩ := hy
  obtain ⟨rfl, he'⟩ := id he
  refine ⟨b, hb, fun eb a _ oe pn' => ?_, fun eb => xk.lk y _ d G1 H1 σ1 Γ1 (hy0 eb) E1 le he⟩
  exact hy1 eb a (a, oe) pn' F σ1 G1 H1 E1 _ (xok_suite rfl) Dn (lk.go le)
end
end DL

/-! DL11: list comprehensions; what is raised within them goes on. -/
namespace DL
open PySem L2 PySem.Spec PyProof.Rows
/-- the block's context with a wish about what is raised -/
abbrev blkX (X : Cx) (s : Shared) (H : Hp) (scope : Scope) (ce : Env) (fp : List Addr) (xe : Value → Shared → Prop) : Cx := (X.blk s H scope ce fp).tr [] xe
section
variable {X : Cx} {pins : List (Addr × Obj)} {σ : L2.St} {H H3 : Hp} {s s3 : Shared} {W : WX}
theorem held_hide {B h1 h2 : Heap} {l : List Env} {a C L : Addr} {Z : Obj → Prop} {m m2 : Str → Option Value} (hh : HandSPX.HeldZ B l a Z L h1) (n1 : h1.Ns C m) (n2 : h2.Ns C m2) (sb : Heap.SameBut C h1 h2) : HandSPX.HeldZ (PySem.W.hideAll B [C]) l a Z L h2 := by
  obtain ⟨k1, k2, k3, oe, vs, T, oT, ts, t1, t2, t3, t4, t5, t6, t7, t8, t9⟩ := hh
  obtain ⟨oC, es, ep, c1, c2, _⟩ := n1
  have hid : ∀ b o, (PySem.W.hideAll B [C]).get? b = some o → B.get? b = some o ∧ b ≠ C := fun b o e => ⟨PySem.W.of_hideAll _ e, fun z => by rw [z, PySem.W.hideAll_none [C] (List.mem_singleton.mpr rfl)] at e; cases e⟩
  have hno : ∀ b, B.get? b = none → (PySem.W.hideAll B [C]).get? b = none := fun b e => by
    cases q : (PySem.W.hideAll B [C]).get? b with
    | none => rfl
    | some o => have z := (hid b o q).1; rw [e] at z; cases z
  have aC : a ≠ C := fun z => by rw [z, c1] at t1; cases t1; rw [c2] at t3; cases t3
  have TC : T ≠ C := fun z => by rw [z, c1] at t7; cases t7; rw [c2] at t8; cases t8
  refine ⟨fun b o e => (sb.2 b (hid b o e).2).trans (k1 b o (hid b o e).1), hno a k2, Heap.FunFrames.sameBut sb n2 (funFrames_none k3 fun b hb => hno b (k3.mem hb).1), ?_⟩
  exact ⟨oe, vs, T, oT, ts, (sb.2 a aC).trans t1, t2, t3, t4, hno T t5, t6, (sb.2 T TC).trans t7, t8, t9⟩
/-- what a call in the block lets out goes on in the def -/
theorem blk_calls {scope : Scope} {cl : List (Str × Addr)} {C : Addr} {fp : List Addr} {xe : Value → Shared → Prop} (I3 : L2.Inv X pins σ H3 s3) (hs : X.stack = X.env :: X.outer) (hf : X.env.frame = some X.env.locals) (tk : Takes X W)
    (f3 : ∀ b ∈ fp, FpOk X pins H3 b) (hC : s3.heap.objs.size ≤ C) (hxe : xe = notedBy (model X.prog X.w) X.A (compEnvC scope cl C X.env) (CompFails (model X.prog X.w) X.A X.xe (compEnvC scope cl C X.env))) :
    Tk (blkX X s3 H3 scope (compEnvC scope cl C X.env) fp xe) (fun c d _ H => W c d σ H) := by
  refine ⟨fun σb pinsb Hb sb u s' Ib cx => ?_, fun z => ?_⟩
  · obtain ⟨mC, nC, _⟩ := id Ib.loc
    have hCn : Hb C = none := Ib.free
    have I7 : L2.Inv X pins σ Hb sb := I3.call' (ch := fp) Ib.os Ib.base Ib.hok Ib.bare fun b hb => ⟨(f3 b hb).2.2.2.1, (f3 b hb).2.1, (f3 b hb).2.2.2.2.1, (f3 b hb).2.2.2.2.2⟩
    have fC : FpOk X pins Hb C := I3.fpOk hC hCn
    obtain ⟨oC, es, ep, eC, rC⟩ := nC
    have hCf : C ∉ frs X.stack := fun hm => (List.mem_cons.mp (I7.stkSub C hm)).elim fC.2.1 fC.2.2.1
    obtain ⟨a0, B0, H0', cls0, d0, e0, fl0, hok0, ub0, na0, os0, ag0, hE0⟩ := cx
    have ns' : s'.heap.Ns C mC := ⟨oC, es, ep, fl0.1 C oC (ub0.keep C oC eC hCn hCf), rC⟩
    have cx' : L2.CX X.prog X.w X.stack Hb sb (fun c d H => H C = none ∧ W c d σ H) u s' := ⟨a0, B0, H0', cls0, d0, e0, fl0, hok0, ub0, na0, os0, ag0, ub0.free C oC eC hCn, hE0⟩
    obtain ⟨a, B, sI, pins', σ', H', cls, d, eu, I, nb, up, sky, na, os, ag, w⟩ := XE.of_call (X := X) (W := fun c d σ'' H => σ'' = σ ∧ H C = none ∧ W c d σ H) I7 (fun c d H h => ⟨rfl, h⟩) cx'
    obtain ⟨eσ, hC', w⟩ := w
    subst eσ
    subst eu
    have I' : L2.Inv X [] σ' H' { sI with heap := PySem.W.hideAll sI.heap [C] } :=
      (I.unpinned (pins := [])).turned (t' := sI.toks) (it := C) (fun b o hb e => PySem.W.hideAll_get _ e fun z => hb (List.mem_singleton.mp z)) hC' fC.2.1 fC.2.2.2.1 fC.2.2.2.2.1 fun p hp => fC.2.2.2.2.2 p (by rw [List.append_nil] at hp; exact List.mem_append_left _ hp)
    have hidI : ∀ b o, (PySem.W.hideAll sI.heap [C]).get? b = some o → sI.heap.get? b = some o ∧ b ≠ C := fun b o e => ⟨PySem.W.of_hideAll _ e, fun z => by rw [z, PySem.W.hideAll_none [C] (List.mem_singleton.mpr rfl)] at e; cases e⟩
    have hfr : X.A.frames = some (X.env :: X.outer) := by rw [I3.ok.frames, hs]
    have fin : ∀ h1, HandSPX.HeldZ B (X.env :: X.outer) a (Zc cls d) X.env.locals h1 → s'.heap.UpToSlots h1 → CompFails (model X.prog X.w) X.A X.xe (compEnvC scope cl C X.env) (.ref a) { s' with heap := h1 } := fun h1 hh up1 => by
      have n1 : h1.Ns C mC := up1.ns ns'
      refine ⟨mC, n1, fun h2 m2 n2 sb2 => ?_⟩
      have hh2 := held_hide hh n1 n2 sb2
      obtain ⟨k1, k2, k3, oe, vs, T, oT, ts, t1, t2, t3, t4, t5⟩ := id hh2
      unfold PySem.passOn
      refine wpAny_bind (wpAny_field t1 t3 t4 ?_)
      rw [if_neg (show ¬ ((Value.ref T == Value.none) = true) from by simp)]
      show wpAny _ _ (do setFlight (.ref a) X.env.frame; throw (Value.ref a)) _ _ _
      rw [hf]
      refine wpAny_bind (HandSPX.setFlight_onZ hh2 fun h3 hh3 up3 => wpAny_throw (tk _ _ ⟨a, PySem.W.hideAll B [C], { sI with heap := PySem.W.hideAll sI.heap [C], toks := sI.toks }, [], σ', H', cls, d, rfl, I', fun b o e hb => ?_, fun b o e hn => ?_, ?_, na, os, ag, w⟩))
      · obtain ⟨e1, e2⟩ := hidI b o e
        exact PySem.W.hideAll_get _ (nb b o e1 hb) fun z => e2 (List.mem_singleton.mp z)
      · obtain ⟨e1, e2⟩ := hidI b o e
        obtain ⟨sl, q1⟩ := (up.trans up1) b o e1 hn
        obtain ⟨sl2, q2⟩ := up3 b _ ((sb2.2 b e2).trans q1) hn
        exact ⟨sl2, q2⟩
      · rw [hs]; exact .inr (.inr hh3)
    show xe (.ref a) s'
    rw [hxe]
    show wpAny _ X.A (noteFrame (.ref a) (compEnvC scope cl C X.env)) _ _ s'
    rw [noteFrame_env (Value.ref a) (show (compEnvC scope cl C X.env).frame = X.env.frame from rfl)]
    rw [hs] at sky
    rcases sky with ⟨hB, hn, hl, oe, vs, he, hz, hd, h1⟩ | fl | hd
    · exact HandSPX.look_newZ Zc.steady hfr hl hf he hB hn hd h1 hz fin
    · exact HandSPX.looks_onZ Zc.steady hfr hf fl fin
    · exact HandSPX.againZ hf hd.2.2.2 (fin s'.heap hd (Heap.UpToSlots.refl _))
  · have z : X.env.frame = some C := z
    rw [hf] at z
    cases z
    exact absurd (Nat.lt_of_lt_of_le I3.lt hC) (Nat.lt_irrefl _)
def tWts (X : Cx) (ifs : List Expr) : TT := fun σ H Q => ∀ pins s, L2.Inv X pins σ H s →
  wpAny (model X.prog X.w) X.A (forIn ifs true fun c r => if r = true then do let ok ← isTrue c X.env (eval c X.env); pure (ForInStep.yield ok) else pure (ForInStep.yield r)) (TP X pins σ Q) X.xe s
/-- the reading of a comprehension, its block any -/
def tLcB (X : Cx) (scope : Scope) (W : WX) (tg : Expr) (ifs : List Expr) (elt : Expr) (wi : TI) (vs : List Nat) : TE := fun σ H Q => wi σ H fun J H1 => ∀ D, H1 D = none →
  ∀ s0 H0 C cl fp xe, Tk (blkX X s0 H0 scope (compEnvC scope cl C X.env) fp xe) W → ∃ Wm : Nat → Nat → Hp → Prop, (∃ m, Wm 0 m (upd H1 D (.lst []))) ∧ ∀ i m H, Wm i m H →
    (J.stop i H ∧ Q (.ref D) H) ∨ (J.go i H ∧ ∃ Nx : Hp → Prop, (∀ H', Nx H' → ∃ m', m' < m ∧ Wm (i + 1) m' H') ∧ ∀ x H', J.yld i H x H' → tWg (blkX X s0 H0 scope (compEnvC scope cl C X.env) fp xe) tg x (wipe σ vs) H' fun σ2 H2 => wipe σ2 vs = wipe σ vs ∧
      tWts (blkX X s0 H0 scope (compEnvC scope cl C X.env) fp xe) ifs σ2 H2 fun b H3 => if b = true then tW (blkX X s0 H0 scope (compEnvC scope cl C X.env) fp xe) elt σ2 H3 fun y H4 => ∃ acc, H4 D = some (.lst acc) ∧ acc.length < sizeLine ∧ Nx (upd H4 D (.lst (acc ++ [y]))) else Nx H3)
/-- the comprehension -/
theorem lcE_core {Q : VK} {elt tg iter : Expr} {ifs : List Expr} {scope : Scope} {own : List (Str × Nat)} {pos pos' : Pos} {wi : TI} {use : Option (Value → Sem Unit)} {Qf : Value → Shared → Prop}
    (hs : X.stack = X.env :: X.outer) (hf : X.env.frame = some X.env.locals) (tk : Takes X W) (hc : X.calm = true) (hN : X.N.Nodup) (I : L2.Inv X pins σ H s) (hi : PI X tg iter wi) (bo : BlkOk X.N X.env.scope scope own)
    (hfold : ∀ x, foldedSetIterable iter X.env x = pure x) (h : tLcB X scope (fun c d _ H => W c d σ H) tg ifs elt wi (own.map (·.2)) σ H Q)
    (out : ∀ D s' m H' (ce : Env), L2.Inv X pins σ H' s' → Q (.ref D) H' → s'.heap.Ns ce.locals m → FpOk X pins H' ce.locals → compEnds (model X.prog X.w) X.A X.xe use Qf (.ref D) ce (.ok .next) s') :
    wpAny (model X.prog X.w) X.A (comprehension (.ListComp elt [⟨tg, iter, ifs, 0⟩] scope pos) scope X.env pos' (newList []) false (eval iter X.env) use) Qf X.xe s := by
  have caught : ∀ y ∈ scope.names, y.2 = .free → ∃ c, X.env.cells.lookup y.1 = some c := fun y hy e => (bo.free y hy e).elim (fun k => I.ok.has _ (.inl k)) (fun k => I.ok.has _ (.inr k))
  refine comprehension_at (use := use) rfl hfold (closure_ok caught) bo.kind (fun y hy e => (bo.uniq y hy).trans (congrArg some e)) (thn (hi.run pins s σ H _ I h) fun xv s1 k1 => thn k1 fun itv s2 k2 => ?_)
  obtain ⟨it, fp, tn, J, H2, eit, I2, T, st2, f2, q⟩ := k2
  subst eit
  refine wpAny_newObj_type (newEnv_comp ?_) (Nat.zero_le _)
  have q := q s2.heap.objs.size (I2.hok.fresh (Nat.le_refl _))
  have J3 : L2.Inv X pins σ (upd H2 s2.heap.objs.size (.lst [])) { s2 with heap := s2.heap.push { cls := .type "list", data := .seq ([] : List Value).toArray } } :=
    I2.laid (t' := s2.toks) (fun b o e => Heap.get?_push_of_some _ e) (Nat.le_refl _) ⟨Nat.zero_le _, [], 0, .nil, Heap.get?_push_size _ rfl⟩
  have le3 : s2.heap.objs.size < (s2.heap.push { cls := .type "list", data := .seq ([] : List Value).toArray }).objs.size := by rw [Heap.size_push]; exact Nat.lt_succ_self _
  have f3' : ∀ b ∈ fp, FpOk X pins (upd H2 s2.heap.objs.size (.lst [])) b ∧ b < (s2.heap.push { cls := .type "list", data := .seq ([] : List Value).toArray }).objs.size := fun b hb => by
    obtain ⟨o, e, _⟩ := T.obj _ _ st2 b hb
    have lt := Heap.lt_size e
    exact ⟨⟨(upd_ne (Nat.ne_of_lt lt)).trans (f2 b hb).1, (f2 b hb).2⟩, Nat.lt_trans lt le3⟩
  have t3' : tn 0 (s2.heap.push { cls := .type "list", data := .seq ([] : List Value).toArray }) := T.keep _ _ _ st2 fun b _ o e => Heap.get?_push_of_some _ e
  generalize hsh : ({ s2 with heap := s2.heap.push { cls := .type "list", data := .seq ([] : List Value).toArray } } : Shared) = s3 at J3
  have eh : s2.heap.push { cls := .type "list", data := .seq ([] : List Value).toArray } = s3.heap := by rw [← hsh]
  rw [eh] at le3 f3' t3'
  have J4 := block_start J3 bo hN f3'
  generalize s2.heap.objs.size = D at J3 f3' J4 q ⊢
  generalize upd H2 D (.lst []) = H3 at J3 f3' J4 q ⊢
  show codeAny _ _ (.compStart (.ListComp elt [⟨tg, iter, ifs, 0⟩] scope pos) 0 (.ref it) (.ref D) (compEnvC scope (cellsFrom (s3.heap.objs.size + 1) scope.names (cloFrom X.env.cells scope.names [])) s3.heap.objs.size X.env))
    (compEnds (model X.prog X.w) X.A X.xe use Qf (.ref D) (compEnvC scope (cellsFrom (s3.heap.objs.size + 1) scope.names (cloFrom X.env.cells scope.names [])) s3.heap.objs.size X.env)) { s3 with heap := pushCells (s3.heap.push { cls := .type "dict", data := .dict #[] }) scope.names }
  generalize cellsFrom (s3.heap.objs.size + 1) scope.names (cloFrom X.env.cells scope.names []) = cl at J4 ⊢
  have t4 : tn 0 (pushCells (s3.heap.push { cls := .type "dict", data := .dict #[] }) scope.names) := T.keep _ _ _ t3' fun b _ o e => pushCells_keeps _ _ _ _ (Heap.get?_push_of_some _ e)
  generalize hs4 : ({ s3 with heap := pushCells (s3.heap.push { cls := .type "dict", data := .dict #[] }) scope.names } : Shared) = s4 at J4 ⊢
  have t4 : tn 0 s4.heap := by rw [← hs4]; exact t4
  -- the wish about raises
  have hxe : notedBy (model X.prog X.w) X.A (compEnvC scope cl s3.heap.objs.size X.env) (fun e s' => compEnds (model X.prog X.w) X.A X.xe use Qf (.ref D) (compEnvC scope cl s3.heap.objs.size X.env) (.error e) s') =
      notedBy (model X.prog X.w) X.A (compEnvC scope cl s3.heap.objs.size X.env) (CompFails (model X.prog X.w) X.A X.xe (compEnvC scope cl s3.heap.objs.size X.env)) := by cases use <;> rfl
  have tkb := blk_calls (fp := fp) (xe := _) J3 hs hf tk (fun b hb => (f3' b hb).1) (Nat.le_refl _) hxe
  obtain ⟨Wm, ⟨m0, w0⟩, turn⟩ := q s3 H3 s3.heap.objs.size cl fp _ tkb
  have J5 := J4.toTry (notedBy (model X.prog X.w) X.A (compEnvC scope cl s3.heap.objs.size X.env) (fun e s' => compEnds (model X.prog X.w) X.A X.xe use Qf (.ref D) (compEnvC scope cl s3.heap.objs.size X.env) (.error e) s'))
  have fresh : ∀ b ∈ fp, H3 b = none := fun b hb => (f3' b hb).1.1
  have eqL : (compEnvC scope cl s3.heap.objs.size X.env).locals = s3.heap.objs.size := rfl
  clear I2 J4 hs4 hsh h q
  generalize hce : compEnvC scope cl s3.heap.objs.size X.env = ce at *
  generalize hEE : notedBy (model X.prog X.w) X.A ce (fun e s' => compEnds (model X.prog X.w) X.A X.xe use Qf (.ref D) ce (.error e) s') = EE at *
  have foot : ∀ {pb : List (Addr × Obj)} {σ' : L2.St} {H' : Hp} {s' : Shared}, L2.Inv (blkX X s3 H3 scope ce fp EE) [] σ' H' s' → (∀ b ∈ fp, H' b = none) → ∀ b ∈ fp, FpOk (blkX X s3 H3 scope ce fp EE) [] H' b := fun {pb σ' H' s'} I' hn b hb =>
    ⟨hn b hb, (I'.ok.exf b hb).1, I'.ok.exfs b hb, .inl hb, fun x c e => (I'.ok.exf b hb).2 x c e, fun p hp => absurd (show p ∈ ([] : List (Addr × Obj)) ++ [] from hp) (by simp)⟩
  have loop : codeAny (model X.prog X.w) X.A (.compLoop (.ListComp elt [⟨tg, iter, ifs, 0⟩] scope pos) 0 (.ref it) (.ref D) ce) (compEnds (model X.prog X.w) X.A X.xe use Qf (.ref D) ce) s4 := by
    refine compLoop_any (fun n u => ∃ i Hn, L2.Inv (blkX X s3 H3 scope ce fp EE) [] (wipe σ (own.map fun p : Str × Nat => p.2)) Hn u ∧ tn i u.heap ∧ (∀ b ∈ fp, Hn b = none) ∧ Wm i n Hn) ?_ m0 ⟨0, H3, J5, t4, fresh, w0⟩
    rintro n u ⟨i, Hn, Iu, tu, nu, wu⟩
    rw [hEE]
    rcases turn i n Hn wu with ⟨stop, qq⟩ | ⟨go, Nx, hNx, step⟩
    · refine thn (T.done (blkX X s3 H3 scope ce fp EE) rfl rfl rfl hc i [] u _ Hn EE Iu (foot (pb := []) Iu nu) tu stop) fun r v ⟨hr, Iv⟩ => ?_
      subst hr
      have I7 : L2.Inv X pins σ Hn v := J3.call' (ch := fp) Iv.os Iv.base Iv.hok Iv.bare fun b hb => ⟨(f3' b hb).1.2.2.2.1, (f3' b hb).1.2.1, (f3' b hb).1.2.2.2.2.1, (f3' b hb).1.2.2.2.2.2⟩
      have nC : Hn ce.locals = none := Iv.free
      obtain ⟨m, hm, _⟩ := Iv.loc
      exact out D v m Hn ce I7 qq hm (J3.fpOk (Nat.le_of_eq eqL.symm) nC)
    · refine thn (T.item (blkX X s3 H3 scope ce fp EE) rfl rfl rfl hc i [] u _ Hn EE Iu (foot (pb := []) Iu nu) tu go) fun r v ⟨z, hr, k6⟩ => ?_
      subst hr
      refine thn k6 fun _ v7 ⟨x, H7, I7, r7, y7, t7, n7⟩ => ?_
      have I7' := I7.pinned (foot (pb := []) I7 n7) (T.obj _ _ t7)
      refine thn (step x H7 y7 _ v7 z I7' r7) fun _ v8 ⟨σ8, H8, I8, hw8, q8⟩ => ?_
      refine thn (q8 _ v8 I8) fun b v9 ⟨H9, I9, q9⟩ => ?_
      have fin : ∀ {u' : Shared} {Hm : Hp}, L2.Inv (blkX X s3 H3 scope ce fp EE) ([] ++ pinsAt fp v7.heap) σ8 Hm u' → Nx Hm → ∃ m, m < n ∧ ∃ i Hn, L2.Inv (blkX X s3 H3 scope ce fp EE) [] (wipe σ (own.map fun p : Str × Nat => p.2)) Hn u' ∧ tn i u'.heap ∧ (∀ b ∈ fp, Hn b = none) ∧ Wm i m Hn := fun {u' Hm} Im nx => by
        obtain ⟨m', hm, w'⟩ := hNx Hm nx
        have pin' : ∀ b ∈ fp, ∀ o, v7.heap.get? b = some o → u'.heap.get? b = some o ∧ Hm b = none := fun b hb o e =>
          let z := Im.pin (b, o) (List.mem_append_right _ (List.mem_append_right _ (mem_pinsAt hb e)))
          ⟨z.1, z.2.1⟩
        refine ⟨m', hm, i + 1, Hm, (Im.unpinned (pins := [])).weak (by rw [← hw8, wipe_length]) (fun j y e => ?_), T.keep _ _ _ t7 fun b hb o e => (pin' b hb o e).1, fun b hb => ?_, w'⟩
        · rw [← hw8] at e
          exact (wipe_some e).1
        · obtain ⟨o, e, _⟩ := T.obj _ _ t7 b hb
          exact (pin' b hb o e).2
      cases b with
      | false => exact fin I9 q9
      | true =>
        refine thn (q9 _ v9 I9) fun z v10 ⟨yv, H10, I10, r10, acc, hD10, hz10, nx⟩ => ?_
        exact app_ok (X := blkX X s3 H3 scope ce fp EE) I10 hD10 hz10 r10 fun v11 I11 => fin I11 nx
  exact codeAny_compStart_list loop (T.self X.A 0 _ _ _ t4 loop)
/-- as a value -/
theorem pe_lcB {elt tg iter : Expr} {ifs : List Expr} {scope : Scope} {own : List (Str × Nat)} {pos : Pos} {wi : TI} (hs : X.stack = X.env :: X.outer) (hf : X.env.frame = some X.env.locals) (tk : Takes X W) (hc : X.calm = true) (hN : X.N.Nodup) (hi : PI X tg iter wi) (bo : BlkOk X.N X.env.scope scope own)
    {Q : VK} (h : tLcB X scope (fun c d _ H => W c d σ H) tg ifs elt wi (own.map (·.2)) σ H Q) (hfold : ∀ x, foldedSetIterable iter X.env x = pure x := by intro _; rfl) : tW X (.ListComp elt [⟨tg, iter, ifs, 0⟩] scope pos) σ H Q := by
  intro pins s I
  rw [eval_ListComp]
  refine lcE_core (W := W) hs hf tk hc hN I hi bo hfold h fun D s' m H' ce I' q hm f => ⟨m, hm, fun h2 sb => ?_⟩
  obtain ⟨f0, f1, f2, f3, f4, f5⟩ := f
  exact ⟨.ref D, H', I'.turned (t' := s'.toks) (fun b o hb e => (sb.2 b hb).trans e) f0 f1 f3 f4 f5, rfl, q⟩
/-- name = [..] in one row, the name a local -/
theorem ps_setLcB {i : Nat} {y : Str} {py : Pos} {elt tg iter : Expr} {ifs : List Expr} {scope : Scope} {own : List (Str × Nat)} {pos spos : Pos} {wi : TI} {Dn : Ends} (hs : X.stack = X.env :: X.outer) (hf : X.env.frame = some X.env.locals) (tk : Takes X W) (hc : X.calm = true) (hN : X.N.Nodup) (hi : PI X tg iter wi) (bo : BlkOk X.N X.env.scope scope own)
    (hy : X.N[i]? = some y) (hyl : X.env.scope.names.lookup y = some .local) (hsw : swapsWith (.ListComp elt [⟨tg, iter, ifs, 0⟩] scope pos) (some (.Name y py)) spos.line X.env = pure true)
    (h : tLcB X scope (fun c d _ H => W c d σ H) tg ifs elt wi (own.map (·.2)) σ H (fun x H1 => gName i x σ H1 Dn.nx)) (hfold : ∀ x, foldedSetIterable iter X.env x = pure x := by intro _; rfl) : tW1 X (.Assign [.Name y py] (.ListComp elt [⟨tg, iter, ifs, 0⟩] scope pos) spos) Dn σ H := by
  intro pins s I
  rw [exec_Assign_Name_used _ _ _ _ hsw]
  refine wpAny_bind (wpAny_standAt (wpAny_bind ?_))
  refine wpAny_bind (thn (lcE_core (W := W) (use := some (assign (.Name y py) X.env)) (Qf := fun _ s' => SP X pins Dn .next s') hs hf tk hc hN I hi bo hfold h fun L s' m H' ce I' q hm f => ?_) fun _ s' hq => wpAny_pure (wpAny_pure hq))
  refine wpAny_assign_Name (store_ok2 (v := V.ref L) I' hN hy (.inl hyl) rfl (fun s2 I2 ⟨a, sb, ha⟩ => ?_) (.inr hyl))
  obtain ⟨f0, f1, f2, f3, f4, f5⟩ := f
  have ne : ce.locals ≠ a := by
    rcases ha with z | z
    · rw [z]; exact f1
    · exact fun e => f4 y a z e.symm
  refine ⟨m, hm.sameBut sb ne, fun h3 sb3 => ?_⟩
  exact ⟨_, H', I2.turned (t' := s2.toks) (fun b o hb e => (sb3.2 b hb).trans e) f0 f1 f3 f4 f5, q⟩
end
end DL

/-! DL12: list comprehensions by data. -/
namespace DL
open PySem L2
/-- the slots vs forgotten -/
def wipeE (Γ : En) : List Nat → En
  | [] => Γ
  | v :: vs => (wipeE Γ vs).set v none
section
variable {K : PySem.W.Frag} {F : Fm} {G : Gh} {H : Hp} {σ : St} {Γ : En}
theorem Loc.drop {i : Nat} (E : Loc K G H σ Γ) : Loc K G H (σ.set i none) (Γ.set i none) := by
  have g : ∀ {j : Nat} {b : Bool} {e : D}, (Γ.set i none)[j]? = some (some (b, e)) → j ≠ i ∧ Γ[j]? = some (some (b, e)) := fun {j b e} h => by
    rcases set_get h with ⟨rfl, he⟩ | ⟨hj, h⟩
    · cases he
    · exact ⟨hj, h⟩
  have k : ∀ {j : Nat}, j ≠ i → (σ.set i none)[j]? = σ[j]? := fun {j} hj => List.getElem?_set_ne (Ne.symm hj)
  exact ⟨by rw [List.length_set, List.length_set]; exact E.len, E.ext, fun j e h => by rw [k (g h).1]; exact E.val j e (g h).2, fun j e h => by rw [k (g h).1]; exact E.own j e (g h).2,
    fun j l d e p hjl h1 h2 => by rw [k (g h1).1, k (g h2).1]; exact E.dis j l d e p hjl (g h1).2 (g h2).2⟩
theorem Loc.wiped (E : Loc K G H σ Γ) : ∀ vs : List Nat, Loc K G H (wipe σ vs) (wipeE Γ vs)
  | [] => E
  | v :: vs => (Loc.wiped E vs).drop
end
/-- a target of a comprehension: its slots are among vs -/
def TC (X : Cx) (tg : Expr) (d : D) (Γ : En) (vs : List Nat) (R : En → Prop) : Prop :=
  ∀ σ G H, Loc X.K G H σ Γ → ∀ v, Rep X.K G d v → ∀ Q : St → Hp → Prop, (∀ Γ' σ', R Γ' → Loc X.K G H σ' Γ' → wipe σ' vs = wipe σ vs → Q σ' H) → tWg X tg v σ H Q
def ETs (X : Cx) (ex : Exn → Prop) (ifs : List Expr) (Γ : En) (R : Bool → Prop) : Prop :=
  ∀ σ G H, Loc X.K G H σ Γ → ∀ W, Tk X W → ExAt X ex W σ G H → ∀ Q : Bool → Hp → Prop, (∀ b G' H', R b → Step0 G H G' H' → Q b H') → tWts X ifs σ H Q
section
variable {X : Cx} {ex : Exn → Prop} {Γ : En} {pos p : Pos}
theorem ets_nil {R : Bool → Prop} (h : R true) : ETs X ex [] Γ R := fun σ G H E W tk xa Q k pins s I => pts_nil.run pins s σ H Q I (k true G H h (.refl E.ext))
theorem ets_one {c : Expr} {R : Bool → Prop} (h : ET X ex c Γ R) : ETs X ex [c] Γ R := fun σ G H E W tk xa Q k pins s I => (pts_one (t := tWt X c) pt_W).run pins s σ H Q I (h σ G H E W tk xa Q k)
theorem set_wipe {σ : St} {i : Nat} {x : Option V} : ∀ {vs : List Nat}, i ∈ vs → wipe (σ.set i x) vs = wipe σ vs
  | v :: vs, h => by
    unfold wipe
    by_cases e : v = i
    · subst e
      by_cases hm : v ∈ vs
      · rw [set_wipe hm]
      · have : wipe (σ.set v x) vs = (wipe σ vs).set v x := by
          clear h
          induction vs with
          | nil => rfl
          | cons u us ih =>
            have hu : u ≠ v := fun z => hm (by rw [z]; exact List.mem_cons_self)
            unfold wipe
            rw [ih fun z => hm (List.mem_cons_of_mem _ z), List.set_comm _ _ (Ne.symm hu)]
        rw [this, List.set_set]
    · rw [set_wipe (List.mem_of_ne_of_mem (Ne.symm e) h)]
theorem tc_name {x : Str} {i : Nat} {d : D} {vs : List Nat} {R : En → Prop} (hN : X.N.Nodup) (hi : X.N[i]? = some x) (hx : L2.Loc X.env.scope x) (hv : i ∈ vs) (h : R (Γ.set i (some (false, d)))) (hf : X.fn x = true ∨ X.env.scope.names.lookup x = some .local := by first | exact .inl rfl | exact .inr rfl) : TC X (.Name x pos) d Γ vs R := by
  intro σ G H E v r Q k
  exact tWg_of (pg_name hN hi hx hf) (k _ _ h (E.setv r) (set_wipe hv))
theorem tc_two {t1 t2 : Expr} {k1 : Nat} {d1 d2 : D} {vs : List Nat} {R : En → Prop} (hc : X.calm = true) (h : TC X t1 d1 Γ vs fun Γ' => TC X t2 d2 Γ' vs R)
    (hn : (assignEach [t1, t2] X.env).length = 2 := by rfl) (hst : (assignEach [t1, t2] X.env).findIdx? (·.1) = none := by rfl)
    (ha : (assignEach [t1, t2] X.env).map (·.2) = assign t1 X.env :: (assignEach [t2] X.env).map (·.2) := by rfl) (hb : (assignEach [t2] X.env).map (·.2) = assign t2 X.env :: (assignEach [] X.env).map (·.2) := by rfl) : TC X (.Tuple [t1, t2] k1 pos) (.tup [d1, d2]) Γ vs R := by
  intro σ G H E v r Q k
  refine tWg_of (pg_tup hc (pgs_cons (t := tWg X t1) pg_W (pgs_cons (t := tWg X t2) pg_W pgs_nil hb) ha) hn hst) ?_
  cases r with
  | tup hp q =>
    obtain ⟨v1, v2, rfl, r1, r2⟩ := rep2 q
    refine ⟨_, _, rfl, SqT.of (E.ext _ _ hp), rfl, v1, [v2], rfl, ?_⟩
    refine h σ G H E v1 r1 _ fun Γ1 σ1 h1 E1 w1 => ?_
    refine ⟨v2, [], rfl, ?_⟩
    exact h1 σ1 G H E1 v2 r2 _ fun Γ2 σ2 h2 E2 w2 => ⟨rfl, k Γ2 σ2 h2 E2 (w2.trans w1)⟩

/-- a turn of the comprehension, in its block -/
def LcTurn (X : Cx) (ex : Exn → Prop) (elt tg : Expr) (ifs : List Expr) (Γ : En) (vs : List Nat) (d : D) (acc : List D) (I : List D → Prop) : Prop :=
  TC X tg d Γ vs fun Γ' => ETs X ex ifs Γ' fun b => (b = true → ED X ex elt Γ' fun _ y => acc.length < sizeLine ∧ I (acc ++ [y])) ∧ (b = false → I acc)
def LcD (X : Cx) (ex : Exn → Prop) (elt tg it : Expr) (ifs : List Expr) (scope : Scope) (Γ : En) (vs : List Nat) (R : List D → Prop) : Prop :=
  EI X ex tg it Γ fun ds => ∃ I : Nat → List D → Prop, I 0 [] ∧
    (∀ i d acc, ds[i]? = some d → I i acc → ∀ s H C cl fp xe, LcTurn (blkX X s H scope (compEnvC scope cl C X.env) fp xe) ex elt tg ifs (wipeE Γ vs) vs d acc (I (i + 1))) ∧ ∀ acc, I ds.length acc → R acc
theorem RepsW.snoc {K : PySem.W.Frag} {G : Gh} {xs : List D} {vs : List V} {d : D} {v : V} (h : Reps K G xs vs) (r : Rep K G d v) : Reps K G (xs ++ [d]) (vs ++ [v]) := h.append (.cons r .nil)
theorem wipe_sub {σ : St} {vs : List Nat} : ∀ {us : List Nat}, (∀ i ∈ us, i ∈ vs) → wipe (wipe σ us) vs = wipe σ vs
  | [], _ => rfl
  | u :: us, h => by
    show wipe ((wipe σ us).set u none) vs = _
    rw [set_wipe (h u List.mem_cons_self)]
    exact wipe_sub fun i hi => h i (List.mem_cons_of_mem _ hi)
theorem lc_D {elt tg it : Expr} {ifs : List Expr} {scope : Scope} {vs : List Nat} {R : List D → Prop} (h : LcD X ex elt tg it ifs scope Γ vs R) :
    ∃ wi, PI X tg it wi ∧ ∀ σ G H, Loc X.K G H σ Γ → ∀ W, Tk X W → ExAt X ex W σ G H → ∀ Q : VK, (∀ acc d G' H', R acc → Step0 G H G' H' → H d = none → G' d = none → OwnAt X.K G' H' d (.lst acc) → Q (.ref d) H') →
      tLcB X scope (fun c d _ H => W c d σ H) tg ifs elt wi vs σ H Q := by
  obtain ⟨wi, hpi, hw⟩ := h
  refine ⟨wi, hpi, fun σ G H E W tk xa Q k => ?_⟩
  refine hw σ G H E W tk xa _ fun J ds G1 H1 hR s1 sq => ?_
  obtain ⟨I, h0, hst, hend⟩ := hR
  intro d hd s0 H0 C cl fp xe tkb
  refine ⟨fun i m H' => m = ds.length - i ∧ i ≤ ds.length ∧ ∃ G' acc us, Step0 G1 H1 G' H' ∧ G' d = none ∧ H' d = some (.lst us) ∧ Reps X.K G' acc us ∧ I i acc, ⟨ds.length, rfl, Nat.zero_le _, G1, [], [], .alloc s1.ext hd, s1.ext.gfree hd, upd_same, .nil, h0⟩, ?_⟩
  rintro i m H' ⟨rfl, hi, G', acc, us, s2, nd, hd', r, hI⟩
  have e1 : Ext G1 H' := fun a g q => s2.ext a g (s2.le a g q)
  by_cases hlt : i < ds.length
  · refine .inr ⟨sq.go i H' hlt e1, fun H2 => ∃ G2 acc us, Step0 G1 H1 G2 H2 ∧ G2 d = none ∧ H2 d = some (.lst us) ∧ Reps X.K G2 acc us ∧ I (i + 1) acc, fun H2 z => ⟨ds.length - (i + 1), by omega, rfl, hlt, z⟩, fun x H2 y => ?_⟩
    obtain ⟨G2, dd, s3, hdd, rd⟩ := sq.give i G' H' x H2 hlt s2.le s2.ext y
    have E2 := (E.go ((s1.trans s2).trans s3)).wiped vs
    have n2 := s3.gfree hd' nd
    have h2 := s3.kept d _ hd' nd id
    refine hst i dd acc hdd hI s0 H0 C cl fp xe (wipe σ vs) G2 H2 E2 x rd _ fun Γ3 σ3 h3 E3 w3 => ⟨w3.trans (wipe_sub fun i hi => hi), ?_⟩
    have xb : ExAt (blkX X s0 H0 scope (compEnvC scope cl C X.env) fp xe) ex (fun c d _ H => W c d σ H) σ3 G2 H2 := fun y c dy G' H' hy s he => xa y c dy G' H' hy (((s1.trans s2).trans s3).trans s) (he.older ((s1.trans s2).trans s3))
    refine h3 σ3 G2 H2 E3 _ tkb xb _ fun b G3 H3 hb s4 => ?_
    have n3 := s4.gfree h2 n2
    have h3' := s4.kept d _ h2 n2 id
    cases b with
    | false => exact ⟨G3, acc, us, (s2.trans s3).trans s4, n3, h3', r.mono (s3.trans s4).le, hb.2 rfl⟩
    | true =>
      refine ED.use (R := fun _ y => acc.length < sizeLine ∧ I (i + 1) (acc ++ [y])) ((hb.1 rfl).imp fun _ _ h => h) (E3.go s4) tkb (xb.go s4) fun y v G4 H4 hy s5 ry => ?_
      have n4 := s5.gfree h3' n3
      have h4 := s5.kept d _ h3' n3 id
      have r4 := r.mono ((s3.trans s4).trans s5).le
      refine ⟨us, h4, by rw [← r.length]; exact hy.1, G4, acc ++ [y], us ++ [v], ?_, n4, upd_same, r4.append (.cons ry .nil), hy.2⟩
      exact (((s2.trans s3).trans s4).trans s5).write (.inl hd) n4
  · have ei : i = ds.length := by omega
    subst ei
    exact .inl ⟨sq.stop H' e1, k acc d G' H' (hend acc hI) (s1.trans s2) (s1.free hd) nd (.lst hd' r)⟩
/-- [elt for tg in it if ..] -/
theorem ed_lc {elt tg it : Expr} {ifs : List Expr} {scope : Scope} {own : List (Str × Nat)} {R : Bool → D → Prop} (hc : X.calm = true) (hN : X.N.Nodup) (bo : BlkOk X.N X.env.scope scope own) (h : LcD X ex elt tg it ifs scope Γ (own.map (·.2)) fun acc => R true (.lst acc))
    (hs : X.stack = X.env :: X.outer := by rfl) (hf : X.env.frame = some X.env.locals := by rfl) (hfold : ∀ x, foldedSetIterable it X.env x = pure x := by intro _; rfl) : ED X ex (.ListComp elt [⟨tg, it, ifs, 0⟩] scope pos) Γ R := by
  obtain ⟨wi, hpi, h⟩ := lc_D h
  intro σ G H E W tk xa Q k
  exact pe_lcB hs hf (tk.held hf) hc hN hpi bo (h σ G H E W tk xa Q fun acc d G' H' hR s hd nd w => k true _ _ G' H' hR s ⟨d, rfl, hd, nd, w⟩) hfold
end
section
variable {X : Cx} {ex : EX} {Γ : En} {P : Po} {pos p apos : Pos}
/-- x = [elt for ..], x a local of the def -/
theorem w_asgLc {x : Str} {i : Nat} {elt tg it : Expr} {ifs : List Expr} {scope : Scope} {own : List (Str × Nat)} {p' : Pos} (hc : X.calm = true) (hN : X.N.Nodup) (bo : BlkOk X.N X.env.scope scope own) (hi : X.N[i]? = some x) (hxl : X.env.scope.names.lookup x = some .local)
    (h : LcD X (fun y => ex y Γ) elt tg it ifs scope Γ (own.map (·.2)) fun acc => P.nx (Γ.set i (some (true, .lst acc))))
    (hsw : swapsWith (.ListComp elt [⟨tg, it, ifs, 0⟩] scope p) (some (.Name x p')) pos.line X.env = pure true)
    (hs : X.stack = X.env :: X.outer := by rfl) (hf : X.env.frame = some X.env.locals := by rfl) (hfold : ∀ x, foldedSetIterable it X.env x = pure x := by intro _; rfl) : W1 X ex (.Assign [.Name x p'] (.ListComp elt [⟨tg, it, ifs, 0⟩] scope p) pos) Γ P := by
  obtain ⟨wi, hpi, h⟩ := lc_D h
  intro F σ G H E W xk Dn lk
  refine ps_setLcB hs hf xk.tk hc hN hpi bo hi hxl hsw (h σ G H E.loc W xk.te (xk.lk.at E) _ fun acc d G' H' hR s hd nd w => ?_) hfold
  exact lk.nx G' H' _ _ hR (E.seto s hd nd w) s.le
end
end DL

/-! DL13: try .. except X as e; e.f -/
namespace DL
open PySem L2
section
variable {K : PySem.W.Frag} {F : Fm} {G : Gh} {H : Hp} {σ : St} {Γ : En}
theorem EnvOk.drops {i : Nat} (E : EnvOk K F G H σ Γ) : EnvOk K F G H (σ.set i none) (Γ.set i none) :=
  ⟨E.loc.drop, E.step, fun j d p h1 h2 => by
    rcases set_get h1 with ⟨rfl, he⟩ | ⟨hj, h1⟩
    · cases he
    · rw [List.getElem?_set_ne (Ne.symm hj)] at h2
      exact E.lent j d p h1 h2⟩
/-- an exception's dict becomes known -/
theorem EnvOk.knowX {dd : Addr} {fvs : List (Str × V)} (E : EnvOk K F G H σ Γ) (h : H dd = some (.xd fvs)) (n : G dd = none) (h0 : F.H0 dd = none) : EnvOk K F (gupd G dd (.ho (.xd fvs))) H σ Γ := by
  have le : Le G (gupd G dd (.ho (.xd fvs))) := Le.gupd n
  have st : Step F.B F.G0 F.H0 (gupd G dd (.ho (.xd fvs))) H := E.step.know h0 h n
  refine ⟨⟨E.loc.len, st.ext, fun i d q => ?_, fun i d q => ?_, E.loc.dis⟩, st, E.lent⟩
  · obtain ⟨v, a, b⟩ := E.loc.val i d q
    exact ⟨v, a, b.mono le⟩
  · obtain ⟨p, a, b, c⟩ := E.loc.own i d q
    have ne : p ≠ dd := fun z => by
      subst z
      exact c.notx h
    exact ⟨p, a, by rw [gupd_ne ne]; exact b, c.mono le fun o h => h⟩
end
/-- a caught exception as data: with its own dict, or without -/
def ExD (a : Addr) (d : Option Addr) (fs : List (Str × D)) (y : D) : Prop := (d = none ∧ fs = [] ∧ y = .ref a) ∨ ∃ dd, d = some dd ∧ y = .exn a dd fs
section
variable {X : Cx} {ex : EX} {Γ : En} {P : Po} {pos p : Pos}
/-- try: body except x as n: suite -/
theorem w_tryAs {x n : Str} {c : Value} {i : Nat} {body suite : List Stmt} {b₀ : Stmt} {np pos' : Pos} (hN : X.N.Nodup) (hi : X.N[i]? = some n) (hln : X.env.kindOf n = some .local) (hc : Names X x c)
    (h : ∀ (pn : List (Addr × Obj)) (xe : Value → Shared → Prop), WD (X.tr pn xe) (fun y Γ' => ∃ b, PySem.W.exmOne X.K (.ref y.cls) c = some b ∧
      (b = true → ∀ a oe pn d z, Zc (.ref y.cls) d oe → (∃ vs, oe.data = .fields vs) → ExD a d y.fs z → WD (X.suite a ((a, oe) :: pn)) noEx (b₀ :: suite) (Γ'.set i (some (false, z))) { P with nx := fun Γ => P.nx (Γ.set i none), bk := fun Γ => P.bk (Γ.set i none), ct := fun Γ => P.ct (Γ.set i none), rt := fun o d Γ => P.rt o d Γ }) ∧
      (b = false → ex y Γ')) body Γ P) (hs : X.stack = X.env :: X.outer := by rfl) (hf : X.env.frame = some X.env.locals := by rfl) :
    W1 X ex (.Try body [.ExceptHandler (some (.Name x np)) (some n) (b₀ :: suite) pos'] [] [] pos) Γ P := by
  intro F σ G H E W xk Dn lk
  refine tW1_of (ps_try_as (tb := fun W' D σ H => ∀ (pn : List (Addr × Obj)) (xe : Value → Shared → Prop), Takes (X.tr pn xe) W' → PassesOwn (model X.prog X.w) X.A X.env xe → tWs (X.tr pn xe) body D σ H)
    (ts := fun a cls d D σ H => ∀ (oe : Obj) (pn : List (Addr × Obj)), Zc cls d oe → (∃ vs, oe.data = .fields vs) → tWs (X.suite a ((a, oe) :: pn)) (b₀ :: suite) D σ H) hs hf hN hi hln hc xk.tk
    (fun W' pn xe tk po => ⟨fun pins s σ H D I hh => hh pn xe tk po pins s I⟩) (fun a oe cls d pn hz hd => ⟨fun pins s σ H D I hh => hh oe pn hz hd pins s I⟩)) ?_
  intro pn xe tk po
  refine h pn xe F σ G H E _ ⟨tk, po, fun y cv d G1 H1 σ1 Γ1 hy E1 le he => ?_⟩ Dn lk
  obtain ⟨b, hb, hy1, hy0⟩ := hy
  obtain ⟨rfl, he'⟩ := id he
  refine ⟨b, hb, fun eb a na oe pn' hz hfl => ?_, fun eb => xk.lk y _ d G1 H1 σ1 Γ1 (hy0 eb) E1 le he⟩
  have key : ∀ (z : D) (G2 : Gh), ExD a d y.fs z → Le G G2 → EnvOk X.K F G2 H1 σ1 Γ1 → Rep X.K G2 z (.ref a) → tWs (X.suite a ((a, oe) :: pn')) (b₀ :: suite) { nx := fun σ' H' => Dn.nx (σ'.set i none) H', rt := Dn.rt, bk := fun σ' H' => Dn.bk (σ'.set i none) H', ct := fun σ' H' => Dn.ct (σ'.set i none) H' } (σ1.set i (some (.ref a))) H1 := fun z G2 hz2 le2 E2 r2 =>
    hy1 eb a oe pn' d z hz hfl hz2 F _ G2 H1 (E2.setv r2) _ (xok_suite rfl) _ ⟨fun G3 H3 σ3 Γ3 h3 E3 l3 => lk.nx G3 H3 _ _ h3 E3.drops (le2.trans l3), fun o d v G3 H3 σ3 Γ3 h3 E3 r3 l3 => lk.rt o d v G3 H3 σ3 Γ3 h3 E3 r3 (le2.trans l3),
      fun G3 H3 σ3 Γ3 h3 E3 l3 => lk.bk G3 H3 _ _ h3 E3.drops (le2.trans l3), fun G3 H3 σ3 Γ3 h3 E3 l3 => lk.ct G3 H3 _ _ h3 E3.drops (le2.trans l3), lk.nb⟩
  rcases he' with ⟨rfl, hfs⟩ | ⟨dd, fvs, rfl, a2, a3, a4, a5, a6⟩
  · exact key (.ref a) G1 (.inl ⟨rfl, hfs, rfl⟩) le E1 .ref
  · exact key (.exn a dd y.fs) (gupd G1 dd (.ho (.xd fvs))) (.inr ⟨dd, rfl, rfl⟩) (le.trans (Le.gupd a3)) (E1.knowX a2 a3 a4) (.exn gupd_same (a5.mono (Le.gupd a3)))
/-- e.f in an except suite -/
theorem ed_xf {ex : Exn → Prop} {R : Bool → D → Prop} {a C dd : Addr} {oe : Obj} {pn : List (Addr × Obj)} {e : Expr} {f : Str} {fs : List (Str × D)} (T : XfC X.K C) (hno : PySem.W.findIn X.K (.ref C) f = some none) (hz : Zc (.ref C) (some dd) oe) (hfl : ∃ vs, oe.data = .fields vs)
    (h : ED (X.suite a ((a, oe) :: pn)) ex e Γ fun _ d => d = .exn a dd fs ∧ ∃ v, fs.lookup f = some v ∧ R false v) (hb : attributeBase e f X.env (eval e X.env) = eval e X.env := by rfl) : ED (X.suite a ((a, oe) :: pn)) ex (.Attribute e f pos) Γ R := by
  intro σ G H E W tk xa Q k
  refine tW_of (pe_xf (te := tW (X.suite a ((a, oe) :: pn)) e) T hno hz hfl pe_W hb) ?_
  refine ED.use (R := fun _ d => d = .exn a dd fs ∧ ∃ v, fs.lookup f = some v ∧ R false v) (h.imp fun _ _ h => h) E tk xa fun d v G1 H1 h1 s1 r1 => ?_
  obtain ⟨rfl, z, hl, hR⟩ := h1
  cases r1 with
  | exn hd q =>
    obtain ⟨w, ew, rw'⟩ := q.get hl
    exact ⟨rfl, rfl, dd, _, w, rfl, s1.ext _ _ hd, ew, k false z w G1 H1 hR s1 rw'⟩
end
end DL

/-! DL14: the head's facts, the law's end. -/
namespace DL
open PySem L2 PySem.Spec PyProof.Rows
/-! ### facts as checks -/
def oexB (K : PySem.W.Frag) (C : Addr) : Bool := (match K.lookup C with
  | some ⟨.type t, _, .cls cd, sl⟩ => decide (t = "type") && ((match cd.mro with
      | .ref C' :: bm => decide (C' = C) && PySem.HandSPX.refsVE bm
      | _ => false) && (cd.hasDict && (!cd.hasDel && match sl.toList with
      | [_, _, _, _, some (.builtin n), _] => decide (n = "ValueError.__new__")
      | _ => false)))
  | _ => false) && (He.eqO (PySem.W.findIn K (.ref C) "__setattr__") (some (some (.builtin "object.__setattr__"))) && (decide (PySem.W.subIn K (.ref C) (.type "BaseException") = some true) && (decide (PySem.W.typeIn K (.ref C) = some (.type "type")) && PySem.W.keepIn K (.ref C))))
theorem oexB_ok {K : PySem.W.Frag} {C : Addr} (h : oexB K C = true) : OexC K C := by
  unfold oexB at h
  obtain ⟨h1, h⟩ := He.ba h
  obtain ⟨h2, h⟩ := He.ba h
  obtain ⟨h3, h⟩ := He.ba h
  obtain ⟨h4, h5⟩ := He.ba h
  refine ⟨?_, He.eqO_ok h2, of_decide_eq_true h3, of_decide_eq_true h4, h5⟩
  cases e : K.lookup C with
  | none => rw [e] at h1; cases h1
  | some o =>
    rw [e] at h1
    obtain ⟨oc, od, dt, sl⟩ := o
    cases oc with
    | type t =>
      cases dt with
      | cls cd =>
        obtain ⟨a1, h1⟩ := He.ba h1
        obtain ⟨a2, h1⟩ := He.ba h1
        obtain ⟨a3, h1⟩ := He.ba h1
        obtain ⟨a4, a5⟩ := He.ba h1
        obtain ⟨nm, bs, mro, ns, qn, hd, sn, sb, ab, col, del⟩ := cd
        dsimp only at a2 a3 a4
        subst a3
        cases mro with
        | nil => cases a2
        | cons m0 bm =>
          cases m0 with
          | ref C' =>
            obtain ⟨b1, b2⟩ := He.ba a2
            have b1 : C' = C := of_decide_eq_true b1
            have a1 : t = "type" := of_decide_eq_true a1
            subst b1 a1
            have a4 : del = false := by cases del <;> first | rfl | cases a4
            subst a4
            obtain ⟨sl⟩ := sl
            match sl, a5 with
            | [k0, k1, k2, k3, some (.builtin n), k5], a5 =>
              have a5 : n = "ValueError.__new__" := of_decide_eq_true a5
              subst a5
              exact ⟨nm, qn, ns, bs, bm, sn, sb, ab, col, od, k0, k1, k2, k3, k5, rfl, b2⟩
          | _ => cases a2
      | _ => cases h1
    | _ => cases dt <;> cases h1
def jinB (K : PySem.W.Frag) (C : Addr) : Bool := PySem.W.readsIn K C (.type "type") && (He.eqO (PySem.W.specialIn K (.ref C) "__getattribute__") (some (some (.builtin "type.__getattribute__"))) && match PySem.W.findCls K (.ref C) (.type "type") "__init__" with
  | some (.val (.builtin g)) => decide (g = "ValueError.__init__")
  | _ => false)
theorem jinB_ok {K : PySem.W.Frag} {C : Addr} (h : jinB K C = true) : JIn K C := by
  unfold jinB at h
  obtain ⟨h1, h⟩ := He.ba h
  obtain ⟨h2, h3⟩ := He.ba h
  refine ⟨h1, He.eqO_ok h2, ?_⟩
  cases e : PySem.W.findCls K (.ref C) (.type "type") "__init__" with
  | none => rw [e] at h3; cases h3
  | some c =>
    rw [e] at h3
    cases c with
    | val v =>
      cases v with
      | builtin g =>
        have : g = "ValueError.__init__" := of_decide_eq_true h3
        rw [this]
      | _ => cases h3
    | get _ _ _ _ => cases h3
/-! ### the hook: facts, defs, one check more -/
def obsE (fa : List He.Fa) (fn : List He.DefD) (ex : PySem.W.Frag → Bool) (K : PySem.W.Frag) : He.AlD × Bool := (He.obsD fa fn K, ex K)
def SaysE (fa : List He.Fa) (fn : List He.DefD) (ex : PySem.W.Frag → Bool) (K : PySem.W.Frag) : Prop := obsE fa fn ex K = (He.valD fn, true)
def obsEG (n : Nat) (fa : List He.Fa) (fn : List He.DefD) (ex : PySem.W.Frag → Bool) (g : Addr → Option Obj) : He.AlD × Bool := obsE fa fn ex (He.frG g (cStatics :: He.asD g n))
def hookE (n : Nat) (fa : List He.Fa) (fn : List He.DefD) (ex : PySem.W.Frag → Bool) : PySem.W.Hook where
  α := He.AlD × Bool
  obs := fun s => obsEG n fa fn ex s.heap.get?
  val := fun _ => (He.valD fn, true)
  says := fun _ h => ∃ K : PySem.W.Frag, K.In h ∧ SaysE fa fn ex K
  of := fun _ _ e => ⟨_, He.frG_in, e⟩
  keeps := fun _ _ _ ⟨K, hK, c⟩ k => ⟨K, PySem.W.Frag.In.keeps hK k, c⟩
theorem obsEG_eq {n : Nat} {fa : List He.Fa} {fn : List He.DefD} {ex : PySem.W.Frag → Bool} {g : Addr → Option Obj} {s : Shared} (h : ∀ a, g a = s.heap.get? a) : obsEG n fa fn ex g = (hookE n fa fn ex).obs s := by
  have e : g = s.heap.get? := funext h
  rw [e] <;> rfl
section
variable {fa : List He.Fa} {fn : List He.DefD} {ex : PySem.W.Frag → Bool} {K : PySem.W.Frag}
theorem SaysE.d (c : SaysE fa fn ex K) : He.SaysD fa fn K := congrArg (fun z : He.AlD × Bool => z.1) c
theorem SaysE.x (c : SaysE fa fn ex K) : ex K = true := congrArg (fun z : He.AlD × Bool => z.2) c
end
/-! ### the law's end -/
/-- a law's promise -/
def phLaw : Ph := fun ds rt _ => ∃ ns : List Int, ds = [.scr ns] ∧ ns.length ≤ 63 ∧ rt false (.bl true)
theorem law_end {l : PySem.W.OpenLaw} {k : Nat} {q : Program} {loose : List Str} {XP : (Str → Option Value) → Heap → Prop} {YP : World → Heap → Prop} {d : DefRec} {x : Str}
    (hn : l.most = some 63) (hdf : d.params.defaults = []) (hr : Room k callerA)
    (F : ∀ (w : World) (mg : Str → Option Value) (fa : Addr) (h : Heap), YP w h → h.Ns mainGlobals mg → mg d.name = some (.ref fa) →
      ∃ K : PySem.W.Frag, K.In h ∧ (∃ fd, (∀ (s : Shared) (u : Value), BindsTo s fd ⟨[u], []⟩ [(x, u)]) ∧ ∀ base : Heap, K.In base → base.Ns mainGlobals mg → FnOk l.prog w K mg base (L2.CX l.prog w) k fa fd [x] (spD K 1 phLaw))) :
    PySem.W.WalkO q loose XP YP l.row.toRowW d [] (fun f vs => PySem.call f vs) := by
  refine Att.attach_call hn hdf fun w s₀ s₁ mg mb fa o pm cd doc a vs ns G Y ho hd hcd hmg hobj hints hlen hg => ?_
  obtain ⟨K, KX, fd, hb, hF⟩ := F w mg fa _ Y G.T.g hmg
  refine law_call KX G.T.g G.T.b G.T.builtins G.T.nolimit hg hobj hints (Nat.le_trans hlen (by decide)) hr hF hb (fun H hO hS => ?_) fun H e s' c => ?_
  · refine ⟨fun b => if b = a then (H b).map GO.ho else none, [.scr ns], fun o d => o = false ∧ d = .bl true, fun _ => False, fun b g e => ?_, .cons (.scr ?_) .nil, rfl, ⟨ns, rfl, hlen, rfl, rfl⟩, fun o d v G' H' h _ r => ?_, fun _ _ _ _ _ h => h.elim⟩
    · by_cases hba : b = a
      · dsimp only at e
        rw [if_pos hba] at e
        cases q : H b with
        | none => rw [q] at e; cases e
        | some u => rw [q] at e; cases e; exact q
      · dsimp only at e
        rw [if_neg hba] at e; cases e
    · rcases hS with (h | ⟨o, h⟩) | h
      · rcases hO a with e | ⟨o, xs, e⟩
        · rw [e] at h; cases h
        · rw [e] at h; cases h
      · exact .inl ⟨o, (if_pos rfl).trans (by rw [h]; rfl)⟩
      · exact .inr h
    · obtain ⟨rfl, rfl⟩ := h
      cases r
      rfl
  · obtain ⟨_, _, _, _, _, _, _, _, _, _, _, _, z⟩ := c
    exact z
end DL

/-! DL15: more words. -/
namespace DL
open PySem L2
section
variable {X : Cx} {ex : Exn → Prop} {Γ : En} {R : Bool → D → Prop} {pos p apos : Pos}
/-- -e -/
theorem ed_neg {e : Expr} (h : ED X ex e Γ fun _ d => ∃ i : Int, d = .int i ∧ R false (.int (-i))) : ED X ex (.UnaryOp .USub e pos) Γ R := by
  intro σ G H E W tk xa Q k
  refine tW_of (pe_un un_neg (pe_W (e := e))) ?_
  refine ED.use (R := fun _ d => ∃ i : Int, d = .int i ∧ R false (.int (-i))) (h.imp fun _ _ h => h) E tk xa fun d v G1 H1 h1 s1 r1 => ?_
  obtain ⟨i, rfl, hR⟩ := h1
  cases r1
  exact ⟨i, rfl, k _ _ _ G1 H1 hR s1 .int⟩
theorem op_mul_si : OpR X (binaryOp .Mult) (fun x y H Q => ∃ (a : Str) (n : Int), x = .str a ∧ y = .int n ∧ MulOk a n ∧ Q (.str (Txt.mul a n)) H) := by
  intro pins s σ H x y v u Q I rx ry h
  obtain ⟨a, n, rfl, rfl, hok, q⟩ := h
  obtain ⟨t, rfl⟩ := rx
  obtain ⟨t2, rfl⟩ := ry
  refine SB.mul hok fun t' k => ⟨.str (Txt.mul a n), H, I.tok _, ⟨_, rfl⟩, q⟩
theorem mul_si {x : Str} {n : Int} (hok : MulOk x n) (h : R false (.str (Txt.mul x n))) : BinR X .Mult (.str x) (.int n) R := .of op_mul_si fun G H x y E r1 r2 Q k => by
  cases r1; cases r2
  exact ⟨_, n, rfl, rfl, hok, k _ _ _ G H h (.refl E) .str⟩
theorem ed_sindex {o e : Expr} (h : ED X ex o Γ fun _ d => ∃ a : Str, d = .str a ∧ ED X ex e Γ fun _ f => ∃ (b : Str) (i : Nat) (rest : List Nat), f = .str b ∧ Builtin.Str.occurrences a b 0 a.length 1 = i :: rest ∧ R false (.int (i : Nat)))
    (hs : starEach [e] X.env = [(false, eval e X.env)] := by rfl) (hbase : attributeBase o "index" X.env (eval o X.env) = eval o X.env := by rfl) (hline : (apos.endLine == pos.line) = true := by rfl) : ED X ex (.Call (.Attribute o "index" apos) [e] [] pos) Γ R :=
  ed_m1 PySem.F.slot_str_index PySem.F.type_str_index mt_sindex (h.imp fun _ d ⟨a, e, h1⟩ => ⟨a, e, h1.imp fun _ f ⟨b, i, rest, ef, ho, hR⟩ v G H E r Q k => by
    subst ef
    cases r
    exact ⟨a, b, i, rest, rfl, rfl, ho, k _ _ _ G H hR (.refl E) .int⟩⟩) hs hbase hline
end
section
variable {X : Cx} {ex : EX} {Γ : En} {P : Po} {pos p apos : Pos}
/-- x.reverse(), x an own list -/
theorem w_rev {x : Str} {i : Nat} {xs : List D} (hN : X.N[i]? = some x) (hv : Vis X.env.scope x) (hΓ : Γ[i]? = some (some (true, .lst xs))) (h : P.nx (Γ.set i (some (true, .lst xs.reverse))))
    (hs : swapsWith (.Call (.Attribute (.Name x p) "reverse" apos) [] [] pos) none pos.line X.env = pure false := by rfl)
    (hbase : attributeBase (.Name x p) "reverse" X.env (eval (.Name x p) X.env) = eval (.Name x p) X.env := by rfl) (hline : (apos.endLine == pos.line) = true := by rfl)
    (hd : (x == ("__debug__" : Str)) = false := by decide) (hcd : (x == ("__classdict__" : Str)) = false := by decide) : W1 X ex (.Expr (.Call (.Attribute (.Name x p) "reverse" apos) [] [] pos) pos) Γ P := by
  intro F σ G H E W xk Dn lk
  refine tW1_of (ps_expr (pe_bm0 PySem.F.plainAttrs_list PySem.F.slot_list_reverse PySem.F.type_list_reverse mt_reverse (pe_var hN hv hd hcd) hbase hline) hs) ?_
  obtain ⟨q, h1, h2, h3⟩ := E.loc.own i _ hΓ
  cases h3 with
  | lst hp r => exact ⟨_, h1, ty_list hp, q, _, rfl, rfl, hp, lk.nx G _ σ _ h (E.write hΓ h1 (.lst upd_same r.reverse)) (Le.refl _)⟩
end
end DL

/-! DL16: plain laws: == of rows of the same kind; texts. -/
namespace DL
open PySem L2
/-- data of one kind, told by == -/
structure Emb {α : Type} (f : α → D) (n : Nat) (P : α → Prop) : Prop where
  py : ∀ a, isPy (f a) = true
  lay : ∀ a, P a → (toPy (f a)).canLay0 = true
  dep : ∀ a, (toPy (f a)).depth ≤ n
  eq : ∀ a b, eqD (f a) (f b) = true ↔ a = b
theorem Emb.ok {α : Type} {f : α → D} {n : Nat} {P : α → Prop} (E : Emb f n P) (hn : n ≤ 64) {a : α} (h : P a) : eqOk (f a) = true := by
  unfold eqOk SeqAt.shaped
  rw [E.py, E.lay a h, decide_eq_true (Nat.le_trans (E.dep a) hn)]
  rfl
theorem Emb.dec {α : Type} [DecidableEq α] {f : α → D} {n : Nat} {P : α → Prop} (E : Emb f n P) (a b : α) : eqD (f a) (f b) = decide (a = b) := by
  have := E.eq a b
  cases h : eqD (f a) (f b) with
  | true => exact (decide_eq_true (this.mp h)).symm
  | false => exact (decide_eq_false fun e => by rw [this.mpr e] at h; cases h).symm
theorem Emb.int : Emb D.int 0 (fun _ => True) where
  py := fun _ => by simp [isPy]
  lay := fun _ _ => by simp [toPy, PyData.canLay0]
  dep := fun _ => by simp [toPy, PyData.depth]
  eq := fun a b => by simp [eqD, toPy, PyData.eqv]
theorem Emb.str : Emb D.str 0 (fun s => PyData.strOk s = true) where
  py := fun _ => by simp [isPy]
  lay := fun _ h => by simp only [toPy, PyData.canLay0]; exact h
  dep := fun _ => by simp [toPy, PyData.depth]
  eq := fun a b => by simp [eqD, toPy, PyData.eqv]
theorem Emb.bl : Emb D.bl 0 (fun _ => True) where
  py := fun _ => by simp [isPy]
  lay := fun _ _ => by simp [toPy, PyData.canLay0]
  dep := fun _ => by simp [toPy, PyData.depth]
  eq := fun a b => by simp [eqD, toPy, PyData.eqv]
section
variable {α β : Type} {f : α → D} {g : β → D} {n m : Nat} {P : α → Prop} {Q : β → Prop}
theorem Emb.pys (E : Emb f n P) : ∀ xs : List α, isPys (xs.map f) = true
  | [] => by simp [isPys]
  | x :: xs => by rw [List.map_cons]; unfold isPys; rw [E.py, Emb.pys E xs]; rfl
theorem Emb.lays (E : Emb f n P) : ∀ xs : List α, (∀ x ∈ xs, P x) → PyData.canLayAll0 (toPys (xs.map f)) = true
  | [], _ => by simp [toPys, PyData.canLayAll0]
  | x :: xs, h => by
    rw [List.map_cons]; unfold toPys PyData.canLayAll0
    rw [E.lay x (h x List.mem_cons_self), Emb.lays E xs fun y hy => h y (List.mem_cons_of_mem _ hy)]; rfl
theorem Emb.deps (E : Emb f n P) : ∀ xs : List α, PyData.depthAll (toPys (xs.map f)) ≤ n
  | [] => by simp [toPys, PyData.depthAll]
  | x :: xs => by
    rw [List.map_cons]; unfold toPys PyData.depthAll
    exact Nat.max_le.mpr ⟨E.dep x, Emb.deps E xs⟩
theorem Emb.eqs (E : Emb f n P) : ∀ xs ys : List α, PyData.eqvAll (toPys (xs.map f)) (toPys (ys.map f)) = true ↔ xs = ys
  | [], [] => by simp [toPys, PyData.eqvAll]
  | [], y :: ys => by simp [toPys, PyData.eqvAll]
  | x :: xs, [] => by simp [toPys, PyData.eqvAll]
  | x :: xs, y :: ys => by
    rw [List.map_cons, List.map_cons]; unfold toPys PyData.eqvAll
    rw [Bool.and_eq_true, Emb.eqs E xs ys, List.cons.injEq]
    exact and_congr (E.eq x y) Iff.rfl
theorem Emb.lst (E : Emb f n P) : Emb (fun xs : List α => D.lst (xs.map f)) (n + 1) (fun xs => ∀ x ∈ xs, P x) where
  py := fun xs => by simp only [isPy]; exact E.pys xs
  lay := fun xs h => by simp only [toPy, PyData.canLay0]; exact E.lays xs h
  dep := fun xs => by simp only [toPy, PyData.depth]; exact Nat.succ_le_succ (E.deps xs)
  eq := fun a b => by simp only [eqD, toPy, PyData.eqv]; exact E.eqs a b
theorem Emb.tupl (E : Emb f n P) : Emb (fun xs : List α => D.tup (xs.map f)) (n + 1) (fun xs => ∀ x ∈ xs, P x) where
  py := fun xs => by simp only [isPy]; exact E.pys xs
  lay := fun xs h => by simp only [toPy, PyData.canLay0]; exact E.lays xs h
  dep := fun xs => by simp only [toPy, PyData.depth]; exact Nat.succ_le_succ (E.deps xs)
  eq := fun a b => by simp only [eqD, toPy, PyData.eqv]; exact E.eqs a b
theorem Emb.two (E : Emb f n P) (E' : Emb g m Q) : Emb (fun p : α × β => D.tup [f p.1, g p.2]) (max n m + 1) (fun p => P p.1 ∧ Q p.2) where
  py := fun p => by simp [isPy, isPys, E.py, E'.py]
  lay := fun p h => by simp [toPy, toPys, PyData.canLay0, PyData.canLayAll0, E.lay _ h.1, E'.lay _ h.2]
  dep := fun p => by
    simp only [toPy, toPys, PyData.depth, PyData.depthAll]
    have h1 := E.dep p.1
    have h2 := E'.dep p.2
    omega
  eq := fun a b => by
    have h1 := E.eq a.1 b.1
    have h2 := E'.eq a.2 b.2
    simp only [eqD] at h1 h2
    simp only [eqD, toPy, toPys, PyData.eqv, PyData.eqvAll, Bool.and_true, Bool.and_eq_true, h1, h2]
    exact ⟨fun ⟨a1, a2⟩ => Prod.ext a1 a2, fun e => by rw [e]; exact ⟨rfl, rfl⟩⟩
end
/-! ### signs of texts -/
theorem signs_get {z : Str} {i : Nat} {d : D} (h : ((signs z).map D.str)[i]? = some d) : ∃ c, z.cps.toList[i]? = some c ∧ d = .str ⟨#[c]⟩ := by
  unfold signs at h
  rw [List.getElem?_map, List.getElem?_map] at h
  cases e : z.cps.toList[i]? with
  | none => rw [e] at h; cases h
  | some c => rw [e] at h; cases h; exact ⟨c, rfl, rfl⟩
theorem map_get {α : Type} {f : α → D} {xs : List α} {i : Nat} {d : D} (h : (xs.map f)[i]? = some d) : ∃ x, xs[i]? = some x ∧ d = f x := by
  rw [List.getElem?_map] at h
  cases e : xs[i]? with
  | none => rw [e] at h; cases h
  | some x => rw [e] at h; cases h; exact ⟨x, rfl, rfl⟩
theorem take_succ {α : Type} {xs : List α} {i : Nat} {x : α} (h : xs[i]? = some x) : xs.take (i + 1) = xs.take i ++ [x] := by
  rw [List.take_add_one, h]; rfl
theorem at_nat {α : Type} {xs : List α} {i : Nat} {x : α} (h : xs[i]? = some x) : L2.atI xs (i : Int) = some x := by
  have hl : i < xs.length := (List.getElem?_eq_some_iff.mp h).1
  have e : ixN xs.length (i : Int) = some i := by
    unfold ixN
    have h1 : (0 : Int) ≤ (i : Int) := Int.natCast_nonneg i
    have h2 : (i : Int) < (xs.length : Int) := Int.ofNat_lt.mpr hl
    rw [if_pos h1, if_pos h2]
    rfl
  unfold L2.atI
  rw [e]
  exact h
theorem str_eta (z : Str) : (⟨z.cps⟩ : Str) = z := rfl
end DL

/-! DL17: the rules with what follows as their last argument. -/
namespace DL
open PySem L2
section
variable {X : Cx} {ex : Exn → Prop} {Γ : En} {R : Bool → D → Prop} {pos p apos : Pos}
/-- a known local's value; one captured by a comprehension -/
theorem nl (i : Nat) {x : Str} {d : D} (hΓ : Γ[i]? = some (some (false, d))) (hN : X.N[i]? = some x) (hv : X.env.scope.names.lookup x = some .local) (h : R false d)
    (hd : (x == ("__debug__" : Str)) = false := by decide) (hcd : (x == ("__classdict__" : Str)) = false := by decide) : ED X ex (.Name x pos) Γ R := ed_name hΓ hN (.inl hv) h hd hcd
theorem nc (i : Nat) {x : Str} {d : D} (hΓ : Γ[i]? = some (some (false, d))) (hN : X.N[i]? = some x) (hv : X.env.scope.names.lookup x = some .cell) (h : R false d)
    (hd : (x == ("__debug__" : Str)) = false := by decide) (hcd : (x == ("__classdict__" : Str)) = false := by decide) : ED X ex (.Name x pos) Γ R := ed_name hΓ hN (.inr (.inl hv)) h hd hcd
theorem ix_lst {xs : List D} {i : Int} {d : D} (h : atI xs i = some d) (hR : R false d) : IxD R (.lst xs) (.int i) := ⟨d, h, hR⟩
theorem ix_tup {xs : List D} {i : Int} {d : D} (h : atI xs i = some d) (hR : R false d) : IxD R (.tup xs) (.int i) := ⟨d, h, hR⟩
theorem ix_scr {xs : List Int} {i n : Int} (h : atI xs i = some n) (hR : R false (.int n)) : IxD R (.scr xs) (.int i) := ⟨n, h, hR⟩
theorem ix_str {z : Str} {i : Int} {c : Nat} (hz : z.length ≤ sizeLine) (h : atI z.cps.toList i = some c) (hR : R false (.str ⟨#[c]⟩)) : IxD R (.str z) (.int i) := ⟨hz, c, h, hR⟩
theorem len_ {e : Expr} (hm : X.mg "len" = none) (h : ED X ex e Γ fun _ d => ∃ n, lenD d = some n ∧ R false (.int n)) (hg : Gl X "len" := by rfl)
    (he : starEach (e :: []) X.env = (false, eval e X.env) :: starEach [] X.env := by rfl) (hpl : (backTo pos (starEach [] X.env)).any (·.1) = false := by rfl) : ED X ex (.Call (.Name "len" p) [e] [] pos) Γ R := ed_len h hm hg he hpl
theorem max2_ {a b : Expr} (hm : X.mg "max" = none) (h : ED X ex a Γ fun _ d => ED X ex b Γ fun _ e => ∃ i j, d = .int i ∧ e = .int j ∧ R false (.int (max i j))) (hc : X.calm = true := by rfl) (hg : Gl X "max" := by rfl)
    (h1 : starEach (a :: [b]) X.env = (false, eval a X.env) :: starEach [b] X.env := by rfl) (h2 : starEach (b :: []) X.env = (false, eval b X.env) :: starEach [] X.env := by rfl) (hpl : (backTo pos (starEach [b] X.env)).any (·.1) = false := by rfl) : ED X ex (.Call (.Name "max" p) [a, b] [] pos) Γ R := ed_max2 h hc hm hg h1 h2 hpl
theorem min2_ {a b : Expr} (hm : X.mg "min" = none) (h : ED X ex a Γ fun _ d => ED X ex b Γ fun _ e => ∃ i j, d = .int i ∧ e = .int j ∧ R false (.int (min i j))) (hc : X.calm = true := by rfl) (hg : Gl X "min" := by rfl)
    (h1 : starEach (a :: [b]) X.env = (false, eval a X.env) :: starEach [b] X.env := by rfl) (h2 : starEach (b :: []) X.env = (false, eval b X.env) :: starEach [] X.env := by rfl) (hpl : (backTo pos (starEach [b] X.env)).any (·.1) = false := by rfl) : ED X ex (.Call (.Name "min" p) [a, b] [] pos) Γ R := ed_min2 h hc hm hg h1 h2 hpl
theorem maxL_ {a : Expr} (hm : X.mg "max" = none) (h : ED X ex a Γ fun _ d => ∃ ns : List Int, d = .lst (ns.map D.int) ∧ 0 < ns.length ∧ ∀ m, m ∈ ns → (∀ y ∈ ns, y ≤ m) → R false (.int m)) (hc : X.calm = true := by rfl) (hg : Gl X "max" := by rfl)
    (h1 : starEach (a :: []) X.env = (false, eval a X.env) :: starEach [] X.env := by rfl) (hpl : (backTo pos (starEach [] X.env)).any (·.1) = false := by rfl) : ED X ex (.Call (.Name "max" p) [a] [] pos) Γ R := ed_maxL h hc hm hg h1 hpl
theorem minL_ {a : Expr} (hm : X.mg "min" = none) (h : ED X ex a Γ fun _ d => ∃ ns : List Int, d = .lst (ns.map D.int) ∧ 0 < ns.length ∧ ∀ m, m ∈ ns → (∀ y ∈ ns, m ≤ y) → R false (.int m)) (hc : X.calm = true := by rfl) (hg : Gl X "min" := by rfl)
    (h1 : starEach (a :: []) X.env = (false, eval a X.env) :: starEach [] X.env := by rfl) (hpl : (backTo pos (starEach [] X.env)).any (·.1) = false := by rfl) : ED X ex (.Call (.Name "min" p) [a] [] pos) Γ R := ed_minL h hc hm hg h1 hpl
theorem sum_ {a : Expr} (hm : X.mg "sum" = none) (h : ED X ex a Γ fun _ d => ∃ ns : List Int, d = .lst (ns.map D.int) ∧ R false (.int ns.sum)) (hc : X.calm = true := by rfl) (hg : Gl X "sum" := by rfl)
    (h1 : starEach (a :: []) X.env = (false, eval a X.env) :: starEach [] X.env := by rfl) (hpl : (backTo pos (starEach [] X.env)).any (·.1) = false := by rfl) : ED X ex (.Call (.Name "sum" p) [a] [] pos) Γ R := ed_sum h hc hm hg h1 hpl
theorem strI_ {a : Expr} (hm : X.mg "str" = none) (h : ED X ex a Γ fun _ d => ∃ i : Int, d = .int i ∧ i.natAbs.log2 < 1920 ∧ R false (.str (toString i))) (hg : Gl X "str" := by rfl)
    (h1 : starEach (a :: []) X.env = (false, eval a X.env) :: starEach [] X.env := by rfl) (hpl : (backTo pos (starEach [] X.env)).any (·.1) = false := by rfl) : ED X ex (.Call (.Name "str" p) [a] [] pos) Γ R := ed_strI h hm hg h1 hpl
theorem intS_ {a : Expr} (hm : X.mg "int" = none) (h : ED X ex a Γ fun _ d => ∃ (s : Str) (n : Int), d = .str s ∧ PySem.intText? s = some n ∧ s.length ≤ 640 ∧ R false (.int n)) (hg : Gl X "int" := by rfl)
    (h1 : starEach (a :: []) X.env = (false, eval a X.env) :: starEach [] X.env := by rfl) (hpl : (backTo pos (starEach [] X.env)).any (·.1) = false := by rfl) : ED X ex (.Call (.Name "int" p) [a] [] pos) Γ R := ed_intS h hm hg h1 hpl
theorem intB_ {a : Expr} (hm : X.mg "int" = none) (h : ED X ex a Γ fun _ d => ∃ b, d = .bl b ∧ R false (.int (if b then 1 else 0))) (hg : Gl X "int" := by rfl)
    (h1 : starEach (a :: []) X.env = (false, eval a X.env) :: starEach [] X.env := by rfl) (hpl : (backTo pos (starEach [] X.env)).any (·.1) = false := by rfl) : ED X ex (.Call (.Name "int" p) [a] [] pos) Γ R := ed_intB h hm hg h1 hpl
theorem list_ {a : Expr} (hm : X.mg "list" = none) (h : ED X ex a Γ fun _ d => ∃ xs, (d = .lst xs ∨ d = .tup xs) ∧ R true (.lst xs)) (hg : Gl X "list" := by rfl)
    (h1 : starEach (a :: []) X.env = (false, eval a X.env) :: starEach [] X.env := by rfl) (hpl : (backTo pos (starEach [] X.env)).any (·.1) = false := by rfl) : ED X ex (.Call (.Name "list" p) [a] [] pos) Γ R := ed_listL h hm hg h1 hpl
/-- isinstance(e, T); T: the type's name -/
theorem isi_ {a : Expr} {x2 : Str} {p2 : Pos} (T : String) (hm : X.mg "isinstance" = none) (hm2 : X.mg x2 = none) (hv2 : bootBuiltins x2 = some (.type T)) (h : ED X ex a Γ fun _ d => ∃ b, isiD T d = some b ∧ R false (.bl b)) (hT : T ∈ T5 := by decide) (hg : Gl X "isinstance" := by rfl)
    (hg2 : Gl X x2 := by rfl) (hn2 : x2 ≠ "__name__" := by decide) (hd2 : (x2 == ("__debug__" : Str)) = false := by decide)
    (h1 : starEach (a :: [.Name x2 p2]) X.env = (false, eval a X.env) :: starEach [.Name x2 p2] X.env := by rfl) (h2 : starEach (.Name x2 p2 :: []) X.env = (false, eval (.Name x2 p2) X.env) :: starEach [] X.env := by rfl)
    (hpl : (backTo pos (starEach [.Name x2 p2] X.env)).any (·.1) = false := by rfl) : ED X ex (.Call (.Name "isinstance" p) [a, .Name x2 p2] [] pos) Γ R := ed_isi h hT hm hg hm2 hv2 hg2 hn2 hd2 h1 h2 hpl
theorem bt_str : bootBuiltins "str" = some (.type "str") := by decide +kernel
theorem bt_int : bootBuiltins "int" = some (.type "int") := by decide +kernel
theorem bt_bool : bootBuiltins "bool" = some (.type "bool") := by decide +kernel
theorem bt_list : bootBuiltins "list" = some (.type "list") := by decide +kernel
theorem bt_tuple : bootBuiltins "tuple" = some (.type "tuple") := by decide +kernel
/-- a def of the module, f(e, ..) -/
theorem call_ {x : Str} {f : Addr} {k n : Nat} {φ : Ph} {e : Expr} {es : List Expr} (F : FnX X k f n φ) (hr : Room k X.A) (hm : X.mg x = some (.ref f)) (h : EA X ex (e :: es) Γ fun ds => ds.length = n ∧ φ ds R ex) (hg : Gl X x := by rfl)
    (hdb : (x == ("__debug__" : Str)) = false := by decide) (he : starEach (e :: es) X.env = (false, eval e X.env) :: starEach es X.env := by rfl) (hpl : (backTo pos (starEach es X.env)).any (·.1) = false := by rfl) :
    ED X ex (.Call (.Name x p) (e :: es) [] pos) Γ R := ed_call F hr hm hg h hdb he hpl
theorem ea1 {n : Nat} {φ : List D → Prop} {d : D} (h : φ [d]) (hn : n = 1 := by rfl) : ([d] : List D).length = n ∧ φ [d] := ⟨hn.symm, h⟩
/-- walks -/
theorem rg1 {a tg : Expr} {R : List D → Prop} (hm : X.mg "range" = none) (h : ED X ex a Γ fun _ d => ∃ j : Int, d = .int j ∧ -(2 ^ 62) ≤ j ∧ j < 2 ^ 62 ∧ R (rangeD 0 j.toNat)) (hg : Gl X "range" := by rfl)
    (h1 : starEach [a] X.env = [(false, eval a X.env)] := by rfl) : EI X ex tg (.Call (.Name "range" p) [a] [] pos) Γ R := ei_range1 h hm hg h1
theorem rg2 {a b tg : Expr} {R : List D → Prop} (hm : X.mg "range" = none) (h : ED X ex a Γ fun _ d => ED X ex b Γ fun _ e => ∃ i j : Int, d = .int i ∧ e = .int j ∧ (-(2 ^ 62) ≤ i ∧ i < 2 ^ 62 ∧ -(2 ^ 62) ≤ j ∧ j < 2 ^ 62) ∧ R (rangeD i (j - i).toNat)) (hg : Gl X "range" := by rfl)
    (h1 : starEach [a, b] X.env = [(false, eval a X.env), (false, eval b X.env)] := by rfl) (h2 : starEach [b] X.env = [(false, eval b X.env)] := by rfl) : EI X ex tg (.Call (.Name "range" p) [a, b] [] pos) Γ R := ei_range2 h hm hg h1 h2
theorem rg3 {a b c tg : Expr} {R : List D → Prop} (hm : X.mg "range" = none) (h : ED X ex a Γ fun _ d => ED X ex b Γ fun _ e => ED X ex c Γ fun _ f => ∃ (i j l : Int) (n : Nat), d = .int i ∧ e = .int j ∧ f = .int l ∧ RgC i j l n ∧ R (rangeCD i l n)) (hg : Gl X "range" := by rfl)
    (h1 : starEach (a :: [b, c]) X.env = (false, eval a X.env) :: starEach [b, c] X.env := by rfl) (h2 : starEach (b :: [c]) X.env = (false, eval b X.env) :: starEach [c] X.env := by rfl) (h3 : starEach (c :: []) X.env = (false, eval c X.env) :: starEach [] X.env := by rfl) (hpl : (backTo pos (starEach [b, c] X.env)).any (·.1) = false := by rfl) :
    EI X ex tg (.Call (.Name "range" p) [a, b, c] [] pos) Γ R := ei_range3 h hm hg h1 h2 h3 hpl
theorem enL {a : Expr} {elts : List Expr} {kk : Nat} {tpos : Pos} {R : List D → Prop} (hm : X.mg "enumerate" = none) (h : ED X ex a Γ fun _ d => ∃ xs, d = .lst xs ∧ R (pairs (rangeD 0 xs.length) xs)) (hg : Gl X "enumerate" := by rfl)
    (hs : starEach [a] X.env = [(false, eval a X.env)] := by rfl) : EI X ex (.Tuple elts kk tpos) (.Call (.Name "enumerate" p) [a] [] pos) Γ R := ei_enumL h hm hg hs
theorem enS {a : Expr} {elts : List Expr} {kk : Nat} {tpos : Pos} {R : List D → Prop} (hm : X.mg "enumerate" = none) (h : ED X ex a Γ fun _ d => ∃ z, d = .str z ∧ R (pairs (rangeD 0 (signs z).length) ((signs z).map D.str))) (hg : Gl X "enumerate" := by rfl)
    (hs : starEach [a] X.env = [(false, eval a X.env)] := by rfl) : EI X ex (.Tuple elts kk tpos) (.Call (.Name "enumerate" p) [a] [] pos) Γ R := ei_enumS h hm hg hs
theorem zp {a b : Expr} {elts : List Expr} {kk : Nat} {tpos : Pos} {R : List D → Prop} (hm : X.mg "zip" = none) (h : ED X ex a Γ fun _ d => ED X ex b Γ fun _ e => ∃ xs ys, d = .lst xs ∧ e = .lst ys ∧ R (pairs xs ys)) (hg : Gl X "zip" := by rfl)
    (h1 : starEach (a :: [b]) X.env = (false, eval a X.env) :: starEach [b] X.env := by rfl) (h2 : starEach (b :: []) X.env = (false, eval b X.env) :: starEach [] X.env := by rfl) (hpl : (backTo pos (starEach [b] X.env)).any (·.1) = false := by rfl) : EI X ex (.Tuple elts kk tpos) (.Call (.Name "zip" p) [a, b] [] pos) Γ R := ei_zip h hm hg h1 h2 hpl
end
section
variable {X : Cx} {ex : EX} {Γ : En} {P : Po} {pos p apos : Pos}
/-- a rule with the slot ahead: x = e -/
theorem asg (i : Nat) {x : Str} {e : Expr} {p' : Pos} (hN : X.N.Nodup) (hi : X.N[i]? = some x) (hx : X.env.scope.names.lookup x = some .local)
    (h : ED X (fun x => ex x Γ) e Γ fun o d => P.nx (Γ.set i (some (o, d)))) (hs : swapsWith e (some (.Name x p')) pos.line X.env = pure false := by rfl) : W1 X ex (.Assign [.Name x p'] e pos) Γ P := w_asg hN hi (.inl hx) h hs (.inr hx)
/-- the same of a name that a comprehension captures -/
theorem asgc (i : Nat) {x : Str} {e : Expr} {p' : Pos} (hN : X.N.Nodup) (hi : X.N[i]? = some x) (hx : X.env.scope.names.lookup x = some .cell) (hf : X.fn x = true)
    (h : ED X (fun x => ex x Γ) e Γ fun o d => P.nx (Γ.set i (some (o, d)))) (hs : swapsWith e (some (.Name x p')) pos.line X.env = pure false := by rfl) : W1 X ex (.Assign [.Name x p'] e pos) Γ P := w_asg hN hi (.inr hx) h hs (.inl hf)
theorem app (i : Nat) {x : Str} {xs : List D} {e : Expr} (hN : X.N[i]? = some x) (hv : Vis X.env.scope x) (hΓ : Γ[i]? = some (some (true, .lst xs)))
    (h : ED X (fun x => ex x Γ) e Γ fun _ d => xs.length < sizeLine ∧ P.nx (Γ.set i (some (true, .lst (xs ++ [d])))))
    (hs : swapsWith (.Call (.Attribute (.Name x p) "append" apos) [e] [] pos) none pos.line X.env = pure false := by rfl)
    (hbase : attributeBase (.Name x p) "append" X.env (eval (.Name x p) X.env) = eval (.Name x p) X.env := by rfl)
    (hfew : ((backTo pos (starEach [e] X.env)).all (fun x => !x.1) && (backToKw pos (keywordEach [] X.env)).all (fun x => x.1.isSome)
      && decide (([e] : List Expr).length + ([] : List Keyword).length + (if ([] : List Keyword).isEmpty then 0 else 1) < 30)) = true := by rfl)
    (hline : (apos.endLine == pos.line) = true := by rfl) (hs1 : starEach (e :: []) X.env = (false, eval e X.env) :: starEach [] X.env := by rfl) (hpl : (backTo pos (starEach [] X.env)).any (·.1) = false := by rfl)
    (hd : (x == ("__debug__" : Str)) = false := by decide) (hcd : (x == ("__classdict__" : Str)) = false := by decide) : W1 X ex (.Expr (.Call (.Attribute (.Name x p) "append" apos) [e] [] pos) pos) Γ P := w_app hN hv hΓ h hs hbase hfew hline hs1 hpl hd hcd
end
end DL

/-! DL18: objects: made, asked, changed. -/
namespace DL
open PySem L2
/-! ### fields -/
def putFD (f : Str) (d : D) : List (Str × D) → List (Str × D)
  | [] => [(f, d)]
  | (g, e) :: r => if g = f then (g, d) :: r else (g, e) :: putFD f d r
theorem RepF.put {K : PySem.W.Frag} {G : Gh} {f : Str} {d : D} {v : V} (r : Rep K G d v) : ∀ {fs : List (Str × D)} {vs : List (Str × V)}, RepF K G fs vs → RepF K G (putFD f d fs) (putF f v vs)
  | _, _, .nil => .cons r .nil
  | _, _, .cons (k := k) q t => by
    unfold putFD putF
    by_cases e : k = f
    · rw [if_pos e, if_pos e]; exact .cons r t
    · rw [if_neg e, if_neg e]; exact .cons q (RepF.put r t)
theorem RepF.link {K : PySem.W.Frag} {G : Gh} {f : Str} {d : D} {q : Addr} (r : Rep K G d (.ref q)) : ∀ {fs : List (Str × D)} {vs : List (Str × V)}, RepF K G fs vs → fs.lookup f = some (.ref q) → RepF K G (putFD f d fs) vs
  | _, _, .nil, e => by cases e
  | _, _, .cons (k := k) (x := x) q' t, e => by
    unfold putFD
    by_cases h : k = f
    · rw [if_pos h]
      subst h
      rw [List.lookup_cons, show (k == k) = true from by simp] at e
      cases e
      cases q'
      exact .cons r t
    · rw [if_neg h]
      rw [List.lookup_cons, show (f == k) = false from by simpa using fun z : f = k => h z.symm] at e
      exact .cons q' (RepF.link r t e)
section
variable {K : PySem.W.Frag} {F : Fm} {G : Gh} {H : Hp} {σ : St} {Γ : En}
/-- slot i's object is told to be own -/
theorem Loc.promote {i : Nat} {d : D} {p : Addr} (E : Loc K G H σ Γ) (hi : σ[i]? = some (some (.ref p))) (n : G p = none) (w : OwnAt K G H p d) (hd : ∀ (j : Nat) (e : D), j ≠ i → Γ[j]? = some (some (true, e)) → σ[j]? = some (some (.ref p)) → False) : Loc K G H σ (Γ.set i (some (true, d))) where
  len := by rw [List.length_set]; exact E.len
  ext := E.ext
  val := fun j e h => by
    rcases set_get h with ⟨_, he⟩ | ⟨_, h⟩
    · cases he
    · exact E.val j e h
  own := fun j e h => by
    rcases set_get h with ⟨rfl, he⟩ | ⟨_, h⟩
    · cases he; exact ⟨p, hi, n, w⟩
    · exact E.own j e h
  dis := fun j l d1 e q hjl h1 h2 h3 h4 => by
    rcases set_get h1 with ⟨e1, _⟩ | ⟨hj, g1⟩
    · rcases set_get h2 with ⟨e2, _⟩ | ⟨hl, g2⟩
      · exact hjl (e1.trans e2.symm)
      · rw [e1, hi] at h3; cases h3
        exact hd l e hl g2 h4
    · rcases set_get h2 with ⟨e2, _⟩ | ⟨hl, g2⟩
      · rw [e2, hi] at h4; cases h4
        exact hd j _ hj g1 h3
      · exact E.dis j l _ e q hjl g1 g2 h3 h4
/-- an own slot becomes known, where what is lent stands at other slots -/
theorem EnvOk.knowL {i : Nat} {d : D} {lb : List Addr} (E : EnvOk K F G H σ Γ) (hb : ∀ a, F.B a → a ∈ lb) (h : Γ[i]? = some (some (true, d))) (hl : ∀ a ∈ lb, ∃ j e, j ≠ i ∧ Γ[j]? = some (some (true, .adr a e))) : ∃ G', EnvOk K F G' H σ (Γ.set i (some (false, d))) ∧ Le G G' := by
  obtain ⟨p, h1, h2, h3⟩ := E.loc.own i d h
  obtain ⟨o, ho, r⟩ := h3.know h2
  have hf : F.H0 p = none := (E.lent i d p h h1).resolve_right fun z => by
    obtain ⟨j, e, hj, he⟩ := hl p (hb p z)
    obtain ⟨q, q1, q2, q3⟩ := E.loc.own j _ he
    cases q3
    exact E.loc.dis j i _ _ p hj he h q1 h1
  have hi : i < σ.length := (List.getElem?_eq_some_iff.mp h1).1
  have le : Le G (gupd G p (.ho o)) := Le.gupd h2
  have st : Step F.B F.G0 F.H0 (gupd G p (.ho o)) H := E.step.know hf ho h2
  have gn : ∀ {j : Nat} {e : D} {q : Addr}, j ≠ i → Γ[j]? = some (some (true, e)) → σ[j]? = some (some (.ref q)) → q ≠ p := fun {j e q} hj g1 g2 z => by
    subst z; exact E.loc.dis j i e d q hj g1 h g2 h1
  refine ⟨_, ⟨⟨by rw [List.length_set]; exact E.loc.len, st.ext, fun j e hj => ?_, fun j e hj => ?_, fun j l a b q hjl g1 g2 g3 g4 => ?_⟩, st, fun j e q g1 g2 => ?_⟩, le⟩
  · rcases set_get hj with ⟨rfl, he⟩ | ⟨_, hj⟩
    · cases he; exact ⟨_, h1, r⟩
    · obtain ⟨v, a1, a2⟩ := E.loc.val j e hj; exact ⟨v, a1, a2.mono le⟩
  · rcases set_get hj with ⟨rfl, he⟩ | ⟨hji, hj⟩
    · cases he
    · obtain ⟨q, a1, a2, a3⟩ := E.loc.own j e hj
      exact ⟨q, a1, by rw [gupd_ne (gn hji hj a1)]; exact a2, a3.mono le fun o h => h⟩
  · rcases set_get g1 with ⟨rfl, he⟩ | ⟨_, g1⟩
    · cases he
    · rcases set_get g2 with ⟨rfl, he⟩ | ⟨_, g2⟩
      · cases he
      · exact E.loc.dis j l a b q hjl g1 g2 g3 g4
  · rcases set_get g1 with ⟨rfl, he⟩ | ⟨_, g1⟩
    · cases he
    · exact E.lent j e q g1 g2
/-- an own instance's field, that names an object known at slot g, is that object's data -/
theorem EnvOk.link {i g : Nat} {a q C : Addr} {fs : List (Str × D)} {f : Str} {d : D} (E : EnvOk K F G H σ Γ) (hi : Γ[i]? = some (some (true, .adr a (.ins C fs)))) (hg : Γ[g]? = some (some (false, .adr q d))) (hf : fs.lookup f = some (.ref q)) : EnvOk K F G H σ (Γ.set i (some (true, .adr a (.ins C (putFD f d fs))))) := by
  obtain ⟨p, h1, h2, h3⟩ := E.loc.own i _ hi
  obtain ⟨v, g1, g2⟩ := E.loc.val g _ hg
  cases g2 with
  | adr rd =>
    cases h3 with
    | adr w =>
      cases w with
      | ins hp r =>
        refine ⟨E.loc.promote h1 h2 (.adr (.ins hp (r.link rd hf))) fun j e hj g3 g4 => E.loc.dis j i e _ a hj g3 hi g4 h1, E.step, fun j e b g3 g4 => ?_⟩
        rcases set_get g3 with ⟨rfl, he⟩ | ⟨_, g3⟩
        · exact E.lent j _ b hi g4
        · exact E.lent j e b g3 g4
end
/-! ### ghost slots -/
/-- a slot whose name no text of the def has may hold anything -/
theorem ghost {X : Cx} {pins : List (Addr × Obj)} {σ : St} {H : Hp} {s : Shared} {g : Nat} {y : Str} {v : V} (I : Inv X pins σ H s) (hN : X.N[g]? = some y) (hv : ¬ Vis X.env.scope y) : Inv X pins (σ.set g (some v)) H s := by
  obtain ⟨m, hn, hl⟩ := I.loc
  refine ⟨I.ok, I.os, I.bare, I.base, ⟨m, hn, fun i x u h1 h2 h3 => ?_⟩, I.cell, I.free, I.freeC, I.pin, I.hok, by rw [List.length_set]; exact I.len⟩
  by_cases e : i = g
  · subst e
    rw [hN] at h1; cases h1
    exact absurd h3 hv
  · rw [List.getElem?_set_ne (Ne.symm e)] at h2
    exact hl i x u h1 h2 h3
theorem tWs_ghost {X : Cx} {st : List Stmt} {Dn : Ends} {σ : St} {H : Hp} {g : Nat} {y : Str} {v : V} (hN : X.N[g]? = some y) (hv : ¬ Vis X.env.scope y) (h : tWs X st Dn (σ.set g (some v)) H) : tWs X st Dn σ H := fun pins s I => h pins s (ghost I hN hv)
theorem not_vis {sc : Scope} {y : Str} (h : (match sc.names.lookup y with
    | some .local => false
    | some .cell => false
    | some .free => false
    | _ => true) = true) : ¬ Vis sc y := fun z => by
  rcases z with z | z | z <;> (rw [show sc.names.lookup y = _ from z] at h; cases h)
section
variable {X : Cx} {ex : EX} {Γ : En} {P : Po} {pos p apos pos' : Pos}
theorem wd_knowL (i : Nat) {d : D} {st : List Stmt} (hΓ : Γ[i]? = some (some (true, d))) (h : WD X ex st (Γ.set i (some (false, d))) P) (hl : ∀ a ∈ P.lb, ∃ j e, j ≠ i ∧ Γ[j]? = some (some (true, .adr a e))) : WD X ex st Γ P := fun F σ G H E W xk Dn lk => by
  obtain ⟨G', E', le⟩ := E.knowL (fun a h => lk.nb a h) hΓ hl
  exact h F σ G' H E' W (xk.go le) Dn (lk.go le)
theorem wd_link (i g : Nat) {a q C : Addr} {fs : List (Str × D)} {f : Str} {d : D} {st : List Stmt} (hi : Γ[i]? = some (some (true, .adr a (.ins C fs)))) (hg : Γ[g]? = some (some (false, .adr q d))) (hf : fs.lookup f = some (.ref q)) (h : WD X ex st (Γ.set i (some (true, .adr a (.ins C (putFD f d fs))))) P) : WD X ex st Γ P :=
  fun F σ G H E W xk Dn lk => h F σ G H (E.link hi hg hf) W xk Dn lk
/-- x.f = e, x an own instance; the value is known from now on -/
theorem w_fld (i : Nat) {x f : Str} {e : Expr} {a C : Addr} {fs : List (Str × D)} (c : Cls X.K C) (n : NoAttr X.K C f) (hN : X.N[i]? = some x) (hv : Vis X.env.scope x) (hΓ : Γ[i]? = some (some (true, .adr a (.ins C fs)))) (hl : fs.length < 1000)
    (h : ED X (fun x => ex x Γ) e Γ fun _ d => P.nx (Γ.set i (some (true, .adr a (.ins C (putFD f d fs)))))) (hs : swapsWith e (some (.Attribute (.Name x p) f pos')) pos.line X.env = pure false := by rfl)
    (hd : (x == ("__debug__" : Str)) = false := by decide) (hcd : (x == ("__classdict__" : Str)) = false := by decide) : W1 X ex (.Assign [.Attribute (.Name x p) f pos'] e pos) Γ P := by
  intro F σ G H E W xk Dn lk
  refine tW1_of (ps_fld (tv := tW X e) (pe_var hN hv hd hcd) pe_W hs) ?_
  refine ED.use (R := fun _ d => P.nx (Γ.set i (some (true, .adr a (.ins C (putFD f d fs)))))) (h.imp fun _ _ h => h) E.loc xk.te (xk.lk.at E) fun d v G1 H1 hR s1 r1 => ?_
  have E1 := E.go s1
  obtain ⟨q, h1, h2, h3⟩ := E1.loc.own i _ hΓ
  cases h3 with
  | adr w =>
    cases w with
    | ins hp r =>
      refine ⟨_, h1, _, C, _, _, rfl, hp, c, n, by rw [← r.length]; exact hl, ?_⟩
      exact lk.nx G1 _ σ _ hR (E1.write hΓ h1 (.adr (.ins upd_same (r.put r1)))) s1.le
/-- x.f = e, a new own object: it stands at the ghost slot g -/
theorem wd_fldG (i g : Nat) {x f y : Str} {e : Expr} {a C : Addr} {fs : List (Str × D)} {rest : List Stmt} (c : Cls X.K C) (n : NoAttr X.K C f) (hN : X.N[i]? = some x) (hv : Vis X.env.scope x) (hΓ : Γ[i]? = some (some (true, .adr a (.ins C fs)))) (hl : fs.length < 1000)
    (hg : X.N[g]? = some y) (hgv : ¬ Vis X.env.scope y) (hig : g ≠ i) {og : Option (Bool × D)} (hgl : Γ[g]? = some og)
    (h : ED X (fun x => ex x Γ) e Γ fun o d => o = true ∧ ∀ q, WD X ex rest ((Γ.set i (some (true, .adr a (.ins C (putFD f (.ref q) fs))))).set g (some (true, .adr q d))) P) (hs : swapsWith e (some (.Attribute (.Name x p) f pos')) pos.line X.env = pure false := by rfl)
    (hd : (x == ("__debug__" : Str)) = false := by decide) (hcd : (x == ("__classdict__" : Str)) = false := by decide) : WD X ex (.Assign [.Attribute (.Name x p) f pos'] e pos :: rest) Γ P := by
  intro F σ G H E W xk Dn lk
  refine tWs_of (pss_cons (u := tWs X rest) (ps_fld (tv := tW X e) (pe_var hN hv hd hcd) pe_W hs) pss_W) ?_
  refine h σ G H E.loc W xk.te (xk.lk.at E) _ fun o d v G1 H1 hR s1 r1 => ?_
  obtain ⟨rfl, hR⟩ := hR
  obtain ⟨q, rfl, hn, nq, w1⟩ := r1
  have E1 := E.go s1
  obtain ⟨a', h1, h2, h3⟩ := E1.loc.own i _ hΓ
  cases h3 with
  | adr w =>
    cases w with
    | ins hp r =>
      rename_i dx vs
      refine ⟨_, h1, _, C, _, _, rfl, hp, c, n, by rw [← r.length]; exact hl, ?_⟩
      have hqa : q ≠ a := fun z => by
        obtain ⟨a2, e1, e2, e3⟩ := E.loc.own i _ hΓ
        rw [h1] at e1; cases e1
        obtain ⟨o, ho⟩ := e3.there
        rw [← z, hn] at ho; cases ho
      have E2 := E1.write (o := .ins C dx (putF f (.ref q) vs)) hΓ h1 (.adr (.ins upd_same (r.put .ref)))
      have w2 : OwnAt X.K G1 (upd H1 a (.ins C dx (putF f (.ref q) vs))) q d := w1.mono (Le.refl _) fun o ho => by rw [upd_ne hqa]; exact ho
      have hgl' : g < σ.length := by rw [E.loc.len]; exact (List.getElem?_eq_some_iff.mp hgl).1
      have E3 := E2.setv (i := g) (d := .ref q) (v := .ref q) .ref
      have old : ∀ (j : Nat) (e : D), j ≠ g → ((Γ.set i (some (true, .adr a (.ins C (putFD f (.ref q) fs))))).set g (some (false, .ref q)))[j]? = some (some (true, e)) → (σ.set g (some (.ref q)))[j]? = some (some (.ref q)) → False := fun j e hj k1 k2 => by
        rw [List.getElem?_set_ne (Ne.symm hj)] at k1 k2
        obtain ⟨e', k3⟩ : ∃ e', Γ[j]? = some (some (true, e')) := by
          rcases set_get k1 with ⟨rfl, _⟩ | ⟨_, k1⟩
          · exact ⟨_, hΓ⟩
          · exact ⟨_, k1⟩
        obtain ⟨b, b1, b2, b3⟩ := E.loc.own j e' k3
        rw [k2] at b1; cases b1
        obtain ⟨o, ho⟩ := b3.there
        rw [hn] at ho; cases ho
      have at_g : (σ.set g (some (V.ref q)))[g]? = some (some (.ref q)) := List.getElem?_set_self hgl'
      have L4 := E3.loc.promote (i := g) (d := .adr q d) at_g nq (.adr w2) old
      rw [List.set_set] at L4
      have E4 : EnvOk X.K F G1 (upd H1 a (.ins C dx (putF f (.ref q) vs))) (σ.set g (some (.ref q))) ((Γ.set i (some (true, .adr a (.ins C (putFD f (.ref q) fs))))).set g (some (true, .adr q d))) := by
        refine ⟨L4, E3.step, fun j e b k1 k2 => ?_⟩
        rcases set_get k1 with ⟨rfl, _⟩ | ⟨hj, k1⟩
        · rw [at_g] at k2; cases k2
          exact .inl (E.step.free hn)
        · rw [List.getElem?_set_ne (Ne.symm hj)] at k2
          exact E2.lent j e b k1 k2
      refine tWs_ghost (g := g) (v := .ref q) hg hgv ?_
      exact hR q F _ G1 _ E4 W (xk.go s1.le) Dn (lk.go s1.le)
/-- x.f[k] = e: the dict is own, at slot g -/
theorem w_dputF (i g : Nat) {x f : Str} {e ix : Expr} {a q C : Addr} {fs : List (Str × D)} {dd : D} {p2 : Pos} (c : Cls X.K C) (n : NoAttr X.K C f) (hu : X.A.units + 1 < cLine) (hN : X.N[i]? = some x) (hv : Vis X.env.scope x) (hΓ : Γ[i]? = some (some (true, .adr a (.ins C fs)))) (hf : fs.lookup f = some (.ref q)) (hg : Γ[g]? = some (some (true, .adr q dd)))
    (h : ED X (fun x => ex x Γ) e Γ fun _ d => ED X (fun x => ex x Γ) ix Γ fun _ y => ∃ dd', PutD dd y d dd' ∧ P.nx (Γ.set g (some (true, .adr q dd'))))
    (hs : swapsWith e (some (.Subscript (.Attribute (.Name x p) f pos') ix p2)) pos.line X.env = pure false := by rfl) (hb : attributeBase (.Name x p) f X.env (eval (.Name x p) X.env) = eval (.Name x p) X.env := by rfl)
    (hd : (x == ("__debug__" : Str)) = false := by decide) (hcd : (x == ("__classdict__" : Str)) = false := by decide) : W1 X ex (.Assign [.Subscript (.Attribute (.Name x p) f pos') ix p2] e pos) Γ P := by
  intro F σ G H E W xk Dn lk
  refine tW1_of (ps_dput hu (tv := tW X e) (ty := tW X ix) (pe_fld (pe_var hN hv hd hcd) hb) pe_W pe_W hs) ?_
  refine ED.use (R := fun _ d => ED X (fun x => ex x Γ) ix Γ fun _ y => ∃ dd', PutD dd y d dd' ∧ P.nx (Γ.set g (some (true, .adr q dd')))) (h.imp fun _ _ h => h) E.loc xk.te (xk.lk.at E) fun d v G1 H1 hR s1 r1 => ?_
  have E1 := E.go s1
  obtain ⟨a', h1, h2, h3⟩ := E1.loc.own i _ hΓ
  cases h3 with
  | adr w =>
    cases w with
    | ins hp r =>
      obtain ⟨u, hu', ru⟩ := r.get hf
      cases ru
      refine ⟨_, h1, _, C, _, _, .ref q, rfl, hp, c, n, hu', ?_⟩
      refine ED.use (R := fun _ y => ∃ dd', PutD dd y d dd' ∧ P.nx (Γ.set g (some (true, .adr q dd')))) (hR.imp fun _ _ h => h) E1.loc xk.te (xk.lk.at E1 s1.le) fun y w G2 H2 hR2 s2 r2 => ?_
      obtain ⟨dd', hput, hR2⟩ := hR2
      have E2 := E1.go s2
      obtain ⟨b, b1, b2, b3⟩ := E2.loc.own g _ hg
      cases b3 with
      | adr w3 =>
        cases hput with
        | k k v' hl =>
          cases w3 with
          | dK hp3 r3 =>
            rw [rep_kD r2]
            refine ⟨q, _, rfl, DPut.k hp3 (by rw [← r3.length]; exact hl), ?_⟩
            exact lk.nx G2 _ σ _ hR2 (E2.write hg b1 (.adr (.dK upd_same (RepK.put (r1.mono s2.le) r3)))) (s1.trans s2).le
        | t k v' hl =>
          cases w3 with
          | dT hp3 r3 =>
            cases r2 with
            | tup ht qt =>
              rw [rep_kDs qt] at ht
              refine ⟨q, _, rfl, DPut.t hp3 (s2.ext _ _ ht) (by rw [← r3.length]; exact hl), ?_⟩
              exact lk.nx G2 _ σ _ hR2 (E2.write hg b1 (.adr (.dT upd_same (RepT.put (r1.mono s2.le) r3)))) (s1.trans s2).le
end
end DL

/-! DL19: objects made; methods; the rule of an __init__. -/
namespace DL
open PySem L2
section
variable {X : Cx} {ex : Exn → Prop} {Γ : En} {R : Bool → D → Prop} {pos p apos : Pos}
/-- a local whose object's address is told -/
theorem na (i : Nat) {x : Str} {a : Addr} {d : D} (hΓ : Γ[i]? = some (some (false, .adr a d))) (hN : X.N[i]? = some x) (hv : X.env.scope.names.lookup x = some .local) (h : R false d)
    (hd : (x == ("__debug__" : Str)) = false := by decide) (hcd : (x == ("__classdict__" : Str)) = false := by decide) : ED X ex (.Name x pos) Γ R := by
  intro σ G H E W tk xa Q k
  obtain ⟨v, e, r⟩ := E.val i _ hΓ
  cases r with
  | adr r => exact tW_of (pe_var hN (.inl hv) hd hcd) ⟨_, e, k false d _ G H h (.refl E.ext) r⟩
/-- an address whose object stands at slot g -/
theorem ed_at (g : Nat) {q : Addr} {d : D} {e : Expr} (hΓ : Γ[g]? = some (some (false, .adr q d))) (h : ED X ex e Γ fun _ y => y = .ref q ∧ R false d) : ED X ex e Γ R := by
  intro σ G H E W tk xa Q k
  refine ED.use (R := fun _ y => y = .ref q ∧ R false d) (h.imp fun _ _ h => h) E tk xa fun y v G1 H1 hR s1 r1 => ?_
  obtain ⟨rfl, hR⟩ := hR
  cases r1
  obtain ⟨v, e, r⟩ := (E.go s1).val g _ hΓ
  cases r with
  | adr r => exact k false d _ G1 H1 hR s1 r
/-- a field of an own instance -/
theorem fldO (i : Nat) {x f : Str} {a C : Addr} {fs : List (Str × D)} {d : D} (c : Cls X.K C) (n : NoAttr X.K C f) (hΓ : Γ[i]? = some (some (true, .adr a (.ins C fs)))) (hN : X.N[i]? = some x) (hv : Vis X.env.scope x) (hf : fs.lookup f = some d) (h : R false d)
    (hb : attributeBase (.Name x p) f X.env (eval (.Name x p) X.env) = eval (.Name x p) X.env := by rfl) (hd : (x == ("__debug__" : Str)) = false := by decide) (hcd : (x == ("__classdict__" : Str)) = false := by decide) : ED X ex (.Attribute (.Name x p) f pos) Γ R := by
  intro σ G H E W tk xa Q k
  refine tW_of (pe_fld (pe_var hN hv hd hcd) hb) ?_
  obtain ⟨a', h1, h2, h3⟩ := E.own i _ hΓ
  cases h3 with
  | adr w =>
    cases w with
    | ins hp r =>
      obtain ⟨u, hu, ru⟩ := r.get hf
      exact ⟨_, h1, _, C, _, _, u, rfl, hp, c, n, hu, k false d u G H h (.refl E.ext) ru⟩
/-- e.f of a known instance -/
theorem fld {e : Expr} {f : Str} {C : Addr} {fs : List (Str × D)} {v : D} (c : Cls X.K C) (n : NoAttr X.K C f) (h : ED X ex e Γ fun _ d => d = .ins C fs ∧ fs.lookup f = some v ∧ R false v) (hb : attributeBase e f X.env (eval e X.env) = eval e X.env := by rfl) : ED X ex (.Attribute e f pos) Γ R :=
  ed_fld (h.imp fun _ d ⟨e, hl, hR⟩ => ⟨C, fs, v, e, c, n, hl, hR⟩) hb

/-! ### methods -/
theorem pe_methS {CX : CXT} {k : Nat} {f C : Addr} {fd : FuncData} {ps : List Str} {sp : Sp} {E : St → XK} {m : Str} {e o : Expr} {es : List Expr} {ta : TE} {t : TA} {pl : Sem Bool} (he : PE X o ta) (c : Cls X.K C) (hm : Meth X.K C m f) (F : FnOk X.prog X.w X.K X.mg X.base CX k f fd ps sp) (hr : Room k X.A) (hb : Binds X.K fd ps []) (hx : ∀ σ, PassesAt CX X σ (E σ)) (ha : PA X (e :: es) t)
    (hst : starEach (e :: es) X.env = (false, eval e X.env) :: starEach es X.env := by rfl) (hpl : (backTo pos (starEach es X.env)).any (·.1) = false := by rfl)
    (ht : eval (.Call (.Attribute o m apos) (e :: es) [] pos) X.env = (do
      let ov ← eval o X.env
      standAt apos.atName
      let (f, first) ← holding [ov] (getMethod ov m pl)
      callWith pos f first (backTo pos (starEach (e :: es) X.env)) (backToKw pos (keywordEach [] X.env))) := by rfl) :
    PE X (.Call (.Attribute o m apos) (e :: es) [] pos) (fun σ H Q => ta σ H fun x H1 => ∃ a dx fs, x = .ref a ∧ H1 a = some (.ins C dx fs) ∧ fs.lookup m = none ∧ t σ H1 fun vs H2 => sp (x :: vs) H2 Q (E σ)) := by
  refine ⟨fun pins s σ H Q I h => ?_⟩
  refine PySem.W.methodCall_KW (pl := pl) (thn (he.run pins s σ H _ I h) fun u s1 hh => ?_) ht
  obtain ⟨x, H1, I1, rx, a, dx, fs, ex, ea, l, q⟩ := hh
  subst ex
  obtain rfl : u = Value.ref a := rx
  refine getmeth_ok I1 ea c hm l (PySem.W.callWith_K (first := [.ref a]) (h₀ := X.base) I.ok.mod.kin hm.kp (thn (ha.run pos pins s1 σ H1 _ I1 q) fun us s2 hh2 => ?_) hst hpl)
  obtain ⟨vs, H2, I2, r, q2⟩ := hh2
  exact ⟨I2.kIn, run_fnS (us := .ref a :: us) (vs := .ref a :: vs) F hr hb (hx σ) I2 (.cons rfl r) q2⟩
theorem pe_methS0 {CX : CXT} {k : Nat} {f C : Addr} {fd : FuncData} {ps : List Str} {sp : Sp} {E : St → XK} {m : Str} {o : Expr} {ta : TE} {pl : Sem Bool} (he : PE X o ta) (c : Cls X.K C) (hm : Meth X.K C m f) (F : FnOk X.prog X.w X.K X.mg X.base CX k f fd ps sp) (hr : Room k X.A) (hb : Binds X.K fd ps []) (hx : ∀ σ, PassesAt CX X σ (E σ))
    (ht : eval (.Call (.Attribute o m apos) [] [] pos) X.env = (do
      let ov ← eval o X.env
      standAt apos.atName
      let (f, first) ← holding [ov] (getMethod ov m pl)
      callWith pos f first (backTo pos (starEach [] X.env)) (backToKw pos (keywordEach [] X.env))) := by rfl) :
    PE X (.Call (.Attribute o m apos) [] [] pos) (fun σ H Q => ta σ H fun x H1 => ∃ a dx fs, x = .ref a ∧ H1 a = some (.ins C dx fs) ∧ fs.lookup m = none ∧ sp [x] H1 Q (E σ)) := by
  refine ⟨fun pins s σ H Q I h => ?_⟩
  refine PySem.W.methodCall_KW (pl := pl) (thn (he.run pins s σ H _ I h) fun u s1 hh => ?_) ht
  obtain ⟨x, H1, I1, rx, a, dx, fs, ex, ea, l, q⟩ := hh
  subst ex
  obtain rfl : u = Value.ref a := rx
  exact getmeth_ok I1 ea c hm l (PySem.W.callWith_K0 (first := [.ref a]) I1.kIn hm.kp (run_fnS (us := [.ref a]) (vs := [.ref a]) F hr hb (hx σ) I1 (.cons rfl .nil) q))
/-- o.m(e, ..), o known -/
theorem meth {k n : Nat} {f C : Addr} {φ : Ph} {m : Str} {e o : Expr} {es : List Expr} {fs : List (Str × D)} {pl : Sem Bool} (c : Cls X.K C) (hm : Meth X.K C m f) (F : FnX X k f n φ) (hr : Room k X.A)
    (h : ED X ex o Γ fun _ d => d = .ins C fs ∧ fs.lookup m = none ∧ EA X ex (e :: es) Γ fun ds => ds.length + 1 = n ∧ φ (d :: ds) R ex)
    (hst : starEach (e :: es) X.env = (false, eval e X.env) :: starEach es X.env := by rfl) (hpl : (backTo pos (starEach es X.env)).any (·.1) = false := by rfl)
    (ht : eval (.Call (.Attribute o m apos) (e :: es) [] pos) X.env = (do
      let ov ← eval o X.env
      standAt apos.atName
      let (f, first) ← holding [ov] (getMethod ov m pl)
      callWith pos f first (backTo pos (starEach (e :: es) X.env)) (backToKw pos (keywordEach [] X.env))) := by rfl) : ED X ex (.Call (.Attribute o m apos) (e :: es) [] pos) Γ R := by
  intro σ G H E W tk xa Q k'
  obtain ⟨fd, ps, F1, F2⟩ := F.ok
  refine tW_of (pe_methS (E := WE W) (ta := tW X o) (t := tWa X (e :: es)) pe_W c hm F1 hr F2 tk.call pa_W hst hpl ht) ?_
  refine ED.use (R := fun _ d => d = .ins C fs ∧ fs.lookup m = none ∧ EA X ex (e :: es) Γ fun ds => ds.length + 1 = n ∧ φ (d :: ds) R ex) (h.imp fun _ _ h => h) E tk xa fun d v G1 H1 h1 s1 r1 => ?_
  obtain ⟨rfl, hl, h1⟩ := h1
  have r1' := r1
  cases r1 with
  | ins hp q =>
    refine ⟨_, _, _, rfl, s1.ext _ _ hp, q.none hl, ?_⟩
    refine h1 σ G1 H1 (E.go s1) W tk (xa.go s1) _ fun ds vs G2 H2 h2 s2 r2 => ?_
    have st := s1.trans s2
    exact ⟨G2, .ins C fs :: ds, R, ex, s2.ext, .cons (r1'.mono s2.le) r2, h2.1, h2.2, fun o d v G' H' hR s r => k' o d v G' H' hR (st.trans s) (r.back st), fun x c d G' H' hx s hc => xa x c d G' H' hx (st.trans s) (hc.older st)⟩
theorem meth0 {k : Nat} {f C : Addr} {φ : Ph} {m : Str} {o : Expr} {fs : List (Str × D)} {pl : Sem Bool} (c : Cls X.K C) (hm : Meth X.K C m f) (F : FnX X k f 1 φ) (hr : Room k X.A)
    (h : ED X ex o Γ fun _ d => d = .ins C fs ∧ fs.lookup m = none ∧ φ [d] R ex)
    (ht : eval (.Call (.Attribute o m apos) [] [] pos) X.env = (do
      let ov ← eval o X.env
      standAt apos.atName
      let (f, first) ← holding [ov] (getMethod ov m pl)
      callWith pos f first (backTo pos (starEach [] X.env)) (backToKw pos (keywordEach [] X.env))) := by rfl) : ED X ex (.Call (.Attribute o m apos) [] [] pos) Γ R := by
  intro σ G H E W tk xa Q k'
  obtain ⟨fd, ps, F1, F2⟩ := F.ok
  refine tW_of (pe_methS0 (E := WE W) (ta := tW X o) pe_W c hm F1 hr F2 tk.call ht) ?_
  refine ED.use (R := fun _ d => d = .ins C fs ∧ fs.lookup m = none ∧ φ [d] R ex) (h.imp fun _ _ h => h) E tk xa fun d v G1 H1 h1 s1 r1 => ?_
  obtain ⟨rfl, hl, h1⟩ := h1
  have r1' := r1
  cases r1 with
  | ins hp q =>
    exact ⟨_, _, _, rfl, s1.ext _ _ hp, q.none hl, G1, [.ins C fs], R, ex, s1.ext, .cons r1' .nil, rfl, h1, fun o d v G' H' hR s r => k' o d v G' H' hR (s1.trans s) (r.back s1), fun x c d G' H' hx s hc => xa x c d G' H' hx (s1.trans s) (hc.older s1)⟩

/-! ### objects made -/
/-- an __init__'s promise by data: φ args the-fields-at-the-end what-is-raised -/
abbrev PhI := List D → (List (Str × D) → Prop) → (Exn → Prop) → Prop
def spI (K : PySem.W.Frag) (C : Addr) (n : Nat) (φ : PhI) : Sp := fun vs H Q Ek => ∃ (G : Gh) (ds : List D) (x dx : Addr) (vs' : List V) (rt : List (Str × D) → Prop) (xs : Exn → Prop), Ext G H ∧ vs = .ref x :: vs' ∧ Reps K G ds vs' ∧ ds.length = n ∧ H x = some (.ins C dx []) ∧ G x = none ∧ φ ds rt xs ∧
  (∀ fs G' H', rt fs → Step (fun a => a = x) G H G' H' → G' x = none → OwnAt K G' H' x (.ins C fs) → Q .non H') ∧ (∀ e c d G' H', xs e → Step (fun a => a = x) G H G' H' → ExcAt K H G' H' e c d → Ek c d H')
theorem spI_len {K : PySem.W.Frag} {C : Addr} {n : Nat} {φ : PhI} {vs : List V} {H : Hp} {Q : VK} {Ek : XK} (h : spI K C n φ vs H Q Ek) : vs.length = n + 1 := by
  obtain ⟨G, ds, x, dx, vs', _, _, _, rfl, r, hl, _⟩ := h
  rw [List.length_cons, ← r.length, hl]
structure FnI (P : Program) (w : World) (K : PySem.W.Frag) (mg : Str → Option Value) (base : Heap) (k : Nat) (f C : Addr) (n : Nat) (φ : PhI) : Prop where
  ok : ∃ fd ps, FnOk P w K mg base (L2.CX P w) k f fd ps (spI K C n φ) ∧ Binds K fd ps []
theorem run_makeS {CX : CXT} {k : Nat} {f C : Addr} {fd : FuncData} {ps : List Str} {sp : Sp} {E : XK} {pins : List (Addr × Obj)} {σ : St} {H : Hp} {s : Shared} {Q : VK} {us : List Value} {vs : List V} (M : Mk X.K C f) (F : FnOk X.prog X.w X.K X.mg X.base CX k f fd ps sp) (hr : Room (k + 1) X.A) (hb : Binds X.K fd ps [])
    (hx : PassesAt CX X σ E) (I : Inv X pins σ H s) (r : Vals vs us)
    (h : ∀ x dx, H x = none → H dx = none → dx ≠ x → sp (.ref x :: vs) (upd (upd H dx (.own x)) x (.ins C dx [])) (fun v H2 => v = .non ∧ Q (.ref x) H2) E) :
    wpAny (model X.prog X.w) X.A (call (.ref C) us) (EP X pins σ Q) X.xe s := by
  generalize hn : s.heap.objs.size = z
  have h1 : H (z + 1) = none := I.hok.fresh (by rw [hn]; exact Nat.le_succ _)
  have h2 : H z = none := I.hok.fresh (Nat.le_of_eq hn)
  have hq := h (z + 1) z h1 h2 (Nat.ne_of_lt (Nat.lt_succ_self _))
  have I2 := Inv.made (C := C) I
  rw [hn] at I2
  have r2 : Vals (V.ref (z + 1) :: vs) (Value.ref (z + 1) :: us) := .cons rfl r
  have hl : (Value.ref (z + 1) :: us).length = ps.length := by rw [← r2.length]; exact F.len _ _ _ _ hq
  have b := hb _ (Value.ref (z + 1) :: us) I2.kIn (by rw [List.append_nil]; exact hl)
  rw [List.append_nil] at b
  refine wpAny_call (make_map (f := f) I.kIn M.makes M.init (beq_iff_eq.mp M.fn) ?_)
  rw [hn]
  refine codeAny_mono (F.run _ X.stack _ _ ⟨Value.ref (z + 1) :: us, []⟩ (Value.ref (z + 1) :: us) _ _ E (hr.make C us []) (I2.env0.make C us []) b r2 hq) fun r s' hq' => ?_
  cases r with
  | error e => exact hx pins _ _ e s' I2 hq'
  | ok fl =>
    cases fl with
    | ret u =>
      obtain ⟨v, H', I3, rv, ev, q3⟩ := I2.after hq'
      subst ev
      exact ⟨rv, ⟨V.ref (z + 1), H', I3, rfl, q3⟩⟩
    | next => exact hq'.elim
    | brk => exact hq'.elim
    | cont => exact hq'.elim
theorem pe_makeS {CX : CXT} {k : Nat} {f C : Addr} {fd : FuncData} {ps : List Str} {sp : Sp} {E : St → XK} {x : Str} {e : Expr} {es : List Expr} {t : TA} (M : Mk X.K C f) (F : FnOk X.prog X.w X.K X.mg X.base CX k f fd ps sp) (hr : Room (k + 1) X.A) (hg : Gl X x) (hm : X.mg x = some (.ref C)) (hb : Binds X.K fd ps []) (hx : ∀ σ, PassesAt CX X σ (E σ))
    (ha : PA X (e :: es) t) (hdb : (x == ("__debug__" : Str)) = false := by decide) (he : starEach (e :: es) X.env = (false, eval e X.env) :: starEach es X.env := by rfl) (hpl : (backTo pos (starEach es X.env)).any (·.1) = false := by rfl) :
    PE X (.Call (.Name x p) (e :: es) [] pos) (fun σ H Q => t σ H fun vs H1 => ∀ x dx, H1 x = none → H1 dx = none → dx ≠ x → sp (.ref x :: vs) (upd (upd H1 dx (.own x)) x (.ins C dx [])) (fun v H2 => v = .non ∧ Q (.ref x) H2) (E σ)) := by
  refine ⟨fun pins s σ H Q I h => ?_⟩
  refine wpAny_Call_Name_kw (ld_glob I hg hm (PySem.W.callWith_K (h₀ := X.base) I.ok.mod.kin M.kp (thn (ha.run pos pins s σ H _ I h) fun us s1 hh => ?_) he hpl) hdb)
  obtain ⟨vs, H1, I1, r, q⟩ := hh
  exact ⟨I1.kIn, run_makeS M F hr hb (hx σ) I1 r q⟩
theorem Step.own0 {x : Addr} {G G1 : Gh} {H H0 H1 : Hp} (a : Step0 G H G H0) (hx : H x = none) (b : Step (fun a => a = x) G H0 G1 H1) : Step0 G H G1 H1 where
  le := b.le
  kept := fun y o h n _ => b.kept y o (a.kept y o h n id) n fun z => by rw [z, hx] at h; cases h
  new := fun y g h n => by
    have := b.new y g h n
    exact a.free this
  ext := b.ext
  live := fun y o h => by
    obtain ⟨o', h'⟩ := a.live y o h
    exact b.live y o' h'
/-- C(e, ..) -/
theorem make {k n : Nat} {f C : Addr} {φ : PhI} {x : Str} {e : Expr} {es : List Expr} (M : Mk X.K C f) (F : FnI X.prog X.w X.K X.mg X.base k f C n φ) (hr : Room (k + 1) X.A) (hm : X.mg x = some (.ref C))
    (h : EA X ex (e :: es) Γ fun ds => ds.length = n ∧ φ ds (fun fs => R true (.ins C fs)) ex) (hg : Gl X x := by rfl)
    (hdb : (x == ("__debug__" : Str)) = false := by decide) (he : starEach (e :: es) X.env = (false, eval e X.env) :: starEach es X.env := by rfl) (hpl : (backTo pos (starEach es X.env)).any (·.1) = false := by rfl) : ED X ex (.Call (.Name x p) (e :: es) [] pos) Γ R := by
  intro σ G H E W tk xa Q k'
  obtain ⟨fd, ps, F1, F2⟩ := F.ok
  refine tW_of (pe_makeS (E := WE W) (t := tWa X (e :: es)) M F1 hr hg hm F2 tk.call pa_W hdb he hpl) ?_
  refine h σ G H E W tk xa _ fun ds vs G1 H1 h1 s1 r1 => ?_
  intro y dy ny ndy ne
  have a1 : Step0 G1 H1 G1 (upd H1 dy (.own y)) := .alloc s1.ext ndy
  have ny' : (upd H1 dy (HO.own y)) y = none := by rw [upd_ne (Ne.symm ne)]; exact ny
  have a2 : Step0 G1 H1 G1 (upd (upd H1 dy (.own y)) y (.ins C dy [])) := a1.trans (.alloc a1.ext ny')
  refine ⟨G1, ds, y, dy, vs, _, ex, a2.ext, rfl, r1, h1.1, upd_same, s1.ext.gfree ny, h1.2, fun fs G' H' hR s ng w => ⟨rfl, ?_⟩, fun z c d G' H' hx s hc => ?_⟩
  · exact k' true _ _ G' H' hR (s1.trans (a2.own0 ny s)) ⟨y, rfl, s1.free ny, ng, w⟩
  · exact xa z c d G' H' hx (s1.trans (a2.own0 ny s)) (hc.older (s1.trans a2))
end
section
variable {P : Program} {w : World} {K : PySem.W.Frag} {mg : Str → Option Value} {base : Heap}
/-- the slots at an __init__'s entry -/
def envI (N : List Str) (x C : Addr) (ds : List D) : En := (env0 N (.ref x :: ds)).set 0 (some (true, .adr x (.ins C [])))
theorem fn_I {x qual : Str} {st : Stmt} {f C : Addr} {fd : FuncData} {N ps : List Str} {k n : Nat} {φ : PhI} (F : Fun K x qual st f fd) (S : FnScope N ps (defScope st)) (b : Binds K fd ps []) (hn : ps.length = n + 1)
    (hbody : ∀ (cdv : Value) (A : Around) (outer : List Env) (s : Shared) (H : Hp) (E : XK), Room k (bodyX P w K mg base N qual st f cdv A outer s H E).A → ∀ x ds rt xs, φ ds rt xs → ds.length = n →
      WD (bodyX P w K mg base N qual st f cdv A outer s H E) (fun y _ => xs y) (defBody st) (envI N x C ds) { nx := fun Γ => ∃ fs, Γ[0]? = some (some (true, .adr x (.ins C fs))) ∧ rt fs, rt := fun _ _ _ => False, lb := [x] }) :
    FnI P w K mg base (k + 1) f C n φ := by
  refine ⟨⟨fd, ps, F.okX S (fun vs H Q E h => (spI_len h).trans hn.symm) (fun cdv A outer s H vs Q E hr h => ⟨_, pss_W, ?_⟩), b⟩⟩
  obtain ⟨G, ds, y, dy, vs', rt, xs, e, rfl, r, hl, hy, gy, hφ, hrt, hxs⟩ := h
  have L0 : Loc K G H (L2.start N (.ref y :: vs')) (env0 N (.ref y :: ds)) := loc_start e (.cons .ref r)
  have own0 : ∀ (j : Nat) (d : D), (env0 N (.ref y :: ds))[j]? = some (some (true, d)) → False := fun i d h => by
    unfold env0 at h
    by_cases hi : i < (D.ref y :: ds).length
    · rw [List.getElem?_append_left (by rw [List.length_map]; exact hi), List.getElem?_map] at h
      cases q : (D.ref y :: ds)[i]? with
      | none => rw [q] at h; cases h
      | some d' => rw [q] at h; cases h
    · rw [List.getElem?_append_right (by rw [List.length_map]; exact Nat.le_of_not_lt hi), List.getElem?_replicate] at h
      split at h <;> cases h
  have h0 : (L2.start N (.ref y :: vs'))[0]? = some (some (.ref y)) := rfl
  have L1 := L0.promote (i := 0) (d := .adr y (.ins C [])) h0 gy (.adr (.ins hy .nil)) fun j d _ h _ => own0 j d h
  refine hbody cdv A outer s H E hr y ds rt xs hφ hl { B := fun a => a = y, G0 := G, H0 := H } _ G H ⟨L1, .refl e, fun i d p h hp => ?_⟩ (fun c d _ H' => E c d H') ⟨takes_of rfl rfl rfl rfl, passes_of rfl, fun x c d G' H' σ' Γ' hx E' _ hc => hxs x c d G' H' hx E'.step hc⟩ _
    ⟨fun G' H' σ' Γ' ⟨fs, hfs, hR⟩ E' _ => ?_, fun _ _ _ _ _ _ _ h => h.elim, fun _ _ _ _ h => h.elim, fun _ _ _ _ h => h.elim, fun a h => by rw [h]; exact List.mem_cons_self⟩
  · rcases set_get h with ⟨rfl, _⟩ | ⟨_, h⟩
    · rw [h0] at hp; cases hp
      exact .inr rfl
    · exact (own0 i d h).elim
  · obtain ⟨p, h1, h2, h3⟩ := E'.loc.own 0 _ hfs
    cases h3 with
    | adr w => exact hrt fs G' H' hR E'.step h2 w
end
section
variable {X : Cx} {ex : Exn → Prop} {Γ : En} {R : Bool → D → Prop} {pos p apos : Pos}
def keyD (kvs : List (Key × D)) : List D := kvs.map fun kv => kD kv.1
theorem RepK.keys {K : PySem.W.Frag} {G : Gh} : ∀ {xs : List (Key × D)} {vs : List (Key × V)}, RepK K G xs vs → Reps K G (keyD xs) (vs.map fun kv => kV kv.1)
  | _, _, .nil => .nil
  | _, _, .cons (k := k) _ t => by
    refine .cons ?_ (RepK.keys t)
    cases k with
    | inl i => exact .int
    | inr s => exact .str
/-- list(dict) -/
theorem list_dK {a : Expr} (hm : X.mg "list" = none) (h : ED X ex a Γ fun _ d => ∃ kvs, d = .dK kvs ∧ R true (.lst (keyD kvs))) (hc : X.calm = true := by rfl) (hg : Gl X "list" := by rfl)
    (h1 : starEach (a :: []) X.env = (false, eval a X.env) :: starEach [] X.env := by rfl) (hpl : (backTo pos (starEach [] X.env)).any (·.1) = false := by rfl) : ED X ex (.Call (.Name "list" p) [a] [] pos) Γ R := by
  refine ed_ct (call_list_dK hc) hm (by decide +kernel) hg (ea_cons (h.imp fun _ d hd => ea_nil fun vs G H E r Q k => ?_) h1) (by decide) (by decide) h1 hpl
  obtain ⟨kvs, rfl, hR⟩ := hd
  obtain ⟨v, rfl, rr⟩ := rep1 r
  cases rr with
  | dK hp q => exact ⟨_, _, rfl, E _ _ hp, newL E q.keys hR k⟩
theorem nin_dict {d y : D} {o : Option D} {R : Bool → Prop} (hu : X.A.units + 1 < cLine) (g : GetD d y o) (h : R (!o.isSome)) : CmpR X .NotIn y d R := fun G H x z E r1 r2 pins σ s u w I ru rw' Q k => by
  obtain ⟨a, o', rfl, dg, ro⟩ := g.go E r2 r1
  obtain rfl : w = Value.ref a := rw'
  exact d_notIn hu I dg ru fun s' I' => ⟨.bl (!o.isSome), H, I', by rw [← ro.isSome]; rfl, k _ G H h (.refl E)⟩
theorem len_str {z : Str} (h : z.length ≤ sizeLine) : lenD (.str z) = some z.length := if_pos h
end
end DL

/-! DL20: list(text), list.index. -/
namespace DL
open PySem L2
section
variable {X : Cx} {ex : Exn → Prop} {Γ : En} {R : Bool → D → Prop} {pos p apos : Pos}
theorem call_listT (hc : X.calm = true) : CallR X (.type "list") (fun xs H Q => ∃ z : Str, xs = [.str z] ∧ z.length ≤ sizeLine ∧ ∀ q, H q = none → Q (.ref q) (upd H q (.lst ((DL.signs z).map V.str)))) := by
  intro pins s σ H xs us Q I r h
  obtain ⟨z, rfl, hz, q⟩ := h
  cases r with
  | cons r1 rr =>
    cases rr
    obtain ⟨t, rfl⟩ := r1
    refine PySem.call_list_str (I.ok.hd hc) z t (hn := hz) fun h' tk acc c' hk e' hi => ?_
    have hl : acc.toList.length = z.cps.size := by rw [Array.length_toList]; exact hi.1
    refine ⟨.ref s.heap.objs.size, _, I.laid hk (Nat.le_refl _) (show ObjOk X.prog X.w _ _ _ (.lst ((DL.signs z).map V.str)) from ⟨?_, acc.toList, c', vals_of_at ?_ fun j x u h1 h2 => ?_, ?_⟩), rfl, q _ (I.hok.fresh (Nat.le_refl _))⟩
    · rw [List.length_map, signs_length]; exact hz
    · rw [List.length_map, signs_length, hl]
    · rw [Array.getElem?_toList] at h2
      obtain ⟨c, u', hc', rfl⟩ := hi.2 j u h2
      unfold DL.signs at h1
      rw [List.getElem?_map, List.getElem?_map, Array.getElem?_toList, hc'] at h1
      cases h1
      exact ⟨u', rfl⟩
    · rw [Array.toArray_toList]; exact e'
/-- list(text) -/
theorem listT {a : Expr} (hm : X.mg "list" = none) (h : ED X ex a Γ fun _ d => ∃ z : Str, d = .str z ∧ z.length ≤ sizeLine ∧ R true (.lst ((signs z).map D.str))) (hc : X.calm = true := by rfl) (hg : Gl X "list" := by rfl)
    (h1 : starEach (a :: []) X.env = (false, eval a X.env) :: starEach [] X.env := by rfl) (hpl : (backTo pos (starEach [] X.env)).any (·.1) = false := by rfl) : ED X ex (.Call (.Name "list" p) [a] [] pos) Γ R := by
  refine ed_ct (call_listT hc) hm (by decide +kernel) hg (ea_cons (h.imp fun _ d hd => ea_nil fun vs G H E r Q k => ?_) h1) (by decide) (by decide) h1 hpl
  obtain ⟨z, rfl, hz, hR⟩ := hd
  obtain ⟨v, rfl, rr⟩ := rep1 r
  cases rr
  exact ⟨z, rfl, hz, newL E (Reps.ofStrs _) hR k⟩
/-- xs.index(x) of flat things -/
theorem lindex {o e : Expr} (h : ED X ex o Γ fun _ d => ∃ xs : List D, d = .lst xs ∧ xs.all flat4 = true ∧ ED X ex e Γ fun _ y => flat4 y = true ∧ ∃ (j : Nat) (z : D), xs[j]? = some z ∧ eq4 z y = true ∧ (∀ (m : Nat) (z' : D), m < j → xs[m]? = some z' → eq4 z' y = false) ∧ R false (.int (j : Nat)))
    (hbase : attributeBase o "index" X.env (eval o X.env) = eval o X.env := by rfl)
    (hfew : ((backTo pos (starEach [e] X.env)).all (fun x => !x.1) && (backToKw pos (keywordEach [] X.env)).all (fun x => x.1.isSome)
      && decide (([e] : List Expr).length + ([] : List Keyword).length + (if ([] : List Keyword).isEmpty then 0 else 1) < 30)) = true := by rfl)
    (hline : (apos.endLine == pos.line) = true := by rfl) (hs1 : starEach (e :: []) X.env = (false, eval e X.env) :: starEach [] X.env := by rfl) (hpl : (backTo pos (starEach [] X.env)).any (·.1) = false := by rfl) : ED X ex (.Call (.Attribute o "index" apos) [e] [] pos) Γ R := by
  intro σ G H E W tk xa Q k
  refine tW_of (pe_bm PySem.F.plainAttrs_list PySem.F.slot_list_index PySem.F.type_list_index mt_index (to := tW X o) pe_W (pa_cons (te := tW X e) (t := tWa X []) pe_W pa_W hs1) hbase hfew hline hs1 hpl) ?_
  refine ED.use (R := fun _ d => ∃ xs : List D, d = .lst xs ∧ xs.all flat4 = true ∧ ED X ex e Γ fun _ y => flat4 y = true ∧ ∃ (j : Nat) (z : D), xs[j]? = some z ∧ eq4 z y = true ∧ (∀ (m : Nat) (z' : D), m < j → xs[m]? = some z' → eq4 z' y = false) ∧ R false (.int (j : Nat))) h E tk xa fun d v G1 H1 h1 s1 r1 => ?_
  obtain ⟨xs, rfl, hf, h1⟩ := h1
  cases r1 with
  | lst hp r =>
    refine ⟨ty_list (K := X.K) (s1.ext _ _ hp), ?_⟩
    refine ED.use (R := fun _ y => flat4 y = true ∧ ∃ (j : Nat) (z : D), xs[j]? = some z ∧ eq4 z y = true ∧ (∀ (m : Nat) (z' : D), m < j → xs[m]? = some z' → eq4 z' y = false) ∧ R false (.int (j : Nat))) (h1.imp fun _ _ h => h) (E.go s1) tk (xa.go s1) fun y w G2 H2 h2 s2 r2 => ?_
    obtain ⟨hy, j, z, hj, hz, hno, hR⟩ := h2
    refine (ea_nil (ex := fun _ => False) (R := fun ds => ds = []) rfl) σ G2 H2 ((E.go s1).go s2) (fun _ _ _ _ => False) (.of takes0) (fun _ _ _ _ _ hx => hx.elim) _ fun ds vs G3 H3 e3 s3 r3 => ?_
    subst e3
    cases r3
    have st := (s1.trans s2).trans s3
    have r' := r.mono (s2.trans s3).le
    have r2' := r2.mono s3.le
    obtain ⟨zv, hzv, rz⟩ := r'.get hj
    refine ⟨_, _, w, j, zv, rfl, rfl, SqL.of (st.ext _ _ ((s2.trans s3).le _ _ hp)), r2'.flat4 hy, r'.flat4 hf, hzv, ?_, fun m z' hm hz' => ?_, k _ _ _ G3 H3 hR st .int⟩
    · rw [rz.eq4 r2' (List.all_eq_true.mp hf z (List.mem_of_getElem? hj)) hy]; exact hz
    · obtain ⟨d', hd', rd'⟩ := r'.getv hz'
      rw [rd'.eq4 r2' (List.all_eq_true.mp hf d' (List.mem_of_getElem? hd')) hy]
      exact hno m d' hm hd'
end
end DL

/-! DL21: the length of a set of texts. -/
namespace DL
open PySem PySem.Spec PyProof.Rows
def stepS (σ : List Str) (v : Str) : List Str := if σ.any (· == v) then σ else σ ++ [v]
def metS (xs : List Str) (i : Nat) : List Str := (xs.take i).foldl stepS []
theorem metS_succ {xs : List Str} {i : Nat} (h : i < xs.length) : metS xs (i + 1) = stepS (metS xs i) (xs.getD i Str.empty) := by
  unfold metS
  rw [List.take_add_one, List.foldl_append, List.getD_eq_getElem?_getD, List.getElem?_eq_getElem h]
  rfl
theorem metS_le (xs : List Str) : ∀ i, (metS xs i).length ≤ i := by
  intro i
  have key : ∀ (l acc : List Str), (l.foldl stepS acc).length ≤ acc.length + l.length := by
    intro l
    induction l with
    | nil => intro acc; exact Nat.le_refl _
    | cons a r ih =>
      intro acc
      have h1 := ih (stepS acc a)
      have h2 : (stepS acc a).length ≤ acc.length + 1 := by
        unfold stepS; split
        · omega
        · rw [List.length_append]; exact Nat.le_refl _
      rw [List.foldl_cons, List.length_cons]; omega
  have := key (xs.take i) []
  rw [List.length_take] at this
  have e0 : ([] : List Str).length = 0 := rfl
  unfold metS
  omega
theorem stepS_any (σ : List Str) (v k : Str) : (stepS σ v).any (· == k) = (σ.any (· == k) || decide (k = v)) := by
  unfold stepS
  by_cases h : σ.any (· == v) = true
  · rw [if_pos h]
    by_cases e : k = v
    · subst e; rw [h]; simp
    · simp [e]
  · rw [if_neg h, List.any_append]
    by_cases e : k = v
    · subst e; simp
    · have hb : (v == k) = false := by simpa [beq_iff_eq] using (fun h' : v = k => e h'.symm)
      simp [hb, e]
theorem stepS_length (σ : List Str) (v : Str) : (stepS σ v).length = if σ.any (· == v) then σ.length else σ.length + 1 := by
  unfold stepS; split <;> simp
section
variable {prog : Program} {w : World} {A : Around} {R : Result → Shared → Prop} {I : Addr} {fp wr : List Addr} {G : Array GenState → Array GenState → Prop} {n : Nat} {P : Nat → Value → Prop} {St : Nat → Shared → Prop}
theorem loopSs (W : WalksS prog w A.in1 I fp wr G n P St) (S : Addr) (hSf : S ∉ fp) (xs : List Str) (hsz : xs.length = n) (hb : n + 1 < scanBound)
    (hval : ∀ i v, P i v → ∃ t, v = .str (xs.getD i Str.empty) t) :
    ∀ (k i : Nat) (s : Shared), n - i = k → i ≤ n → St i s →
      s.heap.SetOf (PySem.strKind prog w) S (fun k' => (metS xs i).any (· == k')) (metS xs i).length →
      (∀ s', Moved (S :: wr) G s s' → s'.heap.SetOf (PySem.strKind prog w) S (fun k' => (metS xs n).any (· == k')) (metS xs n).length → R (.ok (.ret .none)) s') →
      codeAny (model prog w) A (.builtin "set.update.loop" ⟨[.ref S, .ref I], []⟩) R s := by
  have hSw : S ∉ wr := fun h => hSf (W.sub _ h)
  have hsub : ∀ b ∈ wr, b ∈ S :: wr := fun b hb => List.mem_cons_of_mem _ hb
  intro k
  induction k with
  | zero =>
    intro i s hk hi hst hS hR
    have hin : i = n := by omega
    subst hin
    refine codeAny_builtin PyProof.Rows.F.entry_set_update_loop ?_
    rw [Around.under_plainId PyProof.Rows.F.plain_set_update_loop _]
    show wpAny _ A.in1 (pyNext (.ref I) >>= _) _ _ s
    refine wpAny_bind (W.done s _ _ hst fun s' hm => ?_)
    show wpAny _ A.in1 (ret Value.none) _ _ s'
    exact wpAny_pure (hR s' (hm.mono hsub) (by
      obtain ⟨o, es, ep, t, ho, rest⟩ := hS
      exact ⟨o, es, ep, t, hm.heap S _ hSw ho, rest⟩))
  | succ k ih =>
    intro i s hk hi hst hS hR
    have hlt : i < n := by omega
    refine codeAny_builtin PyProof.Rows.F.entry_set_update_loop ?_
    rw [Around.under_plainId PyProof.Rows.F.plain_set_update_loop _]
    show wpAny _ A.in1 (pyNext (.ref I) >>= _) _ _ s
    refine wpAny_bind (W.item i s _ _ hlt hst fun v s' hP hst' hm => ?_)
    obtain ⟨t, rfl⟩ := hval i v hP
    have hS' : s'.heap.SetOf (PySem.strKind prog w) S (fun k' => (metS xs i).any (· == k')) (metS xs i).length := by
      obtain ⟨o, es, ep, tb, ho, rest⟩ := hS
      exact ⟨o, es, ep, tb, hm.heap S _ hSw ho, rest⟩
    show wpAny _ A.in1 (holding [Value.str (xs.getD i Str.empty) t] (setAdd S (.str (xs.getD i Str.empty) t)) >>= _) _ _ s'
    refine wpAny_bind (wpAny_holding ?_)
    unfold setAdd
    refine wpAny_holding ?_
    refine wpAny_bind ((PySem.strKind prog w).pyHash (k := xs.getD i Str.empty) (strKind_is _ _ _ _) ?_)
    have hroom : (metS xs i).length + 1 < scanBound := by have := metS_le xs i; omega
    refine wpAny_setAddHashed_of (knd := PySem.strKind prog w) (s := { s' with toks := s'.toks + 1 }) (strKind_is _ _ _ _) rfl hS' hroom fun h' hsb hS2 => ?_
    have hSi : h'.SetOf (PySem.strKind prog w) S (fun k' => (metS xs (i + 1)).any (· == k')) (metS xs (i + 1)).length :=
      SetOf_congr hS2 (fun k' => by rw [metS_succ (by omega), stepS_any]) (by rw [metS_succ (by omega), stepS_length])
    refine wpAny_pure ⟨plainId_quiet PyProof.Rows.F.plain_set_update_loop _, ih (i + 1) _ (by omega) hlt (W.frame _ s' _ _ hst' (Nat.le_succ _) fun b hb o e => ?_) hSi fun s'' hm'' hS'' => ?_⟩
    · rw [hsb.2 b (fun h : b = S => hSf (by rw [← h]; exact hb))]; exact e
    · refine hR s'' (Moved.trans W.gtrans ((hm.mono hsub).then_heap (Nat.le_succ _) fun b o hb e => ?_) hm'') hS''
      rw [hsb.2 b (fun h : b = S => hb (by rw [h]; exact List.mem_cons_self))]; exact e
end
section
variable {prog : Program} {w : World} {A : Around} {E : Value → Shared → Prop} {s : Shared}
theorem call_set_listSs {l : Addr} {items : Array Value} {xs : List Str} {Q : Value → Shared → Prop}
    (hh : A.handled = none) (hl : s.heap.IsList l items) (hi : PyProof.Rows.StrsAre items.toList xs) (hb : xs.length + 1 < scanBound)
    (h : ∀ (h' : Heap) (tk : Nat), h'.SetOf (PySem.strKind prog w) s.heap.objs.size (fun k' => (metS xs items.size).any (· == k')) (metS xs items.size).length →
      (∀ b o, b < s.heap.objs.size → s.heap.get? b = some o → h'.get? b = some o) → Q (.ref s.heap.objs.size) { s with heap := h', toks := tk }) :
    wpAny (model prog w) A (call (.type "set") [.ref l]) Q E s := by
  obtain ⟨c, tl, hmro⟩ := PySem.F.called_set.mro
  have hmade := PySem.F.called_set.made
  have hsub := PySem.F.called_set.sub
  refine wpAny_call (codeAny_of_tree ?_)
  show wpAny _ _ (callAny (.type "set") _) _ _ _
  refine wpAny_pure ⟨Code.quiet_builtin _ (by decide +kernel), codeAny_builtin PySem.F.entry_type_call ?_⟩
  rw [Around.under_plain (weight_type_call_type "set" [.ref l] []) rfl]
  have h1 := PySem.F.called_set.notType
  have h2 := PySem.F.called_set.canCreate
  have hct := PySem.F.typeCall_set_1 (.ref l)
  repeat (any_goals (first | assumption | wp_step))
  refine codeAny_mono (code_set_new_1 (.ref l) (E := E) (Q₁ := fun obj s₁ => ∃ led : Bool, obj = .ref s.heap.objs.size ∧ s₁ = { s with heap := s.heap.push { cls := .type "set", dict := none, data := .set #[] 0 (.fresh 0 0 led) } }) fun led => ⟨led, rfl, rfl⟩) fun r s₁ hr => ?_
  cases r with
  | error e => exact hr
  | ok fl =>
    cases fl with
    | ret obj =>
      obtain ⟨led, rfl, rfl⟩ := hr
      have hS : (s.heap.push { cls := .type "set", dict := none, data := .set #[] 0 (.fresh 0 0 led) }).get? s.heap.objs.size = some { cls := .type "set", dict := none, data := .set #[] 0 (.fresh 0 0 led) } := Heap.get?_push_size _ rfl
      have hT : Shared.TypeIs { s with heap := s.heap.push { cls := .type "set", dict := none, data := .set #[] 0 (.fresh 0 0 led) } } (.ref s.heap.objs.size) "set" := ⟨_, hS, rfl⟩
      have hli := PySem.F.called_set.init.lookup
      have hbi := PySem.F.called_set.init.bind (.ref s.heap.objs.size)
      repeat (any_goals (first | assumption | wp_step))
      refine codeAny_mono (codeAny_call_builtin (R := wants (fun r s₂ => r = .none ∧ ∃ h' tk, s₂ = { s with heap := h', toks := tk } ∧
          h'.SetOf (PySem.strKind prog w) s.heap.objs.size (fun k' => (metS xs items.size).any (· == k')) (metS xs items.size).length ∧
          (∀ b o, b < s.heap.objs.size → s.heap.get? b = some o → h'.get? b = some o)) E) PySem.F.called_set.init.plain PySem.F.entry_set_init (check_set_init_1 hT ?_)) fun r₂ s₂ hr₂ => ?_
      · obtain ⟨ol, hol, hcl, nl, hdl⟩ := hl
        obtain ⟨ocls, odict, odata, oslots⟩ := ol
        simp only at hcl hdl
        subst hcl; subst hdl
        have hol' : (s.heap.push { cls := .type "set", dict := none, data := .set #[] 0 (.fresh 0 0 led) }).get? l = some { cls := .type "list", dict := odict, data := .seq items nl, slots := oslots } := Heap.get?_push_of_some _ hol
        have hsls := PySem.F.sub_list_set
        have hslf := PySem.F.sub_list_frozenset
        have hne : (Value.type "list" == Value.type "dict") = false := by decide
        have hl1 : (s.heap.push { cls := .type "set", dict := none, data := .set #[] 0 (.fresh 0 0 led) }).IsList l items := ⟨_, hol', rfl, nl, rfl⟩
        unfold Builtin.«set.__init__» noKeywords Builtin.Frozenset.updateFrom
        generalize hPI : pyIter = PI
        wp_walk
        subst hPI
        refine wpAny_pyIter_list hl1 ?_
        refine wpAny_bind (wpAny_runValue ?_)
        have hlS : l < s.heap.objs.size := Heap.lt_size hol
        have hh3 : A.in1.in1.in1.handled = none := by simp [hh]
        have hneI : l ≠ (s.heap.push { cls := .type "set", dict := none, data := .set #[] 0 (.fresh 0 0 led) }).objs.size := by
          rw [Heap.size_push]; exact Nat.ne_of_lt (Nat.lt_succ_of_lt hlS)
        have hSf : s.heap.objs.size ∉ [(s.heap.push { cls := .type "set", dict := none, data := .set #[] 0 (.fresh 0 0 led) }).objs.size, l] := by
          rw [Heap.size_push]; simp only [List.mem_cons, List.mem_singleton, List.not_mem_nil, or_false, not_or]
          exact ⟨Nat.ne_of_lt (Nat.lt_succ_self _), Nat.ne_of_gt hlS⟩
        have hsz : xs.length = items.size := by rw [← StrsAre.len_eq hi, Array.length_toList]
        have hval : ∀ (i : Nat) (v : Value), items[i]? = some v → ∃ t, v = .str (xs.getD i Str.empty) t := fun i v hv => SS.strs_at hi i v (by rw [Array.getElem?_toList]; exact hv)
        refine loopSs ((Walks.list hh3 _ l hneI items).toS) s.heap.objs.size
          hSf xs hsz (by rw [← hsz]; exact hb) hval (items.size - 0) 0 _ (by omega) (Nat.zero_le _)
          ⟨⟨_, Heap.get?_push_size _ rfl, rfl, rfl⟩, (hl1.push _)⟩ ?hS0 ?hR
        case hS0 =>
          have hget : ((s.heap.push { cls := .type "set", dict := none, data := .set #[] 0 (.fresh 0 0 led) }).push { cls := .type "list_iterator", data := .fields #[.ref l, .int 0 0] }).get? s.heap.objs.size
              = some { cls := .type "set", dict := none, data := .set #[] 0 (.fresh 0 0 led) } := Heap.get?_push_of_some _ hS
          exact PyProof.Rows.SetOf_congr ((PyProof.Rows.setObjOf_fresh (knd := PySem.strKind prog w) led).setOf hget (by unfold scanBound; omega)) (fun _ => by unfold metS; rw [List.take_zero]; rfl) (by unfold metS; rw [List.take_zero]; rfl)
        case hR =>
          intro s' hm hS'
          obtain ⟨h', g', d', tk', os'⟩ := s'
          have eg : g' = s.gens := hm.gens
          have ed : d' = s.drawn := hm.drawn
          have eo : os' = s.os := hm.os
          subst eg; subst ed; subst eo
          show wpAny _ _ _ _ _ _
          refine wpAny_pure ?_
          show wpAny _ _ (ret Value.none) _ _ _
          refine wpAny_pure ⟨rfl, h', tk', rfl, hS', fun b o hb e => ?_⟩
          have hb1 : b ≠ s.heap.objs.size := Nat.ne_of_lt hb
          have hb2 : b ≠ (s.heap.push { cls := .type "set", dict := none, data := .set #[] 0 (.fresh 0 0 led) }).objs.size := by
            rw [Heap.size_push]; exact Nat.ne_of_lt (Nat.lt_succ_of_lt hb)
          exact hm.heap b o (by simp only [List.mem_cons, List.mem_singleton, List.not_mem_nil, or_false, not_or]; exact ⟨hb1, hb2⟩) (Heap.get?_push_of_some _ (Heap.get?_push_of_some _ e))
      · cases r₂ with
        | error e => exact hr₂
        | ok fl₂ =>
          cases fl₂ with
          | ret r =>
            obtain ⟨rfl, h', tk, rfl, hS', hk'⟩ := hr₂
            repeat (any_goals (first | assumption | wp_step))
            exact h _ _ hS' hk'
          | _ => exact hr₂.elim
    | _ => exact hr.elim
end
/-! ### the rule -/
open L2
section
variable {X : Cx} {ex : Exn → Prop} {Γ : En} {R : Bool → D → Prop} {p p2 pos2 pos : Pos}
theorem strsOf : ∀ {xs : List Str} {us : List Value}, Vals (xs.map V.str) us → StrsAre us xs
  | [], _, .nil => .nil
  | y :: _, _, .cons r t => by
    obtain ⟨k, rfl⟩ := r
    exact .cons y k (strsOf t)
def tLenSs (K : PySem.W.Frag) (ta : TE) : TE := fun σ H Q => ta σ H fun x H1 => ∃ (l : Addr) (xs : List Str), x = .ref l ∧ SqL K H1 l (xs.map V.str) ∧ xs.length + 1 < scanBound ∧ Q (.int (metS xs xs.length).length) H1
theorem pe_lenSs {a : Expr} {ta : TE} {q : Pos} (hc : X.calm = true) (hg : Gl X "len") (hm : X.mg "len" = none) (hg2 : Gl X "set") (hm2 : X.mg "set" = none) (ha : PE X a ta)
    (na : starEach [a] X.env = (false, eval a X.env) :: starEach [] X.env := by rfl) : PE X (.Call (.Name "len" p) [.Call (.Name "set" p2) [a] [] q] [] pos) (tLenSs X.K ta) := by
  refine ⟨fun pins s σ H Q I h => ?_⟩
  refine Call_ (ld_blt I hg hm boot_len ?_)
  refine PyProof.Rows.callWith_builtin1 (PyProof.Rows.args_cons ?_ rfl) rfl rfl
  refine Call_ (ld_blt I hg2 hm2 boot_set ?_)
  refine PyProof.Rows.callWith_type1 (PyProof.Rows.args_cons (thn (ha.run pins s σ H _ I h) fun v s1 ⟨x, H1, I1, r1, q1⟩ => PyProof.Rows.args_nil ?_) na) na rfl
  obtain ⟨l, xs, rfl, hq, h1, q1⟩ := q1
  cases r1
  obtain ⟨its, r, pl, hz⟩ := I1.list hq
  refine call_set_listSs (I1.ok.hd hc) pl.isList (by simpa using strsOf r) h1 fun h' tk hS hk => ?_
  refine PyProof.Rows.args_nil ?_
  have hl : its.toArray.size = xs.length := by rw [List.size_toArray, ← r.length, List.length_map]
  rw [hl] at hS
  have hb : scanBound < 2 ^ 62 := by unfold scanBound; omega
  have hle := metS_le xs xs.length
  obtain ⟨o, es, ep, t, ho, hex, hd, _, _, _, hf, hn⟩ := hS
  have I2 : Inv X pins σ H1 { s1 with heap := h', toks := tk } := I1.kept fun b o e => hk b o (Heap.lt_size e) e
  exact call_len_set ho hex hd hf (by rw [hn]; omega) ⟨.int (metS xs xs.length).length, H1, I2.tok _, ⟨_, by rw [hn]⟩, q1⟩
/-- len(set(a)), a a list of texts -/
theorem ed_lenSet {a : Expr} (hm : X.mg "len" = none) (hm2 : X.mg "set" = none) (h : ED X ex a Γ fun _ d => ∃ xs : List Str, d = .lst (xs.map D.str) ∧ xs.length + 1 < scanBound ∧ R false (.int (metS xs xs.length).length))
    (hc : X.calm = true := by rfl) (hg : Gl X "len" := by rfl) (hg2 : Gl X "set" := by rfl) (na : starEach [a] X.env = (false, eval a X.env) :: starEach [] X.env := by rfl) : ED X ex (.Call (.Name "len" p) [.Call (.Name "set" p2) [a] [] pos2] [] pos) Γ R := by
  intro σ G H E W tk xa Q k
  refine tW_of (pe_lenSs hc hg hm hg2 hm2 (pe_W (e := a)) na) ?_
  refine ED.use (R := fun _ d => ∃ xs : List Str, d = .lst (xs.map D.str) ∧ xs.length + 1 < scanBound ∧ R false (.int (metS xs xs.length).length)) h E tk xa fun d v G1 H1 h1 s1 r1 => ?_
  obtain ⟨xs, rfl, hb, hR⟩ := h1
  cases r1 with
  | lst hp r =>
    rw [r.strs] at hp
    exact ⟨_, xs, rfl, SqL.of (s1.ext _ _ hp), hb, k _ _ _ G1 H1 hR s1 .int⟩
end
end DL

/-! DL22: own things read by what gives flat tuples; xs[::-1]; small rules. -/
namespace DL
open PySem L2
/-! flat data and tuples of such -/
mutual
def flatT : D → Bool
  | .tup xs => flatTs xs
  | d => flat d
def flatTs : List D → Bool
  | [] => true
  | x :: xs => flatT x && flatTs xs
end
section
variable {K : PySem.W.Frag} {G : Gh} {H : Hp} {σ : St} {Γ : En}
open Classical in
/-- what is known without the own things -/
noncomputable def gless (σ : St) (Γ : En) (G1 : Gh) : Gh := fun a => if OwnS σ Γ a then none else G1 a
theorem OwnAt.nott {fvs : List V} : ∀ {p : Addr} {d : D}, OwnAt K G H p d → H p = some (.tup fvs) → False
  | _, _, .lst h _, e => by rw [h] at e; cases e
  | _, _, .dK h _, e => by rw [h] at e; cases e
  | _, _, .dT h _, e => by rw [h] at e; cases e
  | _, _, .ins h _, e => by rw [h] at e; cases e
  | _, _, .dN h _, e => by rw [h] at e; unfold dnO at e; cases e
  | _, _, .adr h, e => OwnAt.nott h e
theorem Loc.less (E : Loc K G H σ Γ) {G1 : Gh} {H1 : Hp} (s : Step0 (gall G H σ Γ) H G1 H1) : Step0 G H (gless σ Γ G1) H1 where
  le := fun a g h => by
    unfold gless
    rw [if_neg fun z => by rw [E.gnone z] at h; cases h]
    exact s.le a g (E.le_gall a g h)
  kept := fun a o h n _ => (E.thaw s).kept a o h n id
  new := fun a g h n => by
    unfold gless at h
    by_cases z : OwnS σ Γ a
    · rw [if_pos z] at h; cases h
    · rw [if_neg z] at h
      exact s.new a g h (by unfold gall; rw [if_neg z]; exact n)
  ext := fun a g h => by
    unfold gless at h
    by_cases z : OwnS σ Γ a
    · rw [if_pos z] at h; cases h
    · rw [if_neg z] at h; exact s.ext a g h
  live := s.live
/-- no own thing is a tuple -/
theorem Loc.notup (E : Loc K G H σ Γ) {G1 : Gh} {H1 : Hp} (s : Step0 (gall G H σ Γ) H G1 H1) {p : Addr} {vs : List V} (h : G1 p = some (.ho (.tup vs))) : gless σ Γ G1 p = some (.ho (.tup vs)) := by
  unfold gless
  rw [if_neg]
  · exact h
  · intro z
    obtain ⟨i, d, h1, h2⟩ := id z
    obtain ⟨q, q1, q2, q3⟩ := E.own i d h1
    rw [h2] at q1; cases q1
    obtain ⟨o, ho⟩ := q3.there
    have e : gall G H σ Γ p = some (.ho o) := by rw [gall_at z, ho]; rfl
    have := s.le p _ e
    rw [h] at this
    cases this
    exact q3.nott ho
mutual
theorem Rep.less (E : Loc K G H σ Γ) {G1 : Gh} {H1 : Hp} (s : Step0 (gall G H σ Γ) H G1 H1) : ∀ {d : D} {v : V}, Rep K G1 d v → flatT d = true → Rep K (gless σ Γ G1) d v
  | _, _, .non, _ => .non
  | _, _, .bl, _ => .bl
  | _, _, .int, _ => .int
  | _, _, .str, _ => .str
  | _, _, .ty, _ => .ty
  | _, _, .ref, _ => .ref
  | _, _, .tup h r, f => .tup (E.notup s h) (Reps.less E s r (by unfold flatT at f; exact f))
  | _, _, .lst _ _, f => by unfold flatT at f; cases f
  | _, _, .dK _ _, f => by unfold flatT at f; cases f
  | _, _, .dT _ _, f => by unfold flatT at f; cases f
  | _, _, .ins _ _, f => by unfold flatT at f; cases f
  | _, _, .memo _, f => by unfold flatT at f; cases f
  | _, _, .dN _ _ _, f => by unfold flatT at f; cases f
  | _, _, .scr _, f => by unfold flatT at f; cases f
  | _, _, .exn _ _, f => by unfold flatT at f; cases f
  | _, _, .adr _, f => by unfold flatT at f; cases f
theorem Reps.less (E : Loc K G H σ Γ) {G1 : Gh} {H1 : Hp} (s : Step0 (gall G H σ Γ) H G1 H1) : ∀ {d : List D} {v : List V}, Reps K G1 d v → flatTs d = true → Reps K (gless σ Γ G1) d v
  | _, _, .nil, _ => .nil
  | _, _, .cons h r, f => by
    unfold flatTs at f
    rw [Bool.and_eq_true] at f
    exact .cons (Rep.less E s h f.1) (Reps.less E s r f.2)
end
end
section
variable {X : Cx} {ex : Exn → Prop} {e : Expr} {Γ : En} {pos p : Pos} {R : Bool → D → Prop}
/-- the result: flat, or tuples of such; own things may be read -/
theorem ed_flatT (h : ED X ex e (frz Γ) fun _ d => flatT d = true ∧ R false d) : ED X ex e Γ R := by
  intro σ G H E W tk xa Q k
  refine h σ _ H E.all W tk (xa.all E) Q fun o d v G' H' hR s r => ?_
  obtain ⟨G2, s2, r2, _⟩ := r.known s
  exact k false d v _ H' hR.2 (E.less s2) (r2.less E s2 hR.1)
/-- a new list of such -/
theorem ed_flatTL (h : ED X ex e (frz Γ) fun o d => o = true ∧ ∃ xs, d = .lst xs ∧ flatTs xs = true ∧ R true d) : ED X ex e Γ R := by
  intro σ G H E W tk xa Q k
  refine h σ _ H E.all W tk (xa.all E) Q fun o d v G' H' hR s r => ?_
  obtain ⟨rfl, xs, rfl, hf, hR⟩ := hR
  obtain ⟨p, rfl, hn, n, w⟩ := r
  refine k true (.lst xs) _ _ H' hR (E.less s) ⟨p, rfl, hn, ?_, ?_⟩
  · unfold gless
    split
    · rfl
    · exact n
  · cases w with
    | lst h r => exact .lst h (r.less E s hf)
/-- xs[::-1] -/
theorem ed_revL {k : Nat} {p1 p2 p3 : Pos} (h : ED X ex e Γ fun _ d => ∃ xs, d = .lst xs ∧ R true (.lst xs.reverse)) : ED X ex (.Subscript e (.Slice none none (some (.UnaryOp .USub (.Constant (.int 1) k p1) p2)) p3) pos) Γ R := by
  intro σ G H E W tk xa Q k'
  refine tW_of (pe_revL (te := tW X e) pe_W) ?_
  refine ED.use (R := fun _ d => ∃ xs, d = .lst xs ∧ R true (.lst xs.reverse)) (h.imp fun _ _ h => h) E tk xa fun d v G1 H1 h1 s1 r1 => ?_
  obtain ⟨xs, rfl, hR⟩ := h1
  cases r1 with
  | lst hp r =>
    refine ⟨_, _, rfl, SqL.of (s1.ext _ _ hp), newL s1.ext r.reverse hR fun o d v G' H' hR s r => k' o d v G' H' hR (s1.trans s) (r.back s1)⟩
/-- a sign, written, in a text -/
theorem in_sc {i z : Str} {c : Nat} {R : Bool → Prop} (hi : i = ⟨#[c]⟩) (h : R (decide (c ∈ z.cps.toList))) : CmpR X .In (.str i) (.str z) R := by subst hi; exact in_ss h
theorem nin_sc {i z : Str} {c : Nat} {R : Bool → Prop} (hi : i = ⟨#[c]⟩) (h : R (!decide (c ∈ z.cps.toList))) : CmpR X .NotIn (.str i) (.str z) R := by subst hi; exact nin_ss h
theorem atI_last {α : Type} {xs : List α} (h : xs ≠ []) : ∃ x, x ∈ xs ∧ L2.atI xs (-1) = some x := by
  have hl : 0 < xs.length := List.length_pos_iff.mpr h
  have e : ixN xs.length (-1) = some (xs.length - 1) := by
    unfold ixN
    rw [if_neg (by decide), if_pos (by omega)]
    congr 1; omega
  have hlt : xs.length - 1 < xs.length := by omega
  refine ⟨xs[xs.length - 1], List.getElem_mem hlt, ?_⟩
  unfold L2.atI
  rw [e]
  show xs[xs.length - 1]? = _
  rw [List.getElem?_eq_getElem hlt]
theorem atI_mem {α : Type} {xs : List α} {i : Int} {x : α} (h : L2.atI xs i = some x) : x ∈ xs := by
  unfold L2.atI at h
  obtain ⟨j, _, e⟩ := Option.bind_eq_some_iff.mp h
  exact List.mem_of_getElem? e
theorem eqD_refl {d : D} (h : eqOk d = true) : eqD d d = true := by
  unfold eqOk at h
  rw [Bool.and_eq_true] at h
  have h2 := h.2
  unfold SeqAt.shaped at h2
  rw [Bool.and_eq_true] at h2
  unfold eqD
  exact PySem.SeqAt.eqv_refl _ h2.1
/-! ### the number of unlike texts -/
theorem fold_stepS : ∀ (l acc : List Str), (l.foldl stepS acc).length ≤ acc.length + l.length ∧ ((l.foldl stepS acc).length = acc.length + l.length ↔ l.Nodup ∧ ∀ x ∈ l, x ∉ acc)
  | [], acc => by simp
  | a :: r, acc => by
    rw [List.foldl_cons, List.length_cons]
    obtain ⟨h1, h2⟩ := fold_stepS r (stepS acc a)
    by_cases m : a ∈ acc
    · have hs : stepS acc a = acc := by unfold stepS; rw [if_pos (by simpa using m)]
      rw [hs] at h1 h2 ⊢
      exact ⟨by omega, fun h => by omega, fun h => absurd m (h.2 a List.mem_cons_self)⟩
    · have hs : stepS acc a = acc ++ [a] := by unfold stepS; rw [if_neg (by simpa using m)]
      rw [hs] at h1 h2 ⊢
      rw [List.length_append, List.length_cons, List.length_nil] at h1 h2
      refine ⟨by omega, fun h => ?_, fun h => ?_⟩
      · obtain ⟨n1, n2⟩ := h2.mp (by omega)
        refine ⟨List.nodup_cons.mpr ⟨fun hm => n2 a hm (by simp), n1⟩, fun x hx => ?_⟩
        rcases List.mem_cons.mp hx with e | e
        · rw [e]; exact m
        · exact fun z => n2 x e (List.mem_append_left _ z)
      · obtain ⟨n1, n2⟩ := h
        obtain ⟨n3, n4⟩ := List.nodup_cons.mp n1
        have := h2.mpr ⟨n4, fun x hx z => by
          rcases List.mem_append.mp z with e | e
          · exact n2 x (List.mem_cons_of_mem _ hx) e
          · rw [List.mem_singleton.mp e] at hx; exact n3 hx⟩
        omega
theorem metS_all (xs : List Str) : (metS xs xs.length).length = xs.length ↔ xs.Nodup := by
  have := (fold_stepS xs []).2
  unfold metS
  rw [List.take_length]
  have e0 : ([] : List Str).length + xs.length = xs.length := by rw [List.length_nil, Nat.zero_add]
  rw [e0] at this
  rw [this]
  exact ⟨fun h => h.1, fun h => ⟨h, fun _ _ => List.not_mem_nil⟩⟩
end

/-! ### shapes that == serves -/
def okN (n : Nat) (d : D) : Prop := isPy d = true ∧ (toPy d).canLay0 = true ∧ (toPy d).depth ≤ n
theorem okN.eq {n : Nat} {d : D} (h : okN n d) (hn : n ≤ 64) : eqOk d = true := by
  unfold eqOk SeqAt.shaped
  rw [h.1, h.2.1, decide_eq_true (Nat.le_trans h.2.2 hn)]; rfl
theorem okN.non (n : Nat) : okN n .non := ⟨by simp [isPy], by simp [toPy, PyData.canLay0], by simp [toPy, PyData.depth]⟩
theorem okN.int (n : Nat) (i : Int) : okN n (.int i) := ⟨by simp [isPy], by simp [toPy, PyData.canLay0], by simp [toPy, PyData.depth]⟩
theorem okN.bl (n : Nat) (i : Bool) : okN n (.bl i) := ⟨by simp [isPy], by simp [toPy, PyData.canLay0], by simp [toPy, PyData.depth]⟩
theorem okN.str (n : Nat) {z : Str} (h : PyData.strOk z = true) : okN n (.str z) := ⟨by simp [isPy], by simp only [toPy, PyData.canLay0]; exact h, by simp [toPy, PyData.depth]⟩
theorem okN.all {n : Nat} : ∀ {xs : List D}, (∀ x ∈ xs, okN n x) → isPys xs = true ∧ PyData.canLayAll0 (toPys xs) = true ∧ PyData.depthAll (toPys xs) ≤ n
  | [], _ => ⟨by simp [isPys], by simp [toPys, PyData.canLayAll0], by simp [toPys, PyData.depthAll]⟩
  | x :: xs, h => by
    obtain ⟨a, b, c⟩ := h x List.mem_cons_self
    obtain ⟨a', b', c'⟩ := okN.all fun y hy => h y (List.mem_cons_of_mem _ hy)
    refine ⟨?_, ?_, ?_⟩
    · unfold isPys; rw [a, a']; rfl
    · unfold toPys PyData.canLayAll0; rw [b, b']; rfl
    · unfold toPys PyData.depthAll; exact Nat.max_le.mpr ⟨c, c'⟩
theorem okN.tup {n : Nat} {xs : List D} (h : ∀ x ∈ xs, okN n x) : okN (n + 1) (.tup xs) := by
  obtain ⟨a, b, c⟩ := okN.all h
  exact ⟨by simp only [isPy]; exact a, by simp only [toPy, PyData.canLay0]; exact b, by simp only [toPy, PyData.depth]; exact Nat.succ_le_succ c⟩
theorem okN.lst {n : Nat} {xs : List D} (h : ∀ x ∈ xs, okN n x) : okN (n + 1) (.lst xs) := by
  obtain ⟨a, b, c⟩ := okN.all h
  exact ⟨by simp only [isPy]; exact a, by simp only [toPy, PyData.canLay0]; exact b, by simp only [toPy, PyData.depth]; exact Nat.succ_le_succ c⟩
theorem okN.more {n m : Nat} {d : D} (h : okN n d) (hn : n ≤ m) : okN m d := ⟨h.1, h.2.1, Nat.le_trans h.2.2 hn⟩
theorem Emb.okN {α : Type} {f : α → D} {n : Nat} {P : α → Prop} (E : Emb f n P) {a : α} (h : P a) : DL.okN n (f a) := ⟨E.py a, E.lay a h, E.dep a⟩
/-- range(0, m, 2) -/
theorem rg_two {m : Int} (h0 : 0 ≤ m) (h1 : m < 2 ^ 62) : RgC 0 m 2 ((m + 1) / 2).toNat := by
  have e : Builtin.Range.rangeSize 0 m 2 = (((m + 1) / 2).toNat : Nat) := by
    unfold Builtin.Range.rangeSize
    rw [if_pos (by decide)]
    split <;> omega
  refine ⟨by decide, by decide, ?_, e⟩
  unfold Builtin.Range.small
  rw [e]
  simp only [Builtin.Range.rangeFitsLong, Bool.and_eq_true, Bool.or_eq_true, decide_eq_true_eq, beq_iff_eq, show (2 : Int) > 0 by decide, if_true]
  omega
/-- the slots told anew -/
theorem wd_n {X : Cx} {ex : EX} {Γ Γ' : En} {P : Po} {st : List Stmt} (e : Γ = Γ') (h : WD X ex st Γ' P) : WD X ex st Γ P := e ▸ h
end DL

/-! DL23: tuple(list); is of truths; text times a number. -/
namespace DL
open PySem L2
section
variable {X : Cx} {ex : Exn → Prop} {e : Expr} {Γ : En} {pos p : Pos} {R : Bool → D → Prop}
/-- tuple(list) -/
theorem tuple_ {a : Expr} (hm : X.mg "tuple" = none) (h : ED X ex a Γ fun _ d => ∃ xs, d = .lst xs ∧ R false (.tup xs)) (hg : Gl X "tuple" := by rfl)
    (h1 : starEach (a :: []) X.env = (false, eval a X.env) :: starEach [] X.env := by rfl) (hpl : (backTo pos (starEach [] X.env)).any (·.1) = false := by rfl) : ED X ex (.Call (.Name "tuple" p) [a] [] pos) Γ R := by
  refine ed_ct call_tuple_of hm (by decide +kernel) hg (ea_cons (h.imp fun _ d hd => ea_nil fun vs G H E r Q k => ?_) h1) (by decide) (by decide) h1 hpl
  obtain ⟨xs, rfl, hR⟩ := hd
  obtain ⟨v, rfl, rr⟩ := rep1 r
  cases rr with
  | lst hp q => exact ⟨_, _, rfl, .inl ⟨SqL.of (E _ _ hp), newT E q hR k⟩⟩
theorem is_bb {i j : Bool} {R : Bool → Prop} (h : R (decide (i = j))) : CmpR X .Is (.bl i) (.bl j) R := .of op_isBl fun G H x y E r1 r2 Q k => by
  cases r1; cases r2
  exact ⟨i, j, rfl, rfl, k _ G H h (.refl E)⟩
theorem isnot_bb {i j : Bool} {R : Bool → Prop} (h : R (!decide (i = j))) : CmpR X .IsNot (.bl i) (.bl j) R := .of op_notBl fun G H x y E r1 r2 Q k => by
  cases r1; cases r2
  exact ⟨i, j, rfl, rfl, k _ G H h (.refl E)⟩
theorem mulOk_small {x : Str} {n : Int} (h0 : 0 ≤ n) (h1 : n ≤ 1000) (h : x.length ≤ 1000) : MulOk x n := by
  refine ⟨?_, fun _ _ => ?_, fun _ _ => ?_⟩
  · rw [decide_eq_false (by omega), decide_eq_false (by omega)]; rfl
  · intro hh
    by_cases hn : n = 0
    · subst hn; omega
    · have : (1000 : Int) ≤ (2 ^ 63 - 1) / n := by
        have h2 : (1000 : Int) ≤ (2 ^ 63 - 1) / 1000 := by decide
        have h3 : ((2 : Int) ^ 63 - 1) / 1000 ≤ (2 ^ 63 - 1) / n := by
          have hp : 0 < n := by omega
          rw [Int.le_ediv_iff_mul_le hp]
          have := Int.ediv_mul_le ((2 : Int) ^ 63 - 1) (show (1000 : Int) ≠ 0 by decide)
          have : ((2 : Int) ^ 63 - 1) / 1000 * n ≤ (2 ^ 63 - 1) / 1000 * 1000 := Int.mul_le_mul_of_nonneg_left h1 (by decide)
          omega
        omega
      omega
  · have : x.length * n.toNat ≤ 1000 * 1000 := Nat.mul_le_mul h (by omega)
    unfold Builtin.Str.tooLong
    exact decide_eq_false (Nat.not_lt.mpr (Nat.le_trans this (by decide)))
theorem mul_sub {x : Str} {n : Int} {c : Nat} (h : c ∈ (Txt.mul x n).cps.toList) : c ∈ x.cps.toList := by
  unfold Txt.mul at h
  split at h
  · cases h
  · split at h
    · exact h
    · have key : ∀ (m : Nat) (acc : Array Nat), c ∈ ((List.replicate m x.cps).foldl (· ++ ·) acc).toList → c ∈ acc.toList ∨ c ∈ x.cps.toList := by
        intro m
        induction m with
        | zero => intro acc h; exact .inl h
        | succ m ih =>
          intro acc h
          rw [List.replicate_succ, List.foldl_cons] at h
          rcases ih _ h with h | h
          · rw [Array.toList_append] at h
            exact List.mem_append.mp h
          · exact .inr h
      rcases key _ _ h with h | h
      · cases h
      · exact h
theorem mul_len {x : Str} {n : Int} (h0 : 0 ≤ n) : (Txt.mul x n).length ≤ x.length * n.toNat := PyProof.Rows.len_mul_leN (Nat.le_refl _) (by omega)
theorem eqD_nil (xs : List D) : eqD (.lst xs) (.lst []) = xs.isEmpty := by
  cases xs with
  | nil => simp [eqD, toPy, toPys, PyData.eqv, PyData.eqvAll]
  | cons x r => simp [eqD, toPy, toPys, PyData.eqv, PyData.eqvAll]
theorem ixN_last {n : Nat} (h : 0 < n) : ixN n (-1) = some (n - 1) := by
  unfold ixN
  rw [if_neg (by decide), if_pos (by omega)]
  congr 1; omega
end
/-- a statement whose ways meet -/
theorem wd_seq {X : Cx} {ex : EX} {Γ : En} {P : Po} {st : Stmt} {rest : List Stmt} (J : En → Prop) (h : W1 X ex st Γ { P with nx := J }) (k : ∀ Γ', J Γ' → WD X ex rest Γ' P) : WD X ex (st :: rest) Γ P :=
  wd_cons fun F σ G H E W xk Dn lk => h F σ G H E W xk Dn ⟨fun G' H' σ' Γ' h' => lk.nx G' H' σ' Γ' (k Γ' h'), lk.rt, lk.bk, lk.ct, lk.nb⟩
end DL

/-! DL24: list(range(n)); comprehensions over ints. -/
namespace DL
open PySem L2
section
variable {X : Cx} {ex : Exn → Prop} {e : Expr} {Γ : En} {pos p p2 pos2 : Pos} {R : Bool → D → Prop}
theorem reps_rg {K : PySem.W.Frag} {G : Gh} (n : Int) : Reps K G (rangeD 0 n.toNat) (rgV 0 n) := by
  have e1 : rangeD 0 n.toNat = ((List.range n.toNat).map fun i : Nat => (0 : Int) + (i : Nat)).map D.int := by unfold rangeD; rw [List.map_map]; rfl
  have e2 : rgV 0 n = ((List.range n.toNat).map fun i : Nat => (0 : Int) + (i : Nat)).map V.int := by unfold rgV; rw [List.map_map, Int.sub_zero]; rfl
  rw [e1, e2]
  exact Reps.ofInts _
/-- list(range(n)) -/
theorem listRg {a : Expr} (hm : X.mg "list" = none) (hm2 : X.mg "range" = none) (h : ED X ex a Γ fun _ d => ∃ n : Int, d = .int n ∧ 0 ≤ n ∧ n ≤ 16777216 ∧ R true (.lst (rangeD 0 n.toNat))) (hc : X.calm = true := by rfl) (hg : Gl X "list" := by rfl) (hg2 : Gl X "range" := by rfl)
    (na : starEach [a] X.env = (false, eval a X.env) :: starEach [] X.env := by rfl)
    (nb : starEach [.Call (.Name "range" p2) [a] [] pos2] X.env = (false, eval (.Call (.Name "range" p2) [a] [] pos2) X.env) :: starEach [] X.env := by rfl) : ED X ex (.Call (.Name "list" p) [.Call (.Name "range" p2) [a] [] pos2] [] pos) Γ R := by
  intro σ G H E W tk xa Q k
  refine tW_of (pe_listRg hc hg hm (prg_1 hg2 hm2 (pe_W (e := a)) na) nb) ?_
  refine ED.use (R := fun _ d => ∃ n : Int, d = .int n ∧ 0 ≤ n ∧ n ≤ 16777216 ∧ R true (.lst (rangeD 0 n.toNat))) h E tk xa fun d v G1 H1 h1 s1 r1 => ?_
  obtain ⟨n, rfl, n0, n1, hR⟩ := h1
  cases r1
  exact ⟨n, rfl, RgOk.of_le (by decide) n1 (by decide) n0, newL s1.ext (reps_rg n) hR fun o d v G' H' hR s r => k o d v G' H' hR (s1.trans s) (r.back s1)⟩
end
/-- range(a, m, 3) -/
theorem rg_three {a m : Int} (ha : 0 ≤ a) (h0 : a ≤ m) (h1 : m < 2 ^ 62) : RgC a m 3 ((m - a + 2) / 3).toNat := by
  have e : Builtin.Range.rangeSize a m 3 = (((m - a + 2) / 3).toNat : Nat) := by
    unfold Builtin.Range.rangeSize
    rw [if_pos (by decide)]
    split <;> omega
  refine ⟨by decide, by decide, ?_, e⟩
  unfold Builtin.Range.small
  rw [e]
  simp only [Builtin.Range.rangeFitsLong, Bool.and_eq_true, Bool.or_eq_true, decide_eq_true_eq, beq_iff_eq, show (3 : Int) > 0 by decide, if_true]
  omega
end DL

/-! DL25: a walk over an own list. -/
namespace DL
open PySem L2
section
variable {K : PySem.W.Frag} {F : Fm} {G : Gh} {H : Hp} {σ : St} {Γ : En}
/-- an own slot's data told otherwise -/
theorem EnvOk.retell {r : Nat} {d d' : D} {p : Addr} (E : EnvOk K F G H σ Γ) (h : Γ[r]? = some (some (true, d))) (hp : σ[r]? = some (some (.ref p))) (w : OwnAt K G H p d') : EnvOk K F G H σ (Γ.set r (some (true, d'))) := by
  obtain ⟨p', h1, h2, h3⟩ := E.loc.own r d h
  rw [hp] at h1; cases h1
  refine ⟨E.loc.promote hp h2 w fun j e hj g3 g4 => E.loc.dis j r e d p hj g3 h g4 hp, E.step, fun j e b g3 g4 => ?_⟩
  rcases set_get g3 with ⟨rfl, _⟩ | ⟨_, g3⟩
  · exact E.lent j _ b h g4
  · exact E.lent j e b g3 g4
end
section
variable {X : Cx} {ex : EX} {Γ : En} {P : Po} {pos p0 : Pos}
/-- for tg in x: body, x an own list that the body leaves as it is -/
theorem w_forO (r : Nat) {x : Str} {xs : List D} {tg : Expr} {body : List Stmt} (hc : X.calm = true) (hN : X.N[r]? = some x) (hv : Vis X.env.scope x) (hΓ : Γ[r]? = some (some (true, .lst xs)))
    (h : ∀ p, ∃ I : Nat → En → Prop, I 0 (Γ.set r (some (true, .adr p (.lst xs)))) ∧ (∀ i Γ', I i Γ' → Γ'[r]? = some (some (true, .adr p (.lst xs)))) ∧ (∀ i d Γ', xs[i]? = some d → I i Γ' → TD X tg d Γ' fun Γ'' => WD X ex body Γ'' { P with nx := I (i + 1), ct := I (i + 1), bk := fun _ => False }) ∧ ∀ Γ', I xs.length Γ' → P.nx (Γ'.set r (some (true, .lst xs))))
    (hs : ∀ x', foldedSetIterable (.Name x p0) X.env x' = pure x' := by intro _; rfl) (hd : (x == ("__debug__" : Str)) = false := by decide) (hcd : (x == ("__classdict__" : Str)) = false := by decide) : W1 X ex (.For tg (.Name x p0) body [] pos) Γ P := by
  intro F σ G H E W xk Dn lk
  refine tW1_of (ps_for xk.po hc (pi_list (tl := _) (pe_var hN hv hd hcd)) (g := tWg X tg) (tb := tWs X body) pg_W pss_W hs) ?_
  obtain ⟨p, h1, h2, h3⟩ := E.loc.own r _ hΓ
  obtain ⟨I, h0, hI, hst, hend⟩ := h p
  have hp3 := h3
  cases h3 with
  | lst hp rr =>
    refine ⟨_, h1, p, rfl, ⟨_, SqL.of hp⟩, ?_⟩
    have E0 := E.retell hΓ h1 (.adr (OwnAt.lst hp rr))
    refine ⟨fun i m σ' H' => m = xs.length - i ∧ i ≤ xs.length ∧ ∃ G' Γ', EnvOk X.K F G' H' σ' Γ' ∧ Le G G' ∧ I i Γ', ⟨xs.length, rfl, Nat.zero_le _, G, _, E0, Le.refl _, h0⟩, ?_⟩
    rintro i m σ' H' ⟨rfl, hi, G', Γ', E', le, hI'⟩
    have hr' := hI i Γ' hI'
    obtain ⟨q, k1, k2, k3⟩ := E'.loc.own r _ hr'
    cases k3 with
    | adr k3 =>
      have k3' := k3
      cases k3 with
      | lst hp' rr' =>
        rename_i vs'
        by_cases hlt : i < xs.length
        · refine .inr ⟨walk_list.goes i H' (by rw [← rr'.length]; exact hlt) (SqL.of hp'), fun σ2 H2 => ∃ G2 Γ2, EnvOk X.K F G2 H2 σ2 Γ2 ∧ Le G G2 ∧ I (i + 1) Γ2, fun σ2 H2 ⟨G2, Γ2, a, b, c⟩ => ⟨xs.length - (i + 1), by omega, rfl, hlt, G2, Γ2, a, b, c⟩, fun y H2 yl => ?_⟩
          obtain ⟨rfl, hx⟩ := walk_list.yields i H' y H2 (by rw [← rr'.length]; exact hlt) (SqL.of hp') yl
          obtain ⟨d, hdd, rd⟩ := rr'.getv hx
          refine hst i d Γ' hdd hI' F σ' G' _ E' y rd _ fun Γ3 σ3 G3 H3 h3 E3 s3 => ?_
          have le3 := le.trans s3.le
          exact h3 F σ3 G3 H3 E3 W (xk.go le3) _ ⟨fun G4 H4 σ4 Γ4 h4 E4 l4 => ⟨G4, Γ4, E4, le3.trans l4, h4⟩, fun o d v G4 H4 σ4 Γ4 h4 E4 r4 l4 => lk.rt o d v G4 H4 σ4 Γ4 h4 E4 r4 (le3.trans l4),
            fun G4 H4 σ4 Γ4 h4 E4 l4 => h4.elim, fun G4 H4 σ4 Γ4 h4 E4 l4 => ⟨G4, Γ4, E4, le3.trans l4, h4⟩, lk.nb⟩
        · have ei : i = xs.length := by omega
          subst ei
          have st := walk_list.stops H' (SqL.of (K := X.K) hp')
          rw [← rr'.length] at st
          exact .inl ⟨st, lk.nx G' H' σ' _ (hend Γ' hI') (E'.retell hr' k1 k3') le⟩
end
end DL

/-! DL26: x.extend(xs), `in` for data of any depth. -/
namespace DL
open PySem L2
section
variable {X : Cx} {ex : EX} {Γ : En} {P : Po} {pos p apos : Pos}
/-- x.extend(e), x an own list -/
theorem w_ext {x : Str} {i : Nat} {xs : List D} {e : Expr} (hN : X.N[i]? = some x) (hv : Vis X.env.scope x) (hΓ : Γ[i]? = some (some (true, .lst xs)))
    (h : ED X (fun x => ex x Γ) e Γ fun _ d => ∃ zs, d = .lst zs ∧ xs.length + zs.length ≤ sizeLine ∧ P.nx (Γ.set i (some (true, .lst (xs ++ zs)))))
    (hs : swapsWith (.Call (.Attribute (.Name x p) "extend" apos) [e] [] pos) none pos.line X.env = pure false := by rfl)
    (hbase : attributeBase (.Name x p) "extend" X.env (eval (.Name x p) X.env) = eval (.Name x p) X.env := by rfl)
    (hfew : ((backTo pos (starEach [e] X.env)).all (fun x => !x.1) && (backToKw pos (keywordEach [] X.env)).all (fun x => x.1.isSome)
      && decide (([e] : List Expr).length + ([] : List Keyword).length + (if ([] : List Keyword).isEmpty then 0 else 1) < 30)) = true := by rfl)
    (hline : (apos.endLine == pos.line) = true := by rfl) (hs1 : starEach (e :: []) X.env = (false, eval e X.env) :: starEach [] X.env := by rfl) (hpl : (backTo pos (starEach [] X.env)).any (·.1) = false := by rfl)
    (hd : (x == ("__debug__" : Str)) = false := by decide) (hcd : (x == ("__classdict__" : Str)) = false := by decide) : W1 X ex (.Expr (.Call (.Attribute (.Name x p) "extend" apos) [e] [] pos) pos) Γ P := by
  intro F σ G H E W xk Dn lk
  refine tW1_of (ps_expr (pe_bm PySem.F.plainAttrs_list PySem.F.slot_list_extend PySem.F.type_list_extend mt_extend (pe_var hN hv hd hcd) (pa_cons (te := tW X e) (t := tWa X []) pe_W pa_W hs1) hbase hfew hline hs1 hpl) hs) ?_
  obtain ⟨q, h1, h2, h3⟩ := E.loc.own i _ hΓ
  cases h3 with
  | lst hp r =>
    refine ⟨_, h1, ty_list hp, ?_⟩
    refine ED.use (R := fun _ d => ∃ zs, d = .lst zs ∧ xs.length + zs.length ≤ sizeLine ∧ P.nx (Γ.set i (some (true, .lst (xs ++ zs))))) (h.imp fun _ _ h => h) E.loc xk.te (xk.lk.at E) fun d v G1 H1 hR s1 r1 => ?_
    obtain ⟨zs, rfl, hR1, hR2⟩ := hR
    refine (ea_nil (ex := fun _ => False) (R := fun ds => ds = []) rfl) σ G1 H1 (E.loc.go s1) (fun _ _ _ _ => False) (.of takes0) (fun _ _ _ _ _ hx => hx.elim) _ fun ds vs G2 H2 e2 s2 r2 => ?_
    subst e2
    cases r2
    have E2 := (E.go s1).go s2
    have hp2 := s2.kept q _ (s1.kept q _ hp h2 id) (s1.gfree hp h2) id
    have r1 := r1.mono s2.le
    cases r1 with
    | lst hb rz =>
      refine ⟨q, _, _, _, rfl, rfl, hp2, E2.loc.ext _ _ hb, by rw [← r.length, ← rz.length]; exact hR1, ?_⟩
      refine lk.nx G2 _ σ _ hR2 (E2.write hΓ h1 (.lst upd_same ?_)) (s1.trans s2).le
      exact ((r.mono (s1.trans s2).le)).append rz
end
section
variable {X : Cx} {ex : Exn → Prop} {Γ : En} {R : Bool → D → Prop} {pos p : Pos}
theorem in_dd {d : D} {xs : List D} {R : Bool → Prop} (hu : X.A.units + 65 < cLine) (h1 : eqOk d = true) (h2 : eqOk (.lst xs) = true) (h : R ((toPys xs).any fun z => PyData.eqv z (toPy d))) : CmpR X .In d (.lst xs) R := .of (op_inD hu) fun G H x y E r1 r2 Q k => by
  unfold eqOk at h1 h2
  rw [Bool.and_eq_true] at h1 h2
  exact ⟨toPy d, toPys xs, r1.dp E h1.1, by have := r2.dp E h2.1; unfold toPy at this; exact this, h1.2, by have := h2.2; unfold toPy at this; exact this, k _ G H h (.refl E)⟩
theorem nin_dd {d : D} {xs : List D} {R : Bool → Prop} (hu : X.A.units + 65 < cLine) (h1 : eqOk d = true) (h2 : eqOk (.lst xs) = true) (h : R (!(toPys xs).any fun z => PyData.eqv z (toPy d))) : CmpR X .NotIn d (.lst xs) R := .of (op_notInD hu) fun G H x y E r1 r2 Q k => by
  unfold eqOk at h1 h2
  rw [Bool.and_eq_true] at h1 h2
  exact ⟨toPy d, toPys xs, r1.dp E h1.1, by have := r2.dp E h2.1; unfold toPy at this; exact this, h1.2, by have := h2.2; unfold toPy at this; exact this, k _ G H h (.refl E)⟩
theorem any_toPys {xs : List D} {f : PyData → Bool} : (toPys xs).any f = xs.any fun d => f (toPy d) := by
  induction xs with
  | nil => unfold toPys; rfl
  | cons x xs ih => unfold toPys; rw [List.any_cons, List.any_cons, ih]
end
end DL

/-! DL27: caches (memo). -/
namespace DL
open PySem L2
theorem nodup_len {α : Type} [DecidableEq α] : ∀ {xs ys : List α}, xs.Nodup → (∀ x ∈ xs, x ∈ ys) → xs.length ≤ ys.length
  | [], _, _, _ => Nat.zero_le _
  | x :: xs, ys, nd, h => by
    have hx := h x List.mem_cons_self
    have nd' := List.nodup_cons.mp nd
    have ih := nodup_len (xs := xs) (ys := ys.erase x) nd'.2 fun z hz => by
      have hne : z ≠ x := fun e => nd'.1 (e ▸ hz)
      exact (List.mem_erase_of_ne hne).mpr (h z (List.mem_cons_of_mem _ hz))
    rw [List.length_erase_of_mem hx] at ih
    have := List.length_pos_of_mem hx
    rw [List.length_cons]
    omega
def prods (ps : List Str) : List (List Key) := ps.flatMap fun l => ps.map fun r => [Sum.inr l, Sum.inr r]
theorem prods_length (ps : List Str) : (prods ps).length = ps.length * ps.length := by
  unfold prods
  generalize hn : ps.length = n
  have go : ∀ (qs : List Str), (qs.flatMap fun l => ps.map fun r => ([Sum.inr l, Sum.inr r] : List Key)).length = qs.length * ps.length := by
    intro qs
    induction qs with
    | nil => simp
    | cons q t ih => rw [List.flatMap_cons, List.length_append, ih, List.length_map, List.length_cons, Nat.succ_mul, Nat.add_comm]
  rw [go ps, hn]
theorem MemoOk.len {f : MemoF} {kvs : List (List Key × V)} (h : MemoOk f kvs) : kvs.length ≤ f.ps.length * f.ps.length := by
  rw [← prods_length, ← List.length_map (f := (·.1))]
  refine nodup_len h.1 fun k hk => ?_
  obtain ⟨kv, hkv, rfl⟩ := List.mem_map.mp hk
  obtain ⟨l, r, hl, hr, rfl⟩ := h.2 kv hkv
  exact List.mem_flatMap.mpr ⟨l, hl, List.mem_map.mpr ⟨r, hr, rfl⟩⟩
theorem MemoOk.val {f : MemoF} {kvs : List (List Key × V)} (h : MemoOk f kvs) {l r : Str} {v : V} (e : valV kvs [.inr l, .inr r] = some v) : v = .bl (f.f l r) := by
  unfold valV at e
  obtain ⟨kv, h1, h2⟩ := Option.map_eq_some_iff.mp e
  have hm := List.mem_of_find?_eq_some h1
  have hk := List.find?_some h1
  obtain ⟨l', r', _, _, rfl⟩ := h.2 kv hm
  have hk : ([Sum.inr l', Sum.inr r'] : List Key) = [.inr l, .inr r] := of_decide_eq_true hk
  injection hk with e1 e2
  injection e2 with e2 _
  injection e1 with e1
  injection e2 with e2
  subst e1 e2
  exact h2.symm
theorem MemoOk.put {f : MemoF} {kvs : List (List Key × V)} (h : MemoOk f kvs) {l r : Str} (hl : l ∈ f.ps) (hr : r ∈ f.ps) : MemoOk f (putK kvs [.inr l, .inr r] (.bl (f.f l r))) := by
  unfold putK
  by_cases e : (kvs.any fun kv => decide (kv.1 = [.inr l, .inr r])) = true
  · rw [if_pos e]
    refine ⟨?_, fun kv hkv => ?_⟩
    · rw [List.map_map]
      have : ((fun kv : List Key × V => kv.1) ∘ fun kv => if kv.1 = [.inr l, .inr r] then (kv.1, V.bl (f.f l r)) else kv) = fun kv => kv.1 := by
        funext kv
        show (if kv.1 = [.inr l, .inr r] then (kv.1, V.bl (f.f l r)) else kv).1 = kv.1
        split <;> rfl
      rw [this]; exact h.1
    · obtain ⟨kv', h', rfl⟩ := List.mem_map.mp hkv
      by_cases q : kv'.1 = [.inr l, .inr r]
      · rw [if_pos q]; exact ⟨l, r, hl, hr, by rw [q]⟩
      · rw [if_neg q]; exact h.2 kv' h'
  · rw [if_neg e]
    refine ⟨?_, fun kv hkv => ?_⟩
    · rw [List.map_append]
      refine List.nodup_append.mpr ⟨h.1, List.nodup_cons.mpr ⟨List.not_mem_nil, List.nodup_nil⟩, fun a ha b hb hab => ?_⟩
      obtain ⟨kv, hkv, rfl⟩ := List.mem_map.mp ha
      have hb : b = [.inr l, .inr r] := List.mem_singleton.mp hb
      exact e (List.any_eq_true.mpr ⟨kv, hkv, decide_eq_true (hab.trans hb)⟩)
    · rcases List.mem_append.mp hkv with h' | h'
      · exact h.2 kv h'
      · exact ⟨l, r, hl, hr, List.mem_singleton.mp h'⟩
theorem put_there {kvs : List (List Key × V)} {k : List Key} {v : V} : valV (putK kvs k v) k = some v := by rw [valV_put, if_pos rfl]
/-- the cache's object has one more entry, or none -/
theorem Step.memo {G : Gh} {H : Hp} {p : Addr} {m : MemoF} {kvs kvs' : List (List Key × V)} (e : Ext G H) (hp : G p = some (.memo m)) (hH : H p = some (.dT kvs)) (ok : MemoOk m kvs') : Step0 G H G (upd H p (.dT kvs')) where
  le := Le.refl G
  kept := fun a o h n _ => by
    have ne : a ≠ p := fun z => by rw [z, hp] at n; cases n
    rw [upd_ne ne]; exact h
  new := fun a g h n => by rw [n] at h; cases h
  ext := fun a g h => by
    by_cases z : a = p
    · subst z
      rw [hp] at h; cases h
      exact ⟨kvs', upd_same, ok⟩
    · have q := e a g h
      cases g with
      | ho v => show upd H p _ a = some v; rw [upd_ne z]; exact q
      | memo f => obtain ⟨k2, z1, z2⟩ := q; exact ⟨k2, by rw [upd_ne z]; exact z1, z2⟩
  live := fun a o h => by
    by_cases z : a = p
    · exact ⟨_, by rw [z]; exact upd_same⟩
    · exact ⟨o, by rw [upd_ne z]; exact h⟩
section
variable {X : Cx} {ex : EX} {Γ : En} {P : Po} {pos p1 p2 p3 p4 p5 p6 : Pos}
/-- the texts os name the cache m, whatever else changes -/
def RdM (X : Cx) (os : List Expr) (Γ : En) (m : MemoF) : Prop := ∀ σ G H, Loc X.K G H σ Γ → ∃ p, G p = some (.memo m) ∧ ∀ o ∈ os, ∀ G' H', Le G G' → Ext G' H' → ∀ Q : VK, Q (.ref p) H' → tW X o σ H' Q
/-- a tuple of texts -/
def KyX (X : Cx) (i : Expr) (Γ : En) (ks : List Key) : Prop := ∀ σ G H, Loc X.K G H σ Γ → ∀ Q : VK, (∀ t, H t = none → Q (.ref t) (upd H t (.tup (ks.map kV)))) → tW X i σ H Q
theorem rdm_name (i : Nat) {x : Str} {m : MemoF} (hΓ : Γ[i]? = some (some (false, .memo m))) (hN : X.N[i]? = some x) (hv : Vis X.env.scope x)
    (hd : (x == ("__debug__" : Str)) = false := by decide) (hcd : (x == ("__classdict__" : Str)) = false := by decide) : RdM X [.Name x p1, .Name x p2, .Name x p3] Γ m := by
  intro σ G H E
  obtain ⟨v, h1, h2⟩ := E.val i _ hΓ
  cases h2 with
  | memo hp =>
    rename_i a
    refine ⟨a, hp, fun o ho G' H' _ _ Q q => ?_⟩
    have go : ∀ pp : Pos, tW X (.Name x pp) σ H' Q := fun pp => tW_of (pe_var hN hv hd hcd) ⟨_, h1, q⟩
    simp only [List.mem_cons, List.not_mem_nil, or_false] at ho
    rcases ho with rfl | rfl | rfl <;> exact go _
theorem rdm_fld (i : Nat) {x f : Str} {C : Addr} {fs : List (Str × D)} {m : MemoF} {q1 q2 q3 : Pos} (c : Cls X.K C) (n : NoAttr X.K C f) (hΓ : Γ[i]? = some (some (false, .ins C fs))) (hf : fs.lookup f = some (.memo m)) (hN : X.N[i]? = some x) (hv : Vis X.env.scope x)
    (hd : (x == ("__debug__" : Str)) = false := by decide) (hcd : (x == ("__classdict__" : Str)) = false := by decide)
    (hb : ∀ pp, attributeBase (.Name x pp) f X.env (eval (.Name x pp) X.env) = eval (.Name x pp) X.env := by intro _; rfl) : RdM X [.Attribute (.Name x p1) f q1, .Attribute (.Name x p2) f q2, .Attribute (.Name x p3) f q3] Γ m := by
  intro σ G H E
  obtain ⟨v, h1, h2⟩ := E.val i _ hΓ
  cases h2 with
  | ins hp r =>
    rename_i a dx vs
    obtain ⟨w, hw, rw'⟩ := r.get hf
    cases rw' with
    | memo hm =>
      rename_i b
      refine ⟨b, hm, fun o ho G' H' l e Q q => ?_⟩
      have go : ∀ pp qq : Pos, tW X (.Attribute (.Name x pp) f qq) σ H' Q := fun pp qq => tW_of (pe_fld (pe_var hN hv hd hcd) (hb pp)) ⟨_, h1, _, C, _, _, _, rfl, e _ _ (l _ _ hp), c, n, hw, q⟩
      simp only [List.mem_cons, List.not_mem_nil, or_false] at ho
      rcases ho with rfl | rfl | rfl <;> exact go _ _
theorem kyx2 (i j : Nat) {x y : Str} {l r : Str} {kk : Nat} {p q1 q2 : Pos} (hi : Γ[i]? = some (some (false, .str l))) (hj : Γ[j]? = some (some (false, .str r))) (hNi : X.N[i]? = some x) (hNj : X.N[j]? = some y) (hvi : Vis X.env.scope x) (hvj : Vis X.env.scope y)
    (hd : (x == ("__debug__" : Str)) = false := by decide) (hcd : (x == ("__classdict__" : Str)) = false := by decide) (hd2 : (y == ("__debug__" : Str)) = false := by decide) (hcd2 : (y == ("__classdict__" : Str)) = false := by decide)
    (h1 : starEach (.Name x q1 :: [.Name y q2]) X.env = (false, eval (.Name x q1) X.env) :: starEach [.Name y q2] X.env := by rfl) (h2 : starEach (.Name y q2 :: []) X.env = (false, eval (.Name y q2) X.env) :: starEach [] X.env := by rfl) :
    KyX X (.Tuple [.Name x q1, .Name y q2] kk p) Γ [.inr l, .inr r] := by
  intro σ G H E Q q
  obtain ⟨v, e1, r1⟩ := E.val i _ hi
  obtain ⟨w, e2, r2⟩ := E.val j _ hj
  cases r1; cases r2
  refine tW_of (pe_tup (pa_cons (pe_var hNi hvi hd hcd) (pa_cons (pe_var hNj hvj hd2 hcd2) pa_nil h2) h1)) ?_
  exact ⟨_, e1, _, e2, by show 2 ≤ sizeLine; decide, fun t ht => q t ht⟩
/-- if key not in cache: cache[key] = e; return cache[key] -/
theorem wd_memo {m : MemoF} {o1 o2 o3 i1 i2 i3 e : Expr} {l r : Str} (hl : l ∈ m.ps) (hr : r ∈ m.ps) (hz : m.ps.length * m.ps.length < sizeLine) (ho : RdM X [o1, o2, o3] Γ m) (k1 : KyX X i1 Γ [.inr l, .inr r]) (k2 : KyX X i2 Γ [.inr l, .inr r]) (k3 : KyX X i3 Γ [.inr l, .inr r])
    (hu : X.A.units + 1 < cLine) (he : ED X (fun x => ex x Γ) e Γ fun _ d => d = .bl (m.f l r)) (h : P.rt false (.bl (m.f l r)) Γ)
    (hs : swapsWith e (some (.Subscript o2 i2 p2)) p3.line X.env = pure false := by rfl) (hm : behindInMarks .NotIn o1 = false := by first | exact nobehind _ (by decide) (by decide) | rfl) (hn : NoSl i3 := by exact fun _ _ => rfl) :
    WD X ex [.If (.Compare i1 [.NotIn] [o1] p1) [.Assign [.Subscript o2 i2 p2] e p3] [] p4, .Return (some (.Subscript o3 i3 p5)) p6] Γ P := by
  intro F σ G H E W xk Dn lk
  refine tWs_of (pss_cons (ps_if (pt_cmp (pc_dnotin hu (ty := tW X i1) (td := tW X o1) pe_W pe_W) hm) (pss_one (ps_dput hu (tv := tW X e) (td := tW X o2) (ty := tW X i2) pe_W pe_W pe_W hs)) pss_nil) (pss_one (ps_ret (pe_dget hu (td := tW X o3) (ty := tW X i3) pe_W pe_W hn)))) ?_
  obtain ⟨p, hp, hos⟩ := ho σ G H E.loc
  -- the end
  have fin : ∀ (G1 : Gh) (H1 : Hp) (kvs : List (List Key × V)), Step0 G H G1 H1 → H1 p = some (.dT kvs) → MemoOk m kvs → valV kvs [.inr l, .inr r] = some (.bl (m.f l r)) →
      tDGet (tW X o3) (tW X i3) σ H1 fun v H' => Dn.rt v H' := by
    intro G1 H1 kvs s1 h1 ok hv
    have E1 := E.go s1
    refine hos o3 (by simp) G1 H1 s1.le s1.ext _ ?_
    refine k3 σ G1 H1 E1.loc _ fun t ht => ?_
    have hpt : p ≠ t := fun z => by rw [z, ht] at h1; cases h1
    refine ⟨p, _, rfl, ?_, lk.rt false _ _ G1 _ σ Γ h (E1.go (.alloc s1.ext ht)) .bl s1.le⟩
    have hp2 : (upd H1 t (.tup ([Sum.inr l, Sum.inr r].map kV))) p = some (.dT kvs) := by rw [upd_ne hpt]; exact h1
    have := DGet.t (k := [Sum.inr l, Sum.inr r]) hp2 upd_same
    rw [hv] at this
    exact this
  -- the test
  refine k1 σ G H E.loc _ fun t ht => ?_
  have s1 : Step0 G H G (upd H t (.tup ([Sum.inr l, Sum.inr r].map kV))) := .alloc E.loc.ext ht
  refine hos o1 (by simp) G _ (Le.refl _) s1.ext _ ?_
  obtain ⟨kvs, h1, ok⟩ := s1.ext p _ hp
  refine ⟨p, _, rfl, DGet.t h1 upd_same, ?_⟩
  refine ⟨_, rfl, ?_⟩
  cases hv : valV kvs [.inr l, .inr r] with
  | some v =>
    rw [ok.val hv] at hv
    refine iteF ?_
    exact fin G _ kvs s1 h1 ok hv
  | none =>
    refine iteT ?_
    refine ED.use (R := fun _ d => d = .bl (m.f l r)) (he.imp fun _ _ h => h) (E.go s1).loc xk.te (xk.lk.at (E.go s1)) fun d v G2 H2 hd s2 r2 => ?_
    subst hd
    cases r2
    have st := s1.trans s2
    have E2 := E.go st
    refine hos o2 (by simp) G2 H2 st.le st.ext _ ?_
    refine k2 σ G2 H2 E2.loc _ fun t2 ht2 => ?_
    have hp2 := st.le _ _ hp
    have s3 : Step0 G2 H2 G2 (upd H2 t2 (.tup ([Sum.inr l, Sum.inr r].map kV))) := .alloc st.ext ht2
    obtain ⟨kvs2, h2, ok2⟩ := s3.ext p _ hp2
    have hlen := ok2.len
    refine ⟨p, _, rfl, DPut.t h2 upd_same (by omega), ?_⟩
    have ok3 := ok2.put hl hr
    have s4 := Step.memo s3.ext hp2 h2 ok3
    exact fin G2 _ _ ((st.trans s3).trans s4) upd_same ok3 put_there
end
/-! ### an own dict becomes a cache -/
section
variable {K : PySem.W.Frag} {F : Fm} {G : Gh} {H : Hp} {σ : St} {Γ : En}
theorem OwnAt.dTnil {p : Addr} (w : OwnAt K G H p (.dT [])) : H p = some (.dT []) := by
  cases w with
  | dT h r => cases r; exact h
theorem EnvOk.knowM {i : Nat} {q : Addr} {m : MemoF} {lb : List Addr} (E : EnvOk K F G H σ Γ) (hb : ∀ a, F.B a → a ∈ lb) (h : Γ[i]? = some (some (true, .adr q (.dT [])))) (hl : ∀ a ∈ lb, ∃ j e, j ≠ i ∧ Γ[j]? = some (some (true, .adr a e))) : ∃ G', EnvOk K F G' H σ (Γ.set i (some (false, .adr q (.memo m)))) ∧ Le G G' := by
  obtain ⟨p, h1, h2, h3⟩ := E.loc.own i _ h
  have hq : q = p := by cases h3; rfl
  have w : OwnAt K G H p (.dT []) := by cases h3 with | adr w => exact w
  subst hq
  have hH := w.dTnil
  have hf : F.H0 q = none := (E.lent i _ q h h1).resolve_right fun z => by
    obtain ⟨j, e, hj, he⟩ := hl q (hb q z)
    obtain ⟨b, q1, q2, q3⟩ := E.loc.own j _ he
    cases q3
    exact E.loc.dis j i _ _ q hj he h q1 h1
  have hi : i < σ.length := (List.getElem?_eq_some_iff.mp h1).1
  have le : Le G (gupd G q (.memo m)) := Le.gupd h2
  have st : Step F.B F.G0 F.H0 (gupd G q (.memo m)) H := {
    le := E.step.le.trans le
    kept := E.step.kept
    new := fun a g gq n => by
      by_cases z : a = q
      · rw [z]; exact hf
      · rw [gupd_ne z] at gq; exact E.step.new a g gq n
    ext := fun a g gq => by
      by_cases z : a = q
      · subst z; rw [gupd_same] at gq; cases gq; exact ⟨[], hH, List.nodup_nil, fun _ h => (nomatch h)⟩
      · rw [gupd_ne z] at gq; exact E.step.ext a g gq
    live := E.step.live }
  have gn : ∀ {j : Nat} {e : D} {b : Addr}, j ≠ i → Γ[j]? = some (some (true, e)) → σ[j]? = some (some (.ref b)) → b ≠ q := fun {j e b} hj g1 g2 z => by
    subst z; exact E.loc.dis j i e _ b hj g1 h g2 h1
  refine ⟨_, ⟨⟨by rw [List.length_set]; exact E.loc.len, st.ext, fun j e hj => ?_, fun j e hj => ?_, fun j l a b q hjl g1 g2 g3 g4 => ?_⟩, st, fun j e q g1 g2 => ?_⟩, le⟩
  · rcases set_get hj with ⟨rfl, he⟩ | ⟨_, hj⟩
    · cases he; exact ⟨_, h1, .adr (.memo gupd_same)⟩
    · obtain ⟨v, a1, a2⟩ := E.loc.val j e hj; exact ⟨v, a1, a2.mono le⟩
  · rcases set_get hj with ⟨rfl, he⟩ | ⟨hji, hj⟩
    · cases he
    · obtain ⟨b, a1, a2, a3⟩ := E.loc.own j e hj
      exact ⟨b, a1, by rw [gupd_ne (gn hji hj a1)]; exact a2, a3.mono le fun o h => h⟩
  · rcases set_get g1 with ⟨rfl, he⟩ | ⟨_, g1⟩
    · cases he
    · rcases set_get g2 with ⟨rfl, he⟩ | ⟨_, g2⟩
      · cases he
      · exact E.loc.dis j l a b q hjl g1 g2 g3 g4
  · rcases set_get g1 with ⟨rfl, he⟩ | ⟨_, g1⟩
    · cases he
    · exact E.lent j e q g1 g2
theorem wd_knowM {X : Cx} {ex : EX} {P : Po} (i : Nat) {q : Addr} (m : MemoF) {st : List Stmt} (hΓ : Γ[i]? = some (some (true, .adr q (.dT [])))) (h : WD X ex st (Γ.set i (some (false, .adr q (.memo m)))) P) (hl : ∀ a ∈ P.lb, ∃ j e, j ≠ i ∧ Γ[j]? = some (some (true, .adr a e))) : WD X ex st Γ P := fun F σ G H E W xk Dn lk => by
  obtain ⟨G', E', le⟩ := E.knowM (m := m) (fun a h => lk.nb a h) hΓ hl
  exact h F σ G' H E' W (xk.go le) Dn (lk.go le)
end
end DL

/-! DL28: dicts whose keys are tuples of ints, texts, None. -/
namespace DL
open PySem L2
def lfD : Leaf → D
  | .none => .non
  | .num i => .int i
  | .text x => .str x
theorem rep_lfD {K : PySem.W.Frag} {G : Gh} {k : Leaf} {v : V} (r : Rep K G (lfD k) v) : v = lfV k := by
  cases k <;> cases r <;> rfl
theorem rep_lfDs {K : PySem.W.Frag} {G : Gh} : ∀ {ks : List Leaf} {vs : List V}, Reps K G (ks.map lfD) vs → vs = ks.map lfV
  | [], _, .nil => rfl
  | k :: ks, _, .cons r q => by rw [rep_lfD r, rep_lfDs q]; rfl
theorem lfD_rep {K : PySem.W.Frag} {G : Gh} : ∀ {k : Leaf}, Rep K G (lfD k) (lfV k)
  | .none => .non
  | .num _ => .int
  | .text _ => .str
theorem lfDs_rep {K : PySem.W.Frag} {G : Gh} : ∀ {ks : List Leaf}, Reps K G (ks.map lfD) (ks.map lfV)
  | [] => .nil
  | _ :: _ => .cons lfD_rep lfDs_rep
theorem lf_is {P : Program} {w : World} {k : Leaf} {u : Value} (r : RelV (lfV k) u) : (leafKind P w).is k u = true := by
  cases k with
  | none => obtain rfl : u = Value.none := r; rfl
  | num i => obtain ⟨t, e⟩ := (show ∃ t, u = Value.int i t from r); subst e; exact decide_eq_true rfl
  | text x => obtain ⟨t, e⟩ := (show ∃ t, u = Value.str x t from r); subst e; show (x == x) = true; simp
theorem lf_items {P : Program} {w : World} : ∀ {ks : List Leaf} {us : List Value}, Vals (ks.map lfV) us → ItemsAre (leafKind P w) ks us
  | [], _, r => by rw [List.map_nil] at r; cases r; exact .nil
  | k :: ks, _, r => by
    rw [List.map_cons] at r
    cases r with
    | cons h t => exact .cons (lf_is h) (lf_items t)
abbrev Qs := List (List Leaf × Addr × V)
def valQ (qs : Qs) (k : List Leaf) : Option V := (qs.find? fun q => decide (q.1 = k)).map (·.2.2)
def putQ (qs : Qs) (k : List Leaf) (b : Addr) (v : V) : Qs :=
  if (qs.any fun q => decide (q.1 = k)) = true then qs.map (fun q => if q.1 = k then (q.1, q.2.1, v) else q) else qs ++ [(k, b, v)]
abbrev NT : Qs → List (List Leaf × Addr × Value) → Prop := Paired fun (q : List Leaf × Addr × V) (x : List Leaf × Addr × Value) => q.1 = x.1 ∧ q.2.1 = x.2.1 ∧ RelV q.2.2 x.2.2
theorem NT.val {qs : Qs} {xs : List (List Leaf × Addr × Value)} (r : NT qs xs) (k : List Leaf) : RelO (valQ qs k) ((atKey xs k).map (·.2)) := by
  induction r with
  | nil => exact True.intro
  | @cons p q ps qs h t ih =>
    obtain ⟨h1, _, h2⟩ := h
    by_cases e : p.1 = k
    · have e' : q.1 = k := h1.symm.trans e
      have a : valQ (p :: ps) k = some p.2.2 := by simp [valQ, List.find?_cons, e]
      have b : atKey (q :: qs) k = some q.2 := by simp [atKey, List.find?_cons, e']
      rw [a, b]; exact h2
    · have e' : ¬ q.1 = k := fun z => e (h1.trans z)
      have a : valQ (p :: ps) k = valQ ps k := by simp [valQ, List.find?_cons, e]
      have b : atKey (q :: qs) k = atKey qs k := by simp [atKey, List.find?_cons, e']
      rw [a, b]; exact ih
theorem NT.any {qs : Qs} {xs : List (List Leaf × Addr × Value)} (r : NT qs xs) (k : List Leaf) : (qs.any fun q => decide (q.1 = k)) = (atKey xs k).isSome := by
  induction r with
  | nil => rfl
  | @cons p q ps qs h t ih =>
    rw [List.any_cons, ih]
    by_cases e : p.1 = k
    · have e' : q.1 = k := h.1.symm.trans e
      rw [show atKey (q :: qs) k = some q.2 by simp [atKey, List.find?_cons, e']]
      simp [e]
    · have e' : ¬ q.1 = k := fun z => e (h.1.trans z)
      rw [show atKey (q :: qs) k = atKey qs k by simp [atKey, List.find?_cons, e']]
      simp [e]
theorem NT.repl {qs : Qs} {xs : List (List Leaf × Addr × Value)} (r : NT qs xs) (k : List Leaf) {y : V} {u : Value} (ry : RelV y u) :
    NT (qs.map fun q => if q.1 = k then (q.1, q.2.1, y) else q) (xs.map (putAt k u)) := by
  induction r with
  | nil => exact .nil
  | @cons p q ps qs h t ih =>
    rw [List.map_cons, List.map_cons]
    refine .cons ?_ ih
    obtain ⟨h1, h2, h3⟩ := h
    unfold putAt
    by_cases e : p.1 = k
    · rw [if_pos e, if_pos (h1.symm.trans e)]; exact ⟨h1, h2, ry⟩
    · rw [if_neg e, if_neg (fun z => e (h1.trans z))]; exact ⟨h1, h2, h3⟩
theorem NT.put {qs : Qs} {xs : List (List Leaf × Addr × Value)} (r : NT qs xs) (k : List Leaf) {b : Addr} {y : V} {u : Value} (ry : RelV y u) : NT (putQ qs k b y) (storedH xs k b u) := by
  unfold putQ storedH
  rw [r.any k]
  by_cases q : (atKey xs k).isSome = true
  · rw [if_pos q, if_pos q]; exact r.repl k ry
  · rw [if_neg q, if_neg q]; exact Paired.snoc r ⟨rfl, rfl, ry⟩
theorem putQ_len (qs : Qs) (k : List Leaf) (b : Addr) (v : V) : (putQ qs k b v).length ≤ qs.length + 1 := by
  unfold putQ
  split
  · rw [List.length_map]; omega
  · rw [List.length_append, List.length_cons, List.length_nil]; omega
theorem putQ_tup {H : Hp} {qs : Qs} {k : List Leaf} {b : Addr} {v : V} (h : ∀ q ∈ qs, H q.2.1 = some (.tup (q.1.map lfV))) (hb : H b = some (.tup (k.map lfV))) : ∀ q ∈ putQ qs k b v, H q.2.1 = some (.tup (q.1.map lfV)) := by
  intro q hq
  unfold putQ at hq
  split at hq
  · obtain ⟨q', h', rfl⟩ := List.mem_map.mp hq
    split
    · exact h q' h'
    · exact h q' h'
  · rcases List.mem_append.mp hq with h' | h'
    · exact h q h'
    · rw [List.mem_singleton.mp h']; exact hb
/-- the dict at a, to be read -/
def RdN (w : World) (H : Hp) (a : Addr) (qs : Qs) : Prop := (H a = some (dnO w a qs) ∨ ∃ o, H a = some (.frz o (dnO w a qs))) ∧ ∀ q ∈ qs, H q.2.1 = some (.tup (q.1.map lfV))
section
variable {P : Program} {w : World} {H : Hp} {h : Heap} {a : Addr}
theorem lf_key {ks : List Leaf} (ok : HOk P w H h) (e : H a = some (.tup (ks.map lfV))) : (tupleKind (leafKind P w)).is h ks a := by
  obtain ⟨_, its, r, o, h1, h2, n, h3⟩ := (show ObjOk P w H h a (.tup (ks.map lfV)) from ok a _ e)
  exact ⟨o, its.toArray, n, h1, h2, h3, by simpa using lf_items r⟩
theorem dn_p {qs : Qs} (ok : HOk P w H h) (e : H a = some (dnO w a qs) ∨ ∃ o, H a = some (.frz o (dnO w a qs))) : dnP w a qs h := by
  rcases e with e | ⟨o, e⟩
  · exact (show ObjOk P w H h a (dnO w a qs) from ok a _ e).1
  · exact (show ObjOk P w H h a (.frz o (dnO w a qs)) from ok a _ e).2.1
theorem dn_keys {qs : Qs} {xs : List (List Leaf × Addr × Value)} (ok : HOk P w H h) (ht : ∀ q ∈ qs, H q.2.1 = some (.tup (q.1.map lfV))) (r : NT qs xs) : ∀ x ∈ xs, (tupleKind (leafKind P w)).is h x.1 x.2.1 := by
  induction r with
  | nil => intro x hx; exact nomatch hx
  | @cons p q ps qs hq t ih =>
    intro x hx
    rcases List.mem_cons.mp hx with e | hx
    · subst e
      rw [← hq.1, ← hq.2.1]
      exact lf_key ok (ht p List.mem_cons_self)
    · exact ih (fun z hz => ht z (List.mem_cons_of_mem _ hz)) x hx
theorem dn_rd {qs : Qs} (ok : HOk P w H h) (e : RdN w H a qs) : qs.length ≤ sizeLine ∧ (a == sysModules) = false ∧ ∃ xs, NT qs xs ∧ h.DictOfH (tupleKind (leafKind P w)) a xs := by
  obtain ⟨z, y, xs, r, o, es, ep, h1, h2, h3, h4, h5⟩ := dn_p ok e.1
  exact ⟨z, y, xs, r, o, es, ep, h1, h2, h3, h4, dn_keys ok e.2 r, h5⟩
theorem dn_new {P : Program} {H' : Hp} {h' : Heap} {qs : Qs} {xs : List (List Leaf × Addr × Value)} (z : qs.length ≤ sizeLine) (hd : (a == sysModules) = false) (rel : NT qs xs) (dd : h'.DictOfH (tupleKind (leafKind P w)) a xs) : ObjOk P w H' h' a (dnO w a qs) := by
  obtain ⟨o, es, ep, h1, h2, h3, h4, _, h5⟩ := dd
  refine ⟨⟨z, hd, xs, rel, o, es, ep, h1, h2, h3, h4, h5⟩, ⟨o, h1⟩, fun g1 g2 p k => ?_⟩
  obtain ⟨z, y, xs, r, o, es, ep, h1, h2, h3, h4, h5⟩ := p
  exact ⟨z, y, xs, r, o, es, ep, k o h1, h2, h3, h4, h5⟩
end
def NGet (w : World) (H : Hp) (a : Addr) (y : V) (r : Option V) : Prop := ∃ qs k b, RdN w H a qs ∧ y = .ref b ∧ H b = some (.tup (k.map lfV)) ∧ r = valQ qs k
section
variable {X : Cx} {pins : List (Addr × Obj)} {σ : St} {H : Hp} {s : Shared} {a : Addr} {y v d : V} {u r : Value} {o : Option V} {A : Around} {E : Value → Shared → Prop}
theorem ngetItem {Q : Value → Shared → Prop} (hu : A.units + 1 < cLine) (I : Inv X pins σ H s) (g : NGet X.w H a y (some v)) (ry : RelV y u) (h : ∀ w' s', Inv X pins σ H s' → RelV v w' → Q w' s') :
    wpAny (model X.prog X.w) A (getItem (.ref a) u) Q E s := by
  obtain ⟨qs, k, b, e, ey, eb, l⟩ := g
  subst ey
  cases (show u = Value.ref b from ry)
  obtain ⟨z, hd, xs, rel, dd⟩ := dn_rd I.hok e
  obtain ⟨w', hw, rw'⟩ := RelO.some_of (v := v) (o := (atKey xs k).map (·.2)) (by rw [l]; exact rel.val k)
  obtain ⟨p, hp, hp2⟩ := Option.map_eq_some_iff.mp hw
  refine wpAny_getItem_heap (tupleKind_room_in1 hu) (lf_key I.hok eb) dd hp ?_
  rw [hp2]
  exact h w' _ (I.tok _) rw'
theorem nin {Q : Value → Shared → Prop} (hu : A.units + 1 < cLine) (I : Inv X pins σ H s) (g : NGet X.w H a y o) (ry : RelV y u) (h : ∀ s', Inv X pins σ H s' → Q (.bool o.isSome) s') :
    wpAny (model X.prog X.w) A (compareOp .In u (.ref a)) Q E s := by
  obtain ⟨qs, k, b, e, ey, eb, l⟩ := g
  subst ey
  cases (show u = Value.ref b from ry)
  obtain ⟨z, hd, xs, rel, dd⟩ := dn_rd I.hok e
  refine wpAny_in_heap (tupleKind_room_in1 hu) (lf_key I.hok eb) hd dd ?_
  have q := (rel.val k).isSome_eq
  rw [Option.isSome_map] at q
  rw [← q, ← l]
  exact h _ (I.tok _)
theorem nnotIn {Q : Value → Shared → Prop} (hu : A.units + 1 < cLine) (I : Inv X pins σ H s) (g : NGet X.w H a y o) (ry : RelV y u) (h : ∀ s', Inv X pins σ H s' → Q (.bool (!o.isSome)) s') :
    wpAny (model X.prog X.w) A (compareOp .NotIn u (.ref a)) Q E s := by
  obtain ⟨qs, k, b, e, ey, eb, l⟩ := g
  subst ey
  cases (show u = Value.ref b from ry)
  obtain ⟨z, hd, xs, rel, dd⟩ := dn_rd I.hok e
  refine PyProof.Rows.wpAny_notIn_heap (tupleKind_room_in1 hu) (lf_key I.hok eb) hd dd ?_
  have q := (rel.val k).isSome_eq
  rw [Option.isSome_map] at q
  rw [← q, ← l]
  exact h _ (I.tok _)
theorem nget2 {Q : Value → Shared → Prop} (hu : A.units + 1 < cLine) (I : Inv X pins σ H s) (g : NGet X.w H a y o) (ry : RelV y u) (rd : RelV d r) (h : ∀ w' s', Inv X pins σ H s' → RelV (o.getD d) w' → Q w' s') :
    wpAny (model X.prog X.w) A (call (.builtin "dict.get") [.ref a, u, r]) Q E s := by
  obtain ⟨qs, k, b, e, ey, eb, l⟩ := g
  subst ey
  cases (show u = Value.ref b from ry)
  obtain ⟨z, hd, xs, rel, dd⟩ := dn_rd I.hok e
  refine call_meetsIn PySem.F.slot_dict_get dd.typeIs PySem.F.entry_dict_get (PySem.F.args_dict_get_3 _ _ _) (meetsH_dict_get_default (tupleKind (leafKind X.prog X.w)) a b hd r) ⟨tupleKind_room_in1 hu, k, xs, lf_key I.hok eb, dd, h _ _ (I.tok _) ?_⟩
  rw [l]
  exact (rel.val k).getD rd
theorem nset {qs : Qs} {k : List Leaf} {b : Addr} {Q : Unit → Shared → Prop} (hu : A.units + 1 < cLine) (I : Inv X pins σ H s) (e : H a = some (dnO X.w a qs)) (et : ∀ q ∈ qs, H q.2.1 = some (.tup (q.1.map lfV))) (eb : H b = some (.tup (k.map lfV))) (l : qs.length < sizeLine) (rv : RelV v r)
    (h : ∀ s', Inv X pins σ (upd H a (dnO X.w a (putQ qs k b v))) s' → Q () s') : wpAny (model X.prog X.w) A (setItem (.ref a) (.ref b) r) Q E s := by
  obtain ⟨z, hd, xs, rel, dd⟩ := dn_rd I.hok ⟨.inl e, et⟩
  have hz : xs.length ≤ sizeLine := by rw [← Paired.length rel]; exact z
  have hl : (putQ qs k b v).length ≤ sizeLine := by have := putQ_len qs k b v; omega
  refine wpAny_setItem_heap (hsz := hz) (tupleKind_room_in1 hu) (lf_key I.hok eb) dd fun h' dd' hs => h _ ?_
  have he : ∃ q, h'.get? a = some q := let ⟨q, _, _, hq, _⟩ := dd'; ⟨q, hq⟩
  exact d_write I (by rw [e]; exact True.intro) hs he (dn_new hl hd (rel.put k rv) dd')
theorem ntype {qs : Qs} (I : Inv X pins σ H s) (e : RdN X.w H a qs) : s.TypeIs (.ref a) "dict" ∧ (∀ b, Value.ref a = .ref b → ∃ ob, s.heap.get? b = some ob ∧ ob.dict = none) ∧ (a == sysModules) = false := by
  obtain ⟨z, hd, xs, rel, dd⟩ := dn_rd I.hok e
  refine ⟨dd.typeIs, fun b q => ?_, hd⟩
  cases q
  obtain ⟨ob, _, _, h1, h2, _⟩ := dd
  exact ⟨ob, h1, h2.2.1⟩
/-- a locked one -/
theorem frzN {ob : Obj} {qs : Qs} (I : Inv X pins σ H s) (h : H a = some (.frz ob (dnO X.w a qs))) :
    (a == sysModules) = false ∧ s.heap.get? a = some ob ∧ ob.ExactDict ∧ ∃ (es : Array DictEntry) (ep : Nat), ob.data = .dict es ep ∧ es.size = qs.length ∧
      ∀ (i : Nat) (k : List Leaf) (b : Addr) (v : V), qs[i]? = some (k, b, v) → ∃ (en : DictEntry), es[i]? = some en ∧ en.key = .ref b := by
  obtain ⟨hd, ⟨z, hs, xs, pr, o', es, ep, ho, hx, hdt, he, _⟩, _⟩ := (show ObjOk X.prog X.w H s.heap a (.frz ob (dnO X.w a qs)) from I.hok a _ h)
  rw [hd] at ho
  cases ho
  have he : es.toList = xs.map (entryOfKey (tupleKind (leafKind X.prog X.w))) := he
  refine ⟨hs, hd, hx, es, ep, hdt, ?_, fun i k b v e => ?_⟩
  · have l1 : es.size = xs.length := size_of_entries he
    have l2 : qs.length = xs.length := Paired.length pr
    omega
  · obtain ⟨x, hx1, e1, e2, _⟩ := paired_get pr e
    have q := entry_at he i
    rw [hx1] at q
    exact ⟨_, q, congrArg Value.ref e2.symm⟩
end
def Itkn (w : World) (d : Addr) (o : Obj) (qs : Qs) : It :=
  ⟨fun i H => H d = some (.frz o (dnO w d qs)) ∧ i < qs.length, fun i H x H' => H' = H ∧ ∃ (k : List Leaf) (b : Addr) (v : V), qs[i]? = some (k, b, v) ∧ x = .ref b, fun i H => H d = some (.frz o (dnO w d qs)) ∧ qs.length ≤ i⟩
theorem turn_keysN {P : Program} {w : World} {K : PySem.W.Frag} {tg : Expr} {d : Addr} {o : Obj} {es : Array DictEntry} {ep : Nat} {qs : Qs} (it : Addr) (hod : o.data = .dict es ep) : Turn P w K tg (Itkn w d o qs) [it] it (fun i h => h.IsKeyIter it d i qs.length ep) where
  mem := by simp
  obj := fun i h st b hb => by
    have e : b = it := by simpa using hb
    subst e
    obtain ⟨oi, e, c, dd⟩ := st
    exact ⟨oi, e, fun v z => by rw [dd] at z; cases z⟩
  keep := fun i h h' st k => st.at fun oi e => k it (by simp) oi e
  item := by
    intro X hP hw hK hc i pins s σ H E I hf st hg
    subst hP hw hK
    obtain ⟨hd, hi⟩ := hg
    obtain ⟨f0, f1, f2, f3, f4, f5⟩ := hf it (by simp)
    obtain ⟨hs, hgd, hx, es', ep', hdt, hsz, ent⟩ := frzN I hd
    obtain ⟨rfl, rfl⟩ := dict_ep hod hdt
    obtain ⟨⟨k, b, v⟩, hkv⟩ : ∃ p, qs[i]? = some p := ⟨qs[i], List.getElem?_eq_getElem hi⟩
    obtain ⟨en, hen, hkey⟩ := ent i k b v hkv
    refine next_key_item st hgd hdt hsz hen fun h' st' sb => ?_
    have I1 : Inv X pins σ H { s with heap := h' } := I.turned (t' := s.toks) (fun b ob hb e => (sb.2 b hb).trans e) f0 f1 f3 f4 f5
    obtain ⟨oi, e, c, dd⟩ := id st'
    exact ⟨en.key, rfl, go_of (s := { s with heap := h' }) e c dd (by decide) ⟨.ref b, H, I1, hkey, ⟨rfl, k, b, v, hkv, rfl⟩, st', fun b hb => (hf b hb).1⟩⟩
  done := by
    intro X hP hw hK hc i pins s σ H E I hf st hg
    subst hP hw hK
    obtain ⟨hd, hi⟩ := hg
    obtain ⟨f0, f1, f2, f3, f4, f5⟩ := hf it (by simp)
    obtain ⟨hs, hgd, hx, es', ep', hdt, hsz, ent⟩ := frzN I hd
    obtain ⟨rfl, rfl⟩ := dict_ep hod hdt
    exact next_key_end (I.ok.hd hc) st hgd hdt hsz hi fun h' eb => ⟨rfl, I.turned (t' := s.toks) (fun b ob hb e => eb b ob hb e) f0 f1 f3 f4 f5⟩
  self := fun A i s Q E st h => by
    refine wpAny_pyIter_slot st.typeIs F.slot_dict_keyiterator_iter (wpAny_call_entry F.slot_dict_keyiterator_iter st.typeIs F.entry_dict_keyiterator_iter ?_ (F.args_dict_keyiterator_iter_1 _))
    show wpAny _ _ (ret (.ref it)) _ _ s
    exact wpAny_pure ⟨_, rfl, "dict_keyiterator", _, st.typeIs, F.slot_dict_keyiterator_next.lookup, h⟩
def iKeysN (w : World) (td : TE) : TI := fun σ H R => td σ H fun x H1 => ∃ d o qs, x = .ref d ∧ H1 d = some (.frz o (dnO w d qs)) ∧ R (Itkn w d o qs) H1
theorem pi_keysN {X : Cx} {tg e : Expr} {td : TE} (he : PE X e td) : PI X tg e (iKeysN X.w td) := by
  refine ⟨fun pins s σ H R I h => ?_⟩
  refine thn (he.run pins s σ H _ I h) fun u s1 ⟨x, H1, I1, rx, d, o, qs, ex, hd, q⟩ => ?_
  subst ex
  obtain rfl : u = Value.ref d := rx
  obtain ⟨hs, hgd, hx, es, ep, hdt, hsz, ent⟩ := frzN I1 hd
  refine iter_keys hs hgd hx hdt (pi_one (tk := s1.toks) I1 _ (turn_keysN _ hdt) ⟨_, Heap.get?_push_size _ rfl, rfl, ?_⟩ q)
  rw [hsz] <;> rfl
def tNGet (w : World) (td ty : TE) : TE := fun σ H Q => td σ H fun x H1 => ty σ H1 fun y H2 => ∃ a v, x = .ref a ∧ NGet w H2 a y (some v) ∧ Q v H2
def tNGet2 (w : World) (td ty tx : TE) : TE := fun σ H Q => td σ H fun x H1 => ∃ a, x = .ref a ∧ (∃ qs, RdN w H1 a qs) ∧ ty σ H1 fun y H2 => tx σ H2 fun z H3 => ∃ o, NGet w H3 a y o ∧ Q (o.getD z) H3
def sNPut (w : World) (td ty tv : TE) : TS := fun D σ H => tv σ H fun v H1 => td σ H1 fun x H2 => ty σ H2 fun y H3 => ∃ a b qs k, x = .ref a ∧ y = .ref b ∧ H3 a = some (dnO w a qs) ∧ (∀ q ∈ qs, H3 q.2.1 = some (.tup (q.1.map lfV))) ∧ H3 b = some (.tup (k.map lfV)) ∧ qs.length < sizeLine ∧ D.nx σ (upd H3 a (dnO w a (putQ qs k b v)))
section
variable {X : Cx} {o i e f value : Expr} {pos pos' apos cpos : Pos} {td ty tv tx : TE}
theorem pe_nget (hu : X.A.units + 1 < cLine) (ho : PE X o td) (hi : PE X i ty) (hs : NoSl i) : PE X (.Subscript o i pos) (tNGet X.w td ty) := by
  refine ⟨fun pins s σ H Q I h => ?_⟩
  refine subD_of PySem.F.slot_dict_getitem.lookup hs (thn (ho.run pins s σ H _ I h) fun u s1 ⟨x, H1, I1, rx, q1⟩ => thn (hi.run pins s1 σ H1 _ I1 q1) fun iv s2 ⟨y, H2, I2, ry, a, v, ex, g, q2⟩ => ?_)
  subst ex
  obtain rfl : u = Value.ref a := rx
  have g' := g
  obtain ⟨qs, k, b, e, _⟩ := g'
  exact ⟨(ntype I2 e).1, ngetItem hu I2 g ry fun w' s3 I3 rw' => ⟨v, H2, I3, rw', q2⟩⟩
theorem pe_nget2 (hu : X.A.units + 1 < cLine) (ho : PE X o td) (he : PE X e ty) (hf : PE X f tx) (m : M2 X o "get" apos e f cpos) : PE X (.Call (.Attribute o "get" apos) [e, f] [] cpos) (tNGet2 X.w td ty tx) := by
  refine ⟨fun pins s σ H Q I h => ?_⟩
  refine wpAny_Call_method m.base m.few m.line PySem.F.plainAttrs_dict PySem.F.slot_dict_get PySem.F.type_dict_get (thn (ho.run pins s σ H _ I h) fun u s1 ⟨x, H1, I1, rx, a, ex, ⟨qs, d⟩, q1⟩ => ?_)
  subst ex
  obtain rfl : u = Value.ref a := rx
  obtain ⟨t1, t2, _⟩ := ntype I1 d
  refine ⟨t1, t2, ?_⟩
  rw [m.trees]
  refine Calls.callWith_builtin rfl (Calls.evalArgs_plain (Calls.spliced_cons (thn (he.run pins s1 σ H1 _ I1 q1) fun iv s2 ⟨y, H2, I2, ry, q2⟩ =>
    Calls.spliced_cons (thn (hf.run pins s2 σ H2 _ I2 q2) fun fv s3 ⟨z, H3, I3, rz, ov, g, q3⟩ => Calls.spliced_nil ?_))))
  exact nget2 hu I3 g ry rz fun w' s4 I4 rw' => ⟨_, H3, I4, rw', q3⟩
theorem ps_nput (hu : X.A.units + 1 < cLine) (ho : PE X o td) (hi : PE X i ty) (hv : PE X value tv) (hs : swapsWith value (some (.Subscript o i pos')) pos.line X.env = pure false) :
    PS X (.Assign [.Subscript o i pos'] value pos) (sNPut X.w td ty tv) := by
  refine ⟨fun pins s σ H D I h => ?_⟩
  refine wpAny_Assign_Subscript (thn (hv.run pins s σ H _ I h) fun r s1 ⟨v, H1, I1, rv, q1⟩ => thn (ho.run pins s1 σ H1 _ I1 q1) fun u s2 ⟨x, H2, I2, rx, q2⟩ => thn (hi.run pins s2 σ H2 _ I2 q2) fun iv s3 ⟨y, H3, I3, ry, a, b, qs, k, ex, ey, g1, g2, g3, g4, q3⟩ => ?_) hs
  subst ex ey
  obtain rfl : u = Value.ref a := rx
  obtain rfl : iv = Value.ref b := ry
  exact nset hu I3 g1 g2 g3 g4 rv fun s4 I4 => ⟨σ, _, I4, q3⟩
end
/-! ### by data -/
section
variable {K : PySem.W.Frag} {G : Gh} {H : Hp}
theorem RepN.val {k : List Leaf} : ∀ {xs : List (List Leaf × D)} {qs : Qs}, RepN K G xs qs → RepOp K G (valD xs k) (valQ qs k)
  | _, _, .nil => trivial
  | _, _, .cons (k := k') (x := x) (b := b) (v := v) (xs := xs) (qs := qs) _ r q => by
    unfold valD valQ
    by_cases h : k' = k
    · rw [List.find?_cons_of_pos (by simpa using h), List.find?_cons_of_pos (by simpa using h)]; exact r
    · rw [List.find?_cons_of_neg (by simpa using h), List.find?_cons_of_neg (by simpa using h)]; exact RepN.val q
theorem RepN.tup (e : Ext G H) : ∀ {xs : List (List Leaf × D)} {qs : Qs}, RepN K G xs qs → ∀ q ∈ qs, H q.2.1 = some (.tup (q.1.map lfV))
  | _, _, .nil, _, hq => nomatch hq
  | _, _, .cons h _ q, z, hz => by
    rcases List.mem_cons.mp hz with rfl | hz
    · exact e _ _ h
    · exact RepN.tup e q z hz
theorem RepN.length : ∀ {xs : List (List Leaf × D)} {qs : Qs}, RepN K G xs qs → xs.length = qs.length
  | _, _, .nil => rfl
  | _, _, .cons _ _ q => congrArg (· + 1) (RepN.length q)
theorem RepN.get : ∀ {xs : List (List Leaf × D)} {qs : Qs} {i : Nat} {k : List Leaf} {b : Addr} {v : V}, RepN K G xs qs → qs[i]? = some (k, b, v) → ∃ d, xs[i]? = some (k, d) ∧ Rep K G d v ∧ G b = some (.ho (.tup (k.map lfV)))
  | _, _, _, _, _, _, .nil, h => by simp at h
  | _, _, 0, _, _, _, .cons h r q, e => by simp at e; obtain ⟨rfl, rfl, rfl⟩ := e; exact ⟨_, rfl, r, h⟩
  | _, _, i + 1, _, _, _, .cons h r q, e => by
    obtain ⟨d, a1, a2, a3⟩ := RepN.get q (by simpa using e)
    exact ⟨d, by simpa using a1, a2, a3⟩
theorem RepN.any {k : List Leaf} : ∀ {xs : List (List Leaf × D)} {qs : Qs}, RepN K G xs qs → (xs.any fun kv => decide (kv.1 = k)) = (qs.any fun q => decide (q.1 = k))
  | _, _, .nil => rfl
  | _, _, .cons _ _ q => by rw [List.any_cons, List.any_cons, RepN.any q]
theorem RepN.snoc {k : List Leaf} {b : Addr} {d : D} {v : V} (hb : G b = some (.ho (.tup (k.map lfV)))) (r : Rep K G d v) : ∀ {xs : List (List Leaf × D)} {qs : Qs}, RepN K G xs qs → RepN K G (xs ++ [(k, d)]) (qs ++ [(k, b, v)])
  | _, _, .nil => .cons hb r .nil
  | _, _, .cons h r' q => .cons h r' (RepN.snoc hb r q)
theorem RepN.sets {k : List Leaf} {d : D} {v : V} (r : Rep K G d v) : ∀ {xs : List (List Leaf × D)} {qs : Qs}, RepN K G xs qs → RepN K G (xs.map (fun kv => if kv.1 = k then (kv.1, d) else kv)) (qs.map (fun q => if q.1 = k then (q.1, q.2.1, v) else q))
  | _, _, .nil => .nil
  | _, _, .cons (k := k') h r' q => by
    rw [List.map_cons, List.map_cons]
    by_cases e : k' = k
    · rw [if_pos e, if_pos e]; exact .cons h r (RepN.sets r q)
    · rw [if_neg e, if_neg e]; exact .cons h r' (RepN.sets r q)
theorem RepN.put {k : List Leaf} {b : Addr} {d : D} {v : V} (hb : G b = some (.ho (.tup (k.map lfV)))) (r : Rep K G d v) {xs : List (List Leaf × D)} {qs : Qs} (q : RepN K G xs qs) : RepN K G (putD xs k d) (putQ qs k b v) := by
  unfold putD putQ
  rw [q.any]
  by_cases e : (qs.any fun q => decide (q.1 = k)) = true
  · rw [if_pos e, if_pos e]; exact q.sets r
  · rw [if_neg e, if_neg e]; exact q.snoc hb r
theorem Rep.rdN {w : World} {fz : Bool} {xs : List (List Leaf × D)} {v : V} (E : Ext G H) (r : Rep K G (.dN w fz xs) v) : ∃ a qs, v = .ref a ∧ RepN K G xs qs ∧ RdN w H a qs ∧ (fz = true → ∃ o, H a = some (.frz o (dnO w a qs))) := by
  cases r with
  | dN h e q =>
    rename_i p o qs
    have hH : H p = some o := E _ _ h
    refine ⟨p, qs, rfl, q, ⟨?_, q.tup E⟩, fun hf => ?_⟩
    · cases fz with
      | false => rw [show o = dnO w p qs from e] at hH; exact .inl hH
      | true => obtain ⟨ob, e⟩ := (show ∃ ob, o = .frz ob (dnO w p qs) from e); rw [e] at hH; exact .inr ⟨ob, hH⟩
    · subst hf
      obtain ⟨ob, e⟩ := (show ∃ ob, o = .frz ob (dnO w p qs) from e)
      rw [e] at hH; exact ⟨ob, hH⟩
theorem rep_keyN {k : List Leaf} {v : V} (E : Ext G H) (r : Rep K G (.tup (k.map lfD)) v) : ∃ b, v = .ref b ∧ G b = some (.ho (.tup (k.map lfV))) := by
  cases r with
  | tup h q => rw [rep_lfDs q] at h; exact ⟨_, rfl, h⟩
end
section
variable {X : Cx} {ex : Exn → Prop} {Γ : En} {R : Bool → D → Prop} {pos p apos : Pos}
theorem ed_dnewN (h : R true (.dN X.w false [])) : ED X ex (.Dict [] [] pos) Γ R := by
  intro σ G H E W tk xa Q k
  intro pins s I
  refine wpAny_Dict_empty ⟨.ref s.heap.objs.size, _, I.laid (a := s.heap.objs.size) (o := dnO X.w s.heap.objs.size []) (t' := s.toks) (fun _ _ q => Heap.get?_push_of_some _ q) (Nat.le_refl _) ?_, rfl, ?_⟩
  · exact dn_new (P := X.prog) (Nat.zero_le _) (beq_eq_false_iff_ne.mpr (Ne.symm (Nat.ne_of_lt I.big))) .nil (Heap.DictOfH.new s.heap)
  · have hq := I.hok.fresh (Nat.le_refl s.heap.objs.size)
    exact k true _ _ G _ h (.alloc E.ext hq) ⟨_, rfl, hq, E.ext.gfree hq, .dN upd_same .nil⟩
/-- o[i] -/
theorem ed_nget {o i : Expr} (h : ED X ex o Γ fun _ d => ED X ex i Γ fun _ y => ∃ fz kvs k v, d = .dN X.w fz kvs ∧ y = .tup (k.map lfD) ∧ valD kvs k = some v ∧ R false v) (hu : X.A.units + 1 < cLine) (hs : NoSl i := by exact fun _ _ => rfl) : ED X ex (.Subscript o i pos) Γ R := by
  intro σ G H E W tk xa Q k
  refine tW_of (pe_nget (td := tW X o) (ty := tW X i) hu pe_W pe_W hs) ?_
  refine ED.use (R := fun _ d => ED X ex i Γ fun _ y => ∃ fz kvs k v, d = .dN X.w fz kvs ∧ y = .tup (k.map lfD) ∧ valD kvs k = some v ∧ R false v) h E tk xa fun d x G1 H1 h1 s1 r1 => ?_
  refine ED.use (R := fun _ y => ∃ fz kvs k v, d = .dN X.w fz kvs ∧ y = .tup (k.map lfD) ∧ valD kvs k = some v ∧ R false v) h1 (E.go s1) tk (xa.go s1) fun y w G2 H2 h2 s2 r2 => ?_
  obtain ⟨fz, kvs, kk, v, rfl, rfl, hv, hR⟩ := h2
  obtain ⟨a, qs, rfl, rn, rd, _⟩ := (r1.mono s2.le).rdN s2.ext
  obtain ⟨b, rfl, hb⟩ := rep_keyN s2.ext r2
  have ro := rn.val (k := kk)
  rw [hv] at ro
  cases hq : valQ qs kk with
  | none => rw [hq] at ro; exact ro.elim
  | some u =>
    rw [hq] at ro
    exact ⟨a, u, rfl, ⟨qs, kk, b, rd, rfl, s2.ext _ _ hb, hq.symm⟩, k false v u G2 H2 hR (s1.trans s2) ro⟩
/-- o.get(e, f) -/
theorem ed_nget2 {o e f : Expr} (h : ED X ex o Γ fun _ d => ∃ fz kvs, d = .dN X.w fz kvs ∧ ED X ex e Γ fun _ y => ∃ k, y = .tup (k.map lfD) ∧ ED X ex f Γ fun _ z => R false ((valD kvs k).getD z)) (hu : X.A.units + 1 < cLine) (m : M2 X o "get" apos e f pos := by exact ⟨rfl, rfl, rfl, rfl⟩) : ED X ex (.Call (.Attribute o "get" apos) [e, f] [] pos) Γ R := by
  intro σ G H E W tk xa Q k
  refine tW_of (pe_nget2 (td := tW X o) (ty := tW X e) (tx := tW X f) hu pe_W pe_W pe_W m) ?_
  refine ED.use (R := fun _ d => ∃ fz kvs, d = .dN X.w fz kvs ∧ ED X ex e Γ fun _ y => ∃ k, y = .tup (k.map lfD) ∧ ED X ex f Γ fun _ z => R false ((valD kvs k).getD z)) h E tk xa fun d x G1 H1 h1 s1 r1 => ?_
  obtain ⟨fz, kvs, rfl, h1⟩ := h1
  obtain ⟨a, qs, rfl, rn, rd, _⟩ := r1.rdN s1.ext
  refine ⟨a, rfl, ⟨qs, rd⟩, ?_⟩
  refine ED.use (R := fun _ y => ∃ k, y = .tup (k.map lfD) ∧ ED X ex f Γ fun _ z => R false ((valD kvs k).getD z)) h1 (E.go s1) tk (xa.go s1) fun y w G2 H2 h2 s2 r2 => ?_
  obtain ⟨kk, rfl, h2⟩ := h2
  refine ED.use (R := fun _ z => R false ((valD kvs kk).getD z)) h2 ((E.go s1).go s2) tk ((xa.go s1).go s2) fun z u G3 H3 h3 s3 r3 => ?_
  obtain ⟨a', qs', ea, rn', rd', _⟩ := (r1.mono (s2.trans s3).le).rdN s3.ext
  cases ea
  obtain ⟨b, rfl, hb⟩ := rep_keyN s3.ext (r2.mono s3.le)
  exact ⟨_, ⟨qs', kk, b, rd', rfl, s3.ext _ _ hb, rfl⟩, k false _ _ G3 H3 h3 ((s1.trans s2).trans s3) (rn'.val.getD r3)⟩
theorem in_N {fz : Bool} {kvs : List (List Leaf × D)} {k : List Leaf} {R : Bool → Prop} (hu : X.A.units + 1 < cLine) (h : R (valD kvs k).isSome) : CmpR X .In (.tup (k.map lfD)) (.dN X.w fz kvs) R := fun G H x z E r1 r2 pins σ s u w I ru rw' Q kk => by
  obtain ⟨a, qs, rfl, rn, rd, _⟩ := r2.rdN E
  obtain ⟨b, rfl, hb⟩ := rep_keyN E r1
  obtain rfl : w = Value.ref a := rw'
  exact nin hu I ⟨qs, k, b, rd, rfl, E _ _ hb, rfl⟩ ru fun s' I' => ⟨.bl (valD kvs k).isSome, H, I', by rw [← rn.val.isSome]; rfl, kk _ G H h (.refl E)⟩
theorem nin_N {fz : Bool} {kvs : List (List Leaf × D)} {k : List Leaf} {R : Bool → Prop} (hu : X.A.units + 1 < cLine) (h : R (!(valD kvs k).isSome)) : CmpR X .NotIn (.tup (k.map lfD)) (.dN X.w fz kvs) R := fun G H x z E r1 r2 pins σ s u w I ru rw' Q kk => by
  obtain ⟨a, qs, rfl, rn, rd, _⟩ := r2.rdN E
  obtain ⟨b, rfl, hb⟩ := rep_keyN E r1
  obtain rfl : w = Value.ref a := rw'
  exact nnotIn hu I ⟨qs, k, b, rd, rfl, E _ _ hb, rfl⟩ ru fun s' I' => ⟨.bl (!(valD kvs k).isSome), H, I', by rw [← rn.val.isSome]; rfl, kk _ G H h (.refl E)⟩
def keysN (kvs : List (List Leaf × D)) : List D := kvs.map fun kv => .tup (kv.1.map lfD)
/-- for k in d, d locked -/
theorem ei_keysN {tg e : Expr} {R : List D → Prop} (h : ED X ex e Γ fun _ d => ∃ kvs, d = .dN X.w true kvs ∧ R (keysN kvs)) : EI X ex tg e Γ R := by
  refine ⟨_, pi_keysN (td := tW X e) pe_W, fun σ G H E W tk xa Q k => ?_⟩
  refine ED.use (R := fun _ d => ∃ kvs, d = .dN X.w true kvs ∧ R (keysN kvs)) h E tk xa fun d v G1 H1 h1 s1 r1 => ?_
  obtain ⟨kvs, rfl, hR⟩ := h1
  cases r1 with
  | dN hp e q =>
    rename_i a o qs
    obtain ⟨ob, rfl⟩ := (show ∃ ob, o = .frz ob (dnO X.w a qs) from e)
    refine ⟨a, ob, qs, rfl, s1.ext _ _ hp, k _ (keysN kvs) G1 H1 hR s1 ?_⟩
    have hl : (keysN kvs).length = qs.length := by unfold keysN; rw [List.length_map]; exact q.length
    refine ⟨fun i H hi e => ⟨e _ _ hp, by rw [← hl]; exact hi⟩, fun H e => ⟨e _ _ hp, by rw [hl]; exact Nat.le_refl _⟩, fun i G H x H' hi l e y => ?_⟩
    obtain ⟨rfl, kk, b, u, hq, rfl⟩ := y
    obtain ⟨d, hd, _, hb⟩ := q.get hq
    refine ⟨G, .tup (kk.map lfD), .refl e, ?_, .tup (l _ _ hb) lfDs_rep⟩
    unfold keysN
    rw [List.getElem?_map, hd]; rfl
end
section
variable {X : Cx} {ex : EX} {Γ : En} {P : Po} {pos p apos pos' : Pos}
/-- x[k] = e, x an own dict -/
theorem w_nput (i : Nat) {x : Str} {kvs : List (List Leaf × D)} {e ix : Expr} {p2 : Pos} (hN : X.N[i]? = some x) (hv : Vis X.env.scope x) (hΓ : Γ[i]? = some (some (true, .dN X.w false kvs)))
    (h : ED X (fun x => ex x Γ) e Γ fun _ d => ED X (fun x => ex x Γ) ix Γ fun _ y => ∃ k, y = .tup (k.map lfD) ∧ kvs.length < sizeLine ∧ P.nx (Γ.set i (some (true, .dN X.w false (putD kvs k d)))))
    (hu : X.A.units + 1 < cLine) (hs : swapsWith e (some (.Subscript (.Name x p) ix p2)) pos.line X.env = pure false := by rfl)
    (hd : (x == ("__debug__" : Str)) = false := by decide) (hcd : (x == ("__classdict__" : Str)) = false := by decide) : W1 X ex (.Assign [.Subscript (.Name x p) ix p2] e pos) Γ P := by
  intro F σ G H E W xk Dn lk
  refine tW1_of (ps_nput hu (tv := tW X e) (ty := tW X ix) (pe_var hN hv hd hcd) pe_W pe_W hs) ?_
  refine ED.use (R := fun _ d => ED X (fun x => ex x Γ) ix Γ fun _ y => ∃ k, y = .tup (k.map lfD) ∧ kvs.length < sizeLine ∧ P.nx (Γ.set i (some (true, .dN X.w false (putD kvs k d))))) (h.imp fun _ _ h => h) E.loc xk.te (xk.lk.at E) fun d v G1 H1 hR s1 r1 => ?_
  have E1 := E.go s1
  obtain ⟨q, h1, h2, h3⟩ := E1.loc.own i _ hΓ
  refine ⟨_, h1, ?_⟩
  refine ED.use (R := fun _ y => ∃ k, y = .tup (k.map lfD) ∧ kvs.length < sizeLine ∧ P.nx (Γ.set i (some (true, .dN X.w false (putD kvs k d))))) (hR.imp fun _ _ h => h) E1.loc xk.te (xk.lk.at E1 s1.le) fun y w G2 H2 hR2 s2 r2 => ?_
  obtain ⟨kk, rfl, hl, hR2⟩ := hR2
  have E2 := E1.go s2
  cases h3 with
  | dN hp r =>
    rename_i qs
    have hp2 := s2.kept q _ hp h2 id
    obtain ⟨b, rfl, hb⟩ := rep_keyN s2.ext r2
    have r2' := r.mono s2.le
    refine ⟨q, b, qs, kk, rfl, rfl, hp2, r2'.tup s2.ext, s2.ext _ _ hb, by rw [← r.length]; exact hl, ?_⟩
    exact lk.nx G2 _ σ _ hR2 (E2.write hΓ h1 (.dN upd_same (r2'.put hb (r1.mono s2.le)))) (s1.trans s2).le
/-- an own dict becomes known, locked -/
theorem wd_frzN (i : Nat) {kvs : List (List Leaf × D)} {st : List Stmt} (hΓ : Γ[i]? = some (some (true, .dN X.w false kvs))) (h : WD X ex st (Γ.set i (some (false, .dN X.w true kvs))) P) (hB : P.lb = [] := by rfl) : WD X ex st Γ P := by
  intro F σ G H E W xk Dn lk pins s I
  obtain ⟨p, h1, h2, h3⟩ := E.loc.own i _ hΓ
  cases h3 with
  | dN hp r =>
    rename_i qs
    obtain ⟨od, I'⟩ := I.lock hp True.intro
    have hf : F.H0 p = none := (E.lent i _ p hΓ h1).resolve_right fun z => by have := lk.nb p z; rw [hB] at this; cases this
    have hi : i < σ.length := (List.getElem?_eq_some_iff.mp h1).1
    have le : Le G (gupd G p (.ho (.frz od (dnO X.w p qs)))) := Le.gupd h2
    have st0 : Step F.B F.G0 F.H0 G (upd H p (.frz od (dnO X.w p qs))) := E.step.write (.inl hf) h2
    have st : Step F.B F.G0 F.H0 (gupd G p (.ho (.frz od (dnO X.w p qs)))) (upd H p (.frz od (dnO X.w p qs))) := st0.know hf upd_same h2
    have gn : ∀ {j : Nat} {e : D} {q : Addr}, j ≠ i → Γ[j]? = some (some (true, e)) → σ[j]? = some (some (.ref q)) → q ≠ p := fun {j e q} hj g1 g2 z => by
      subst z; exact E.loc.dis j i e _ q hj g1 hΓ g2 h1
    have E' : EnvOk X.K F (gupd G p (.ho (.frz od (dnO X.w p qs)))) (upd H p (.frz od (dnO X.w p qs))) σ (Γ.set i (some (false, .dN X.w true kvs))) := by
      refine ⟨⟨by rw [List.length_set]; exact E.loc.len, st.ext, fun j e hj => ?_, fun j e hj => ?_, fun j l a b q hjl g1 g2 g3 g4 => ?_⟩, st, fun j e q g1 g2 => ?_⟩
      · rcases set_get hj with ⟨rfl, he⟩ | ⟨_, hj⟩
        · cases he; exact ⟨_, h1, .dN gupd_same ⟨od, rfl⟩ (r.mono le)⟩
        · obtain ⟨v, a1, a2⟩ := E.loc.val j e hj; exact ⟨v, a1, a2.mono le⟩
      · rcases set_get hj with ⟨rfl, he⟩ | ⟨hji, hj⟩
        · cases he
        · obtain ⟨q, a1, a2, a3⟩ := E.loc.own j e hj
          exact ⟨q, a1, by rw [gupd_ne (gn hji hj a1)]; exact a2, a3.mono le fun o h => by rw [upd_ne (gn hji hj a1)]; exact h⟩
      · rcases set_get g1 with ⟨rfl, he⟩ | ⟨_, g1⟩
        · cases he
        · rcases set_get g2 with ⟨rfl, he⟩ | ⟨_, g2⟩
          · cases he
          · exact E.loc.dis j l a b q hjl g1 g2 g3 g4
      · rcases set_get g1 with ⟨rfl, he⟩ | ⟨_, g1⟩
        · cases he
        · exact E.lent j e q g1 g2
    exact h F σ _ _ E' W (xk.go le) Dn (lk.go le) pins s I'
end
end DL

/-! DL29: more words: i <= j < k as a value; dicts by nodes within lists; rows of numbers compared. -/
namespace DL
open PySem L2
section
variable {X : Cx} {ex : Exn → Prop} {Γ : En} {R : Bool → D → Prop} {pos p : Pos}
/-- i <= j < k as a value -/
theorem ed_chainI {a b c : Expr} {op op' : CmpOp} (h : ED X ex a Γ fun _ d1 => ED X ex b Γ fun _ d2 => ∃ i j, d1 = .int i ∧ d2 = .int j ∧ (CmpI op i j = true → ED X ex c Γ fun _ d3 => ∃ k, d3 = .int k ∧ R false (.bl (CmpI op' j k))) ∧ (CmpI op i j = false → R false (.bl false)))
    (h1 : IsCmpI op = true := by rfl) (h2 : IsCmpI op' = true := by rfl) (hm : lastMarks [op, op'] [b, c] = false := by with_unfolding_all rfl) : ED X ex (.Compare a [op, op'] [b, c] pos) Γ R := by
  intro σ G H E W tk xa Q k
  refine tW_of (pe_chain (opCmpI h1) (opCmpI h2) (ta := tW X a) (tb := tW X b) (tc := tW X c) pe_W pe_W pe_W hm) ?_
  refine chain_go (R := fun b => R false (.bl b)) E tk xa (h.imp fun _ d1 h => h.imp fun _ d2 hh => ?_) fun b G' H' hR s => k false (.bl b) _ G' H' hR s .bl
  obtain ⟨i, j, rfl, rfl, ht, hf⟩ := hh
  refine ⟨CmpI op i j, rI0_go, fun e => (ht e).imp fun _ d3 h3 => ?_, hf⟩
  obtain ⟨k, rfl, hR⟩ := h3
  exact ⟨CmpI op' j k, rI0_go, hR⟩
end
end DL
namespace DL
open PySem L2
section
variable {X : Cx} {ex : EX} {Γ : En} {P : Po} {pos p apos pos' : Pos}
/-- o[k] = e, o's dict own at slot g -/
theorem w_nputG (g : Nat) {q : Addr} {kvs : List (List Leaf × D)} {o e ix : Expr} {p2 : Pos} (hΓ : Γ[g]? = some (some (true, .adr q (.dN X.w false kvs))))
    (h : ED X (fun x => ex x Γ) e Γ fun _ d => ED X (fun x => ex x Γ) o Γ fun _ z => z = .ref q ∧ ED X (fun x => ex x Γ) ix Γ fun _ y => ∃ k, y = .tup (k.map lfD) ∧ kvs.length < sizeLine ∧ P.nx (Γ.set g (some (true, .adr q (.dN X.w false (putD kvs k d))))))
    (hu : X.A.units + 1 < cLine) (hs : swapsWith e (some (.Subscript o ix p2)) pos.line X.env = pure false := by rfl) : W1 X ex (.Assign [.Subscript o ix p2] e pos) Γ P := by
  intro F σ G H E W xk Dn lk
  refine tW1_of (ps_nput hu (tv := tW X e) (td := tW X o) (ty := tW X ix) pe_W pe_W pe_W hs) ?_
  refine ED.use (R := fun _ d => ED X (fun x => ex x Γ) o Γ fun _ z => z = .ref q ∧ ED X (fun x => ex x Γ) ix Γ fun _ y => ∃ k, y = .tup (k.map lfD) ∧ kvs.length < sizeLine ∧ P.nx (Γ.set g (some (true, .adr q (.dN X.w false (putD kvs k d)))))) (h.imp fun _ _ h => h) E.loc xk.te (xk.lk.at E) fun d v G1 H1 hR s1 r1 => ?_
  have E1 := E.go s1
  refine ED.use (R := fun _ z => z = .ref q ∧ ED X (fun x => ex x Γ) ix Γ fun _ y => ∃ k, y = .tup (k.map lfD) ∧ kvs.length < sizeLine ∧ P.nx (Γ.set g (some (true, .adr q (.dN X.w false (putD kvs k d)))))) (hR.imp fun _ _ h => h) E1.loc xk.te (xk.lk.at E1 s1.le) fun z u G2 H2 hR2 s2 r2 => ?_
  obtain ⟨rfl, hR2⟩ := hR2
  cases r2
  have E2 := E1.go s2
  have s12 := s1.trans s2
  refine ED.use (R := fun _ y => ∃ k, y = .tup (k.map lfD) ∧ kvs.length < sizeLine ∧ P.nx (Γ.set g (some (true, .adr q (.dN X.w false (putD kvs k d)))))) (hR2.imp fun _ _ h => h) E2.loc xk.te (xk.lk.at E2 s12.le) fun y w G3 H3 hR3 s3 r3 => ?_
  obtain ⟨kk, rfl, hl, hR3⟩ := hR3
  have E3 := E2.go s3
  obtain ⟨a, b1, b2, b3⟩ := E3.loc.own g _ hΓ
  cases b3 with
  | adr w3 =>
    cases w3 with
    | dN hp r =>
      rename_i qs
      obtain ⟨b, rfl, hb⟩ := rep_keyN s3.ext r3
      refine ⟨q, b, qs, kk, rfl, rfl, hp, r.tup s3.ext, s3.ext _ _ hb, by rw [← r.length]; exact hl, ?_⟩
      exact lk.nx G3 _ σ _ hR3 (E3.write hΓ b1 (.adr (.dN upd_same (r.put hb (r1.mono (s2.trans s3).le))))) (s12.trans s3).le
/-- x = [{}]: the dict stands at the ghost slot g -/
theorem wd_asgND (i g : Nat) {x y : Str} {p' p1 p2 : Pos} {rest : List Stmt} (hN : X.N.Nodup) (hi : X.N[i]? = some x) (hx : L2.Loc X.env.scope x) (hg : X.N[g]? = some y) (hgv : ¬ Vis X.env.scope y) (hig : g ≠ i)
    (h : ∀ q, WD X ex rest ((Γ.set i (some (true, .lst [.ref q]))).set g (some (true, .adr q (.dN X.w false [])))) P)
    (hs : swapsWith (.List [.Dict [] [] p1] p2) (some (.Name x p')) pos.line X.env = pure false := by rfl) (he : starEach (.Dict [] [] p1 :: []) X.env = (false, eval (.Dict [] [] p1) X.env) :: starEach [] X.env := by rfl)
    (hf : X.fn x = true ∨ X.env.scope.names.lookup x = some .local := by first | exact .inl rfl | exact .inr rfl) : WD X ex (.Assign [.Name x p'] (.List [.Dict [] [] p1] p2) pos :: rest) Γ P := by
  intro F σ G H E W xk Dn lk
  refine tWs_of (pss_cons (u := tWs X rest) (ps_set hN hi hx (pe_lst (pa_cons (te := tW X (.Dict [] [] p1)) pe_W pa_nil he)) hs hf) pss_W) ?_
  refine ed_dnewN (ex := fun x => ex x Γ) (R := fun o d => o = true ∧ d = .dN X.w false []) ⟨rfl, rfl⟩ σ G H E.loc W xk.te (xk.lk.at E) _ fun o d v G1 H1 hR s1 r1 => ?_
  obtain ⟨rfl, rfl⟩ := hR
  obtain ⟨q, rfl, hn, nq, w1⟩ := r1
  refine ⟨by show 1 ≤ sizeLine; decide, fun t ht => ?_⟩
  have E1 : EnvOk X.K F G1 H1 (σ.set g (some (.ref q))) (Γ.set g (some (true, .adr q (.dN X.w false [])))) := E.seto s1 hn nq (.adr w1)
  have s2 : Step0 G1 H1 G1 (upd H1 t (.lst [.ref q])) := .alloc s1.ext ht
  have E2 := E1.seto (i := i) (d := .lst [.ref q]) s2 ht (s1.ext.gfree ht) (.lst upd_same (.cons .ref .nil))
  rw [List.set_comm _ _ hig, List.set_comm _ _ hig] at E2
  refine tWs_ghost (g := g) (v := .ref q) hg hgv ?_
  exact h q F _ G1 _ E2 W (xk.go (s1.trans s2).le) Dn (lk.go (s1.trans s2).le)
/-- an own list of one thing, which is known at slot g -/
theorem wd_linkL1 (i g : Nat) {q : Addr} {d : D} {st : List Stmt} (hi : Γ[i]? = some (some (true, .lst [.ref q]))) (hg : Γ[g]? = some (some (false, .adr q d))) (h : WD X ex st (Γ.set i (some (true, .lst [d]))) P) : WD X ex st Γ P := by
  intro F σ G H E W xk Dn lk
  obtain ⟨p, h1, h2, h3⟩ := E.loc.own i _ hi
  obtain ⟨v, g1, g2⟩ := E.loc.val g _ hg
  cases g2 with
  | adr rd =>
    cases h3 with
    | lst hp r =>
      cases r with
      | cons ra rb =>
        cases ra; cases rb
        exact h F σ G H (E.retell hi h1 (.lst hp (.cons rd .nil))) W xk Dn lk
end
end DL
namespace DL
open PySem L2
/-! ### rows of numbers compared -/
theorem alike_ints : ∀ ns ms : List Int, PySem.W.alikeAll (ns.map PyData.int) (ms.map PyData.int) = true
  | [], ms => by unfold PySem.W.alikeAll; rfl
  | n :: ns, [] => by unfold PySem.W.alikeAll; rfl
  | n :: ns, m :: ms => by
    rw [List.map_cons, List.map_cons]
    unfold PySem.W.alikeAll
    rw [alike_ints ns ms]
    unfold PySem.W.alike; rfl
theorem lex_ints : ∀ ns ms : List Int, PyProof.Rows.lexLt PyProof.Rows.itemOrd (PySem.W.keyToksAll (ns.map PyData.int)) (PySem.W.keyToksAll (ms.map PyData.int)) = HT.lexLt ns ms
  | [], [] => by rw [← PySem.W.firstLt_toks _ _ (alike_ints [] [])]; rfl
  | [], m :: ms => by rw [← PySem.W.firstLt_toks _ _ (alike_ints [] (m :: ms))]; rfl
  | n :: ns, [] => by rw [← PySem.W.firstLt_toks _ _ (alike_ints (n :: ns) [])]; rfl
  | n :: ns, m :: ms => by
    rw [List.map_cons, List.map_cons]
    have ha : PySem.W.alike (.int n) (.int m) = true := by unfold PySem.W.alike; rfl
    have he : PyData.eqv (.int n) (.int m) = decide (n = m) := by unfold PyData.eqv; simp [Bool.beq_eq_decide_eq]
    by_cases h : n = m
    · rw [PySem.W.dataLt_all_yes ha (by rw [he]; exact decide_eq_true h), lex_ints ns ms, HT.lexLt_cons, if_pos h]
    · rw [PySem.W.dataLt_all_no ha (by rw [he]; exact decide_eq_false h), PySem.W.dataLt_int, HT.lexLt_cons, if_neg h]
theorem lt_rows (ns ms : List Int) : PySem.W.dataLt (.list (ns.map PyData.int)) (.list (ms.map PyData.int)) = HT.lexLt ns ms := by
  rw [PySem.W.dataLt_list]; exact lex_ints ns ms
theorem toPys_ints : ∀ ns : List Int, toPys (ns.map D.int) = ns.map PyData.int
  | [] => by unfold toPys; rfl
  | n :: ns => by rw [List.map_cons]; unfold toPys; rw [toPys_ints ns]; unfold toPy; rfl
theorem isPys_ints : ∀ ns : List Int, isPys (ns.map D.int) = true
  | [] => by unfold isPys; rfl
  | n :: ns => by rw [List.map_cons]; unfold isPys; rw [isPys_ints ns]; unfold isPy; rfl
theorem depth_ints : ∀ ns : List Int, PyData.depthAll (ns.map PyData.int) = 0
  | [] => by unfold PyData.depthAll; rfl
  | n :: ns => by rw [List.map_cons]; unfold PyData.depthAll; rw [depth_ints ns]; unfold PyData.depth; rfl
section
variable {X : Cx}
theorem lt_LL {ns ms : List Int} {R : Bool → Prop} (hu : X.A.units + 64 < cLine) (h : R (HT.lexLt ns ms)) : CmpR X .Lt (.lst (ns.map D.int)) (.lst (ms.map D.int)) R := fun G H x y E r1 r2 pins σ s u w I ru rw' Q k => by
  have d1 := r1.dp E (by unfold isPy; exact isPys_ints ns)
  have d2 := r2.dp E (by unfold isPy; exact isPys_ints ms)
  unfold toPy at d1 d2
  rw [toPys_ints] at d1 d2
  obtain ⟨as, e1⟩ := Dp.reads I _ x u d1 ru
  obtain ⟨bs, e2⟩ := Dp.reads I _ y w d2 rw'
  refine PySem.W.lt_data e1 e2 (by unfold PySem.W.alike; exact alike_ints ns ms) (fun z => nomatch z) (by unfold PyData.depth; rw [depth_ints, depth_ints]; omega) ?_
  rw [lt_rows]
  exact ⟨.bl _, H, I, rfl, k _ G H h (.refl E)⟩
theorem ge_LL {ns ms : List Int} {R : Bool → Prop} (hu : X.A.units + 64 < cLine) (h : R (!HT.lexLt ns ms)) : CmpR X .GtE (.lst (ns.map D.int)) (.lst (ms.map D.int)) R := fun G H x y E r1 r2 pins σ s u w I ru rw' Q k => by
  have d1 := r1.dp E (by unfold isPy; exact isPys_ints ns)
  have d2 := r2.dp E (by unfold isPy; exact isPys_ints ms)
  unfold toPy at d1 d2
  rw [toPys_ints] at d1 d2
  obtain ⟨as, e1⟩ := Dp.reads I _ x u d1 ru
  obtain ⟨bs, e2⟩ := Dp.reads I _ y w d2 rw'
  refine PySem.W.ge_data e1 e2 (by unfold PySem.W.alike; exact alike_ints ns ms) (fun z => nomatch z) (by unfold PyData.depth; rw [depth_ints, depth_ints]; omega) ?_
  rw [lt_rows]
  exact ⟨.bl _, H, I, rfl, k _ G H h (.refl E)⟩
end
theorem lexLt_self : ∀ ns : List Int, HT.lexLt ns ns = false
  | [] => rfl
  | n :: ns => by rw [HT.lexLt_cons, if_pos rfl, lexLt_self ns]
theorem lexLt_asym : ∀ {ns ms : List Int}, HT.lexLt ns ms = true → HT.lexLt ms ns = false
  | [], [], _ => rfl
  | [], m :: ms, _ => rfl
  | n :: ns, [], h => by cases h
  | n :: ns, m :: ms, h => by
    rw [HT.lexLt_cons] at h ⊢
    by_cases e : n = m
    · subst e
      rw [if_pos rfl] at h ⊢
      exact lexLt_asym h
    · rw [if_neg e] at h
      rw [if_neg fun z => e z.symm]
      have := of_decide_eq_true h
      exact decide_eq_false (by omega)
end DL

namespace Lw
open PySem L2 DL
def top (i : Nat) : Stmt := PySem.Challenge.pw_joinranks_k99_whole_numbered_at_full_tab.main.body.getD i (.Pass ⟨0, 0, 0, 0⟩)
abbrev s_wall : Stmt := top 0
abbrev sNoTable_init : Stmt := inClass (top 3) 0
abbrev sNoGrammar_init : Stmt := inClass (top 4) 0
abbrev sNoCutting_init : Stmt := inClass (top 5) 0
abbrev sNoSign_init : Stmt := inClass (top 6) 0
abbrev sNoPiece_init : Stmt := inClass (top 7) 0
abbrev sNoNumber_init : Stmt := inClass (top 8) 0
abbrev sis_whole : Stmt := top 11
abbrev swhat_is_wrong : Stmt := top 13
abbrev slook_at_cutting : Stmt := top 14
abbrev ssteps_behind : Stmt := top 16
abbrev sall_steps : Stmt := top 17
abbrev smany_from : Stmt := top 19
abbrev sways_by_signs : Stmt := top 20
abbrev show_many : Stmt := top 21
abbrev scutting_of : Stmt := top 22
abbrev snumber_of : Stmt := top 23
abbrev slook_at_piece : Stmt := top 25
abbrev sedge : Stmt := top 26
abbrev sown_rank : Stmt := top 27
abbrev sjoined_over : Stmt := top 28
abbrev sstands_alone : Stmt := top 29
abbrev sFollows_init : Stmt := inClass (top 31) 0
abbrev sFollows_table : Stmt := inClass (top 31) 1
abbrev sFollows_is_alone : Stmt := inClass (top 31) 2
abbrev sFollows_fits : Stmt := inClass (top 31) 3
abbrev sFollows_alone : Stmt := inClass (top 31) 4
abbrev sFollows_after : Stmt := inClass (top 31) 5
abbrev sFollows_ahead : Stmt := inClass (top 31) 6
abbrev sFollows_may : Stmt := inClass (top 31) 7
abbrev sis_sign : Stmt := top 37
abbrev slook_at_signs : Stmt := top 38
abbrev sis_row : Stmt := top 39
abbrev sTable_init : Stmt := inClass (top 40) 0
abbrev sTable_signs : Stmt := inClass (top 40) 1
abbrev sTable_rows : Stmt := inClass (top 40) 2
abbrev sTable_pieces : Stmt := inClass (top 40) 3
abbrev sTable_which : Stmt := inClass (top 40) 4
abbrev sTable_piece : Stmt := inClass (top 40) 5
abbrev sTable_parts : Stmt := inClass (top 40) 6
abbrev sTable_rank : Stmt := inClass (top 40) 7
abbrev sTable_longest : Stmt := inClass (top 40) 8
abbrev sis_state : Stmt := top 44
abbrev sis_way : Stmt := top 45
abbrev sGrammar_init : Stmt := inClass (top 46) 0
abbrev sGrammar_many : Stmt := inClass (top 46) 1
abbrev sGrammar_ways : Stmt := inClass (top 46) 2
abbrev sGrammar_ends : Stmt := inClass (top 46) 3
abbrev sGrammar_leads : Stmt := inClass (top 46) 4
abbrev sGrammar_tells : Stmt := inClass (top 46) 5
abbrev s_law_cell_at : Stmt := top 48
abbrev s_law_numbers : Stmt := top 49
abbrev s_law_signs : Stmt := top 50
abbrev s_law_rows : Stmt := top 51
abbrev s_law_cut : Stmt := top 52
abbrev s_law_ways : Stmt := top 53
abbrev s_law_counted : Stmt := top 54
abbrev s_law_tells : Stmt := top 55
abbrev slaw : Stmt := top 56
abbrev N_wall : List Str := ["k"]
theorem sc_wall : FnScope N_wall ["k"] (defScope s_wall) := ⟨rfl, rfl, rfl, by decide +kernel, rfl, by decide +kernel, by decide +kernel⟩
theorem e0_wall (d0 : D) : env0 N_wall [d0] = [some (false, d0)] := rfl
abbrev NNoTable_init : List Str := ["self", "part", "number"]
theorem scNoTable_init : FnScope NNoTable_init ["self", "part", "number"] (defScope sNoTable_init) := ⟨rfl, rfl, rfl, by decide +kernel, rfl, by decide +kernel, by decide +kernel⟩
theorem e0NoTable_init (d0 d1 d2 : D) : env0 NNoTable_init [d0, d1, d2] = [some (false, d0), some (false, d1), some (false, d2)] := rfl
abbrev NNoGrammar_init : List Str := ["self", "part", "number"]
theorem scNoGrammar_init : FnScope NNoGrammar_init ["self", "part", "number"] (defScope sNoGrammar_init) := ⟨rfl, rfl, rfl, by decide +kernel, rfl, by decide +kernel, by decide +kernel⟩
theorem e0NoGrammar_init (d0 d1 d2 : D) : env0 NNoGrammar_init [d0, d1, d2] = [some (false, d0), some (false, d1), some (false, d2)] := rfl
abbrev NNoCutting_init : List Str := ["self", "kind", "place"]
theorem scNoCutting_init : FnScope NNoCutting_init ["self", "kind", "place"] (defScope sNoCutting_init) := ⟨rfl, rfl, rfl, by decide +kernel, rfl, by decide +kernel, by decide +kernel⟩
theorem e0NoCutting_init (d0 d1 d2 : D) : env0 NNoCutting_init [d0, d1, d2] = [some (false, d0), some (false, d1), some (false, d2)] := rfl
abbrev NNoSign_init : List Str := ["self", "place"]
theorem scNoSign_init : FnScope NNoSign_init ["self", "place"] (defScope sNoSign_init) := ⟨rfl, rfl, rfl, by decide +kernel, rfl, by decide +kernel, by decide +kernel⟩
theorem e0NoSign_init (d0 d1 : D) : env0 NNoSign_init [d0, d1] = [some (false, d0), some (false, d1)] := rfl
abbrev NNoPiece_init : List Str := ["self", "place"]
theorem scNoPiece_init : FnScope NNoPiece_init ["self", "place"] (defScope sNoPiece_init) := ⟨rfl, rfl, rfl, by decide +kernel, rfl, by decide +kernel, by decide +kernel⟩
theorem e0NoPiece_init (d0 d1 : D) : env0 NNoPiece_init [d0, d1] = [some (false, d0), some (false, d1)] := rfl
abbrev NNoNumber_init : List Str := ["self", "place"]
theorem scNoNumber_init : FnScope NNoNumber_init ["self", "place"] (defScope sNoNumber_init) := ⟨rfl, rfl, rfl, by decide +kernel, rfl, by decide +kernel, by decide +kernel⟩
theorem e0NoNumber_init (d0 d1 : D) : env0 NNoNumber_init [d0, d1] = [some (false, d0), some (false, d1)] := rfl
abbrev Nis_whole : List Str := ["thing"]
theorem scis_whole : FnScope Nis_whole ["thing"] (defScope sis_whole) := ⟨rfl, rfl, rfl, by decide +kernel, rfl, by decide +kernel, by decide +kernel⟩
theorem e0is_whole (d0 : D) : env0 Nis_whole [d0] = [some (false, d0)] := rfl
abbrev Nwhat_is_wrong : List Str := ["follows", "thing", "table", "place", "piece"]
theorem scwhat_is_wrong : FnScope Nwhat_is_wrong ["follows", "thing"] (defScope swhat_is_wrong) := ⟨rfl, rfl, rfl, by decide +kernel, rfl, by decide +kernel, by decide +kernel⟩
theorem e0what_is_wrong (d0 d1 : D) : env0 Nwhat_is_wrong [d0, d1] = [some (false, d0), some (false, d1), none, none, none] := rfl
abbrev Nlook_at_cutting : List Str := ["follows", "thing", "wrong"]
theorem sclook_at_cutting : FnScope Nlook_at_cutting ["follows", "thing"] (defScope slook_at_cutting) := ⟨rfl, rfl, rfl, by decide +kernel, rfl, by decide +kernel, by decide +kernel⟩
theorem e0look_at_cutting (d0 d1 : D) : env0 Nlook_at_cutting [d0, d1] = [some (false, d0), some (false, d1), none] := rfl
abbrev Nsteps_behind : List Str := ["follows", "grammar", "node", "state", "last", "some", "found", "piece", "then"]
theorem scsteps_behind : FnScope Nsteps_behind ["follows", "grammar", "node"] (defScope ssteps_behind) := ⟨rfl, rfl, rfl, by decide +kernel, rfl, by decide +kernel, by decide +kernel⟩
theorem e0steps_behind (d0 d1 d2 : D) : env0 Nsteps_behind [d0, d1, d2] = [some (false, d0), some (false, d1), some (false, d2), none, none, none, none, none, none] := rfl
abbrev Nall_steps : List Str := ["follows", "grammar", "found", "state", "last"]
theorem scall_steps : FnScope Nall_steps ["follows", "grammar"] (defScope sall_steps) := ⟨rfl, rfl, rfl, by decide +kernel, rfl, by decide +kernel, by decide +kernel⟩
theorem e0all_steps (d0 d1 : D) : env0 Nall_steps [d0, d1] = [some (false, d0), some (false, d1), none, none, none] := rfl
abbrev Nmany_from : List Str := ["before", "ways", "left", "node", "many", "piece", "then"]
theorem scmany_from : FnScope Nmany_from ["before", "ways", "left", "node"] (defScope smany_from) := ⟨rfl, rfl, rfl, by decide +kernel, rfl, by decide +kernel, by decide +kernel⟩
theorem e0many_from (d0 d1 d2 d3 : D) : env0 Nmany_from [d0, d1, d2, d3] = [some (false, d0), some (false, d1), some (false, d2), some (false, d3), none, none, none] := rfl
abbrev Nways_by_signs : List Str := ["grammar", "ways", "signs", "ends", "found", "node", "left", "some", "many", "'first"]
theorem scways_by_signs : FnScope Nways_by_signs ["grammar", "ways", "signs"] (defScope sways_by_signs) := ⟨rfl, rfl, rfl, by decide +kernel, rfl, by decide +kernel, by decide +kernel⟩
theorem e0ways_by_signs (d0 d1 d2 : D) : env0 Nways_by_signs [d0, d1, d2] = [some (false, d0), some (false, d1), some (false, d2), none, none, none, none, none, none, none] := rfl
abbrev Nhow_many : List Str := ["follows", "grammar", "signs"]
theorem schow_many : FnScope Nhow_many ["follows", "grammar", "signs"] (defScope show_many) := ⟨rfl, rfl, rfl, by decide +kernel, rfl, by decide +kernel, by decide +kernel⟩
theorem e0how_many (d0 d1 d2 : D) : env0 Nhow_many [d0, d1, d2] = [some (false, d0), some (false, d1), some (false, d2)] := rfl
abbrev Ncutting_of : List Str := ["follows", "grammar", "signs", "number", "ways", "many", "node", "left", "found", "steps_on", "k", "here", "piece", "step"]
theorem sccutting_of : FnScope Ncutting_of ["follows", "grammar", "signs", "number"] (defScope scutting_of) := ⟨rfl, rfl, rfl, by decide +kernel, rfl, by decide +kernel, by decide +kernel⟩
theorem e0cutting_of (d0 d1 d2 d3 : D) : env0 Ncutting_of [d0, d1, d2, d3] = [some (false, d0), some (false, d1), some (false, d2), some (false, d3), none, none, none, none, none, none, none, none, none, none] := rfl
abbrev Nnumber_of : List Str := ["follows", "grammar", "row", "text", "ways", "many", "node", "left", "number", "one", "steps_on", "piece", "then", "step"]
theorem scnumber_of : FnScope Nnumber_of ["follows", "grammar", "row"] (defScope snumber_of) := ⟨rfl, rfl, rfl, by decide +kernel, rfl, by decide +kernel, by decide +kernel⟩
theorem e0number_of (d0 d1 d2 : D) : env0 Nnumber_of [d0, d1, d2] = [some (false, d0), some (false, d1), some (false, d2), none, none, none, none, none, none, none, none, none, none, none] := rfl
abbrev Nlook_at_piece : List Str := ["table", "piece"]
theorem sclook_at_piece : FnScope Nlook_at_piece ["table", "piece"] (defScope slook_at_piece) := ⟨rfl, rfl, rfl, by decide +kernel, rfl, by decide +kernel, by decide +kernel⟩
theorem e0look_at_piece (d0 d1 : D) : env0 Nlook_at_piece [d0, d1] = [some (false, d0), some (false, d1)] := rfl
abbrev Nedge : List Str := ["table", "piece", "side", "found", "parts"]
theorem scedge : FnScope Nedge ["table", "piece", "side"] (defScope sedge) := ⟨rfl, rfl, rfl, by decide +kernel, rfl, by decide +kernel, by decide +kernel⟩
theorem e0edge (d0 d1 d2 : D) : env0 Nedge [d0, d1, d2] = [some (false, d0), some (false, d1), some (false, d2), none, none] := rfl
abbrev Nown_rank : List Str := ["table", "piece"]
theorem scown_rank : FnScope Nown_rank ["table", "piece"] (defScope sown_rank) := ⟨rfl, rfl, rfl, by decide +kernel, rfl, by decide +kernel, by decide +kernel⟩
theorem e0own_rank (d0 d1 : D) : env0 Nown_rank [d0, d1] = [some (false, d0), some (false, d1)] := rfl
abbrev Njoined_over : List Str := ["table", "one", "other", "found", "before", "x", "behind", "y", "rank"]
theorem scjoined_over : FnScope Njoined_over ["table", "one", "other"] (defScope sjoined_over) := ⟨rfl, rfl, rfl, by decide +kernel, rfl, by decide +kernel, by decide +kernel⟩
theorem e0joined_over (d0 d1 d2 : D) : env0 Njoined_over [d0, d1, d2] = [some (false, d0), some (false, d1), some (false, d2), none, none, none, none, none, none] := rfl
abbrev Nstands_alone : List Str := ["table", "piece", "parts"]
theorem scstands_alone : FnScope Nstands_alone ["table", "piece"] (defScope sstands_alone) := ⟨rfl, rfl, rfl, by decide +kernel, rfl, by decide +kernel, by decide +kernel⟩
theorem e0stands_alone (d0 d1 : D) : env0 Nstands_alone [d0, d1] = [some (false, d0), some (false, d1), none] := rfl
abbrev NFollows_init : List Str := ["self", "table", "piece", "'alone", "'truths"]
theorem scFollows_init : FnScope NFollows_init ["self", "table"] (defScope sFollows_init) := ⟨rfl, rfl, rfl, by decide +kernel, rfl, by decide +kernel, by decide +kernel⟩
theorem e0Follows_init (d0 d1 : D) : env0 NFollows_init [d0, d1] = [some (false, d0), some (false, d1), none, none, none] := rfl
abbrev NFollows_table : List Str := ["self"]
theorem scFollows_table : FnScope NFollows_table ["self"] (defScope sFollows_table) := ⟨rfl, rfl, rfl, by decide +kernel, rfl, by decide +kernel, by decide +kernel⟩
theorem e0Follows_table (d0 : D) : env0 NFollows_table [d0] = [some (false, d0)] := rfl
abbrev NFollows_is_alone : List Str := ["self", "piece"]
theorem scFollows_is_alone : FnScope NFollows_is_alone ["self", "piece"] (defScope sFollows_is_alone) := ⟨rfl, rfl, rfl, by decide +kernel, rfl, by decide +kernel, by decide +kernel⟩
theorem e0Follows_is_alone (d0 d1 : D) : env0 NFollows_is_alone [d0, d1] = [some (false, d0), some (false, d1)] := rfl
abbrev NFollows_fits : List Str := ["self", "left", "right"]
theorem scFollows_fits : FnScope NFollows_fits ["self", "left", "right"] (defScope sFollows_fits) := ⟨rfl, rfl, rfl, by decide +kernel, rfl, by decide +kernel, by decide +kernel⟩
theorem e0Follows_fits (d0 d1 d2 : D) : env0 NFollows_fits [d0, d1, d2] = [some (false, d0), some (false, d1), some (false, d2)] := rfl
abbrev NFollows_alone : List Str := ["self", "piece"]
theorem scFollows_alone : FnScope NFollows_alone ["self"] (defScope sFollows_alone) := ⟨rfl, rfl, rfl, by decide +kernel, rfl, by decide +kernel, by decide +kernel⟩
theorem e0Follows_alone (d0 : D) : env0 NFollows_alone [d0] = [some (false, d0), none] := rfl
abbrev NFollows_after : List Str := ["self", "piece", "other"]
theorem scFollows_after : FnScope NFollows_after ["self", "piece"] (defScope sFollows_after) := ⟨rfl, rfl, rfl, by decide +kernel, rfl, by decide +kernel, by decide +kernel⟩
theorem e0Follows_after (d0 d1 : D) : env0 NFollows_after [d0, d1] = [some (false, d0), some (false, d1), none] := rfl
abbrev NFollows_ahead : List Str := ["self", "piece"]
theorem scFollows_ahead : FnScope NFollows_ahead ["self", "piece"] (defScope sFollows_ahead) := ⟨rfl, rfl, rfl, by decide +kernel, rfl, by decide +kernel, by decide +kernel⟩
theorem e0Follows_ahead (d0 d1 : D) : env0 NFollows_ahead [d0, d1] = [some (false, d0), some (false, d1)] := rfl
abbrev NFollows_may : List Str := ["self", "left", "right"]
theorem scFollows_may : FnScope NFollows_may ["self", "left", "right"] (defScope sFollows_may) := ⟨rfl, rfl, rfl, by decide +kernel, rfl, by decide +kernel, by decide +kernel⟩
theorem e0Follows_may (d0 d1 d2 : D) : env0 NFollows_may [d0, d1, d2] = [some (false, d0), some (false, d1), some (false, d2)] := rfl
abbrev Nis_sign : List Str := ["thing"]
theorem scis_sign : FnScope Nis_sign ["thing"] (defScope sis_sign) := ⟨rfl, rfl, rfl, by decide +kernel, rfl, by decide +kernel, by decide +kernel⟩
theorem e0is_sign (d0 : D) : env0 Nis_sign [d0] = [some (false, d0)] := rfl
abbrev Nlook_at_signs : List Str := ["signs", "place", "sign"]
theorem sclook_at_signs : FnScope Nlook_at_signs ["signs"] (defScope slook_at_signs) := ⟨rfl, rfl, rfl, by decide +kernel, rfl, by decide +kernel, by decide +kernel⟩
theorem e0look_at_signs (d0 : D) : env0 Nlook_at_signs [d0] = [some (false, d0), none, none] := rfl
abbrev Nis_row : List Str := ["by_text", "thing", "left", "right"]
theorem scis_row : FnScope Nis_row ["by_text", "thing"] (defScope sis_row) := ⟨rfl, rfl, rfl, by decide +kernel, rfl, by decide +kernel, by decide +kernel⟩
theorem e0is_row (d0 d1 : D) : env0 Nis_row [d0, d1] = [some (false, d0), some (false, d1), none, none] := rfl
abbrev NTable_init : List Str := ["self", "signs", "rows", "number", "sign", "rank", "row", "'by_text", "'by_pair"]
theorem scTable_init : FnScope NTable_init ["self", "signs", "rows"] (defScope sTable_init) := ⟨rfl, rfl, rfl, by decide +kernel, rfl, by decide +kernel, by decide +kernel⟩
theorem e0Table_init (d0 d1 d2 : D) : env0 NTable_init [d0, d1, d2] = [some (false, d0), some (false, d1), some (false, d2), none, none, none, none, none, none] := rfl
abbrev NTable_signs : List Str := ["self"]
theorem scTable_signs : FnScope NTable_signs ["self"] (defScope sTable_signs) := ⟨rfl, rfl, rfl, by decide +kernel, rfl, by decide +kernel, by decide +kernel⟩
theorem e0Table_signs (d0 : D) : env0 NTable_signs [d0] = [some (false, d0)] := rfl
abbrev NTable_rows : List Str := ["self"]
theorem scTable_rows : FnScope NTable_rows ["self"] (defScope sTable_rows) := ⟨rfl, rfl, rfl, by decide +kernel, rfl, by decide +kernel, by decide +kernel⟩
theorem e0Table_rows (d0 : D) : env0 NTable_rows [d0] = [some (false, d0)] := rfl
abbrev NTable_pieces : List Str := ["self"]
theorem scTable_pieces : FnScope NTable_pieces ["self"] (defScope sTable_pieces) := ⟨rfl, rfl, rfl, by decide +kernel, rfl, by decide +kernel, by decide +kernel⟩
theorem e0Table_pieces (d0 : D) : env0 NTable_pieces [d0] = [some (false, d0)] := rfl
abbrev NTable_which : List Str := ["self", "thing"]
theorem scTable_which : FnScope NTable_which ["self", "thing"] (defScope sTable_which) := ⟨rfl, rfl, rfl, by decide +kernel, rfl, by decide +kernel, by decide +kernel⟩
theorem e0Table_which (d0 d1 : D) : env0 NTable_which [d0, d1] = [some (false, d0), some (false, d1)] := rfl
abbrev NTable_piece : List Str := ["self", "number"]
theorem scTable_piece : FnScope NTable_piece ["self", "number"] (defScope sTable_piece) := ⟨rfl, rfl, rfl, by decide +kernel, rfl, by decide +kernel, by decide +kernel⟩
theorem e0Table_piece (d0 d1 : D) : env0 NTable_piece [d0, d1] = [some (false, d0), some (false, d1)] := rfl
abbrev NTable_parts : List Str := ["self", "piece", "number"]
theorem scTable_parts : FnScope NTable_parts ["self", "piece"] (defScope sTable_parts) := ⟨rfl, rfl, rfl, by decide +kernel, rfl, by decide +kernel, by decide +kernel⟩
theorem e0Table_parts (d0 d1 : D) : env0 NTable_parts [d0, d1] = [some (false, d0), some (false, d1), none] := rfl
abbrev NTable_rank : List Str := ["self", "left", "right"]
theorem scTable_rank : FnScope NTable_rank ["self", "left", "right"] (defScope sTable_rank) := ⟨rfl, rfl, rfl, by decide +kernel, rfl, by decide +kernel, by decide +kernel⟩
theorem e0Table_rank (d0 d1 d2 : D) : env0 NTable_rank [d0, d1, d2] = [some (false, d0), some (false, d1), some (false, d2)] := rfl
abbrev NTable_longest : List Str := ["self"]
theorem scTable_longest : FnScope NTable_longest ["self"] (defScope sTable_longest) := ⟨rfl, rfl, rfl, by decide +kernel, rfl, by decide +kernel, by decide +kernel⟩
theorem e0Table_longest (d0 : D) : env0 NTable_longest [d0] = [some (false, d0)] := rfl
abbrev Nis_state : List Str := ["many", "thing"]
theorem scis_state : FnScope Nis_state ["many", "thing"] (defScope sis_state) := ⟨rfl, rfl, rfl, by decide +kernel, rfl, by decide +kernel, by decide +kernel⟩
theorem e0is_state (d0 d1 : D) : env0 Nis_state [d0, d1] = [some (false, d0), some (false, d1)] := rfl
abbrev Nis_way : List Str := ["many", "thing"]
theorem scis_way : FnScope Nis_way ["many", "thing"] (defScope sis_way) := ⟨rfl, rfl, rfl, by decide +kernel, rfl, by decide +kernel, by decide +kernel⟩
theorem e0is_way (d0 d1 : D) : env0 Nis_way [d0, d1] = [some (false, d0), some (false, d1)] := rfl
abbrev NGrammar_init : List Str := ["self", "many", "ways", "ends", "number", "way", "end", "'by"]
theorem scGrammar_init : FnScope NGrammar_init ["self", "many", "ways", "ends"] (defScope sGrammar_init) := ⟨rfl, rfl, rfl, by decide +kernel, rfl, by decide +kernel, by decide +kernel⟩
theorem e0Grammar_init (d0 d1 d2 d3 : D) : env0 NGrammar_init [d0, d1, d2, d3] = [some (false, d0), some (false, d1), some (false, d2), some (false, d3), none, none, none, none] := rfl
abbrev NGrammar_many : List Str := ["self"]
theorem scGrammar_many : FnScope NGrammar_many ["self"] (defScope sGrammar_many) := ⟨rfl, rfl, rfl, by decide +kernel, rfl, by decide +kernel, by decide +kernel⟩
theorem e0Grammar_many (d0 : D) : env0 NGrammar_many [d0] = [some (false, d0)] := rfl
abbrev NGrammar_ways : List Str := ["self"]
theorem scGrammar_ways : FnScope NGrammar_ways ["self"] (defScope sGrammar_ways) := ⟨rfl, rfl, rfl, by decide +kernel, rfl, by decide +kernel, by decide +kernel⟩
theorem e0Grammar_ways (d0 : D) : env0 NGrammar_ways [d0] = [some (false, d0)] := rfl
abbrev NGrammar_ends : List Str := ["self"]
theorem scGrammar_ends : FnScope NGrammar_ends ["self"] (defScope sGrammar_ends) := ⟨rfl, rfl, rfl, by decide +kernel, rfl, by decide +kernel, by decide +kernel⟩
theorem e0Grammar_ends (d0 : D) : env0 NGrammar_ends [d0] = [some (false, d0)] := rfl
abbrev NGrammar_leads : List Str := ["self", "state", "text", "found", "sign"]
theorem scGrammar_leads : FnScope NGrammar_leads ["self", "state", "text"] (defScope sGrammar_leads) := ⟨rfl, rfl, rfl, by decide +kernel, rfl, by decide +kernel, by decide +kernel⟩
theorem e0Grammar_leads (d0 d1 d2 : D) : env0 NGrammar_leads [d0, d1, d2] = [some (false, d0), some (false, d1), some (false, d2), none, none] := rfl
abbrev NGrammar_tells : List Str := ["self", "text", "found"]
theorem scGrammar_tells : FnScope NGrammar_tells ["self", "text"] (defScope sGrammar_tells) := ⟨rfl, rfl, rfl, by decide +kernel, rfl, by decide +kernel, by decide +kernel⟩
theorem e0Grammar_tells (d0 d1 : D) : env0 NGrammar_tells [d0, d1] = [some (false, d0), some (false, d1), none] := rfl
abbrev N_law_cell_at : List Str := ["_law_script", "_law_k"]
theorem sc_law_cell_at : FnScope N_law_cell_at ["_law_script", "_law_k"] (defScope s_law_cell_at) := ⟨rfl, rfl, rfl, by decide +kernel, rfl, by decide +kernel, by decide +kernel⟩
theorem e0_law_cell_at (d0 d1 : D) : env0 N_law_cell_at [d0, d1] = [some (false, d0), some (false, d1)] := rfl
abbrev N_law_numbers : List Str := ["_law_cell", "_law_salt", "_law_sizes", "_law_number", "_law_left", "_law_found", "_law_k", "_law_one"]
theorem sc_law_numbers : FnScope N_law_numbers ["_law_cell", "_law_salt", "_law_sizes"] (defScope s_law_numbers) := ⟨rfl, rfl, rfl, by decide +kernel, rfl, by decide +kernel, by decide +kernel⟩
theorem e0_law_numbers (d0 d1 d2 : D) : env0 N_law_numbers [d0, d1, d2] = [some (false, d0), some (false, d1), some (false, d2), none, none, none, none, none] := rfl
abbrev N_law_signs : List Str := ["_law_digits", "_law_some", "_law_signs_here", "_law_digit", "_law_turned", "_law_sign"]
theorem sc_law_signs : FnScope N_law_signs ["_law_digits"] (defScope s_law_signs) := ⟨rfl, rfl, rfl, by decide +kernel, rfl, by decide +kernel, by decide +kernel⟩
theorem e0_law_signs (d0 : D) : env0 N_law_signs [d0] = [some (false, d0), none, none, none, none, none] := rfl
abbrev N_law_rows : List Str := ["_law_signs_here", "_law_digits", "_law_pieces", "_law_rows_here", "_law_k", "_law_one", "_law_other"]
theorem sc_law_rows : FnScope N_law_rows ["_law_signs_here", "_law_digits"] (defScope s_law_rows) := ⟨rfl, rfl, rfl, by decide +kernel, rfl, by decide +kernel, by decide +kernel⟩
theorem e0_law_rows (d0 d1 : D) : env0 N_law_rows [d0, d1] = [some (false, d0), some (false, d1), none, none, none, none, none] := rfl
abbrev N_law_cut : List Str := ["_law_rows_here", "_law_text", "_law_row", "_law_left", "_law_right", "_law_found", "_law_piece"]
theorem sc_law_cut : FnScope N_law_cut ["_law_rows_here", "_law_text"] (defScope s_law_cut) := ⟨rfl, rfl, rfl, by decide +kernel, rfl, by decide +kernel, by decide +kernel⟩
theorem e0_law_cut (d0 d1 : D) : env0 N_law_cut [d0, d1] = [some (false, d0), some (false, d1), none, none, none, none, none] := rfl
abbrev N_law_ways : List Str := ["_law_script", "_law_many", "_law_signs_here", "_law_ways_here", "_law_state", "_law_k", "_law_sign", "_law_place", "_law_digits"]
theorem sc_law_ways : FnScope N_law_ways ["_law_script", "_law_many", "_law_signs_here"] (defScope s_law_ways) := ⟨rfl, rfl, rfl, by decide +kernel, rfl, by decide +kernel, by decide +kernel⟩
theorem e0_law_ways (d0 d1 d2 : D) : env0 N_law_ways [d0, d1, d2] = [some (false, d0), some (false, d1), some (false, d2), none, none, none, none, none, none] := rfl
abbrev N_law_counted : List Str := ["_law_many", "_law_ways_here", "_law_ends", "_law_size", "_law_found", "_law_turn", "_law_longer", "_law_state", "_law_sign", "_law_then"]
theorem sc_law_counted : FnScope N_law_counted ["_law_many", "_law_ways_here", "_law_ends", "_law_size"] (defScope s_law_counted) := ⟨rfl, rfl, rfl, by decide +kernel, rfl, by decide +kernel, by decide +kernel⟩
theorem e0_law_counted (d0 d1 d2 d3 : D) : env0 N_law_counted [d0, d1, d2, d3] = [some (false, d0), some (false, d1), some (false, d2), some (false, d3), none, none, none, none, none, none] := rfl
abbrev N_law_tells : List Str := ["_law_ways_here", "_law_ends", "_law_text", "_law_state", "_law_sign", "_law_some", "_law_before", "_law_by", "_law_then"]
theorem sc_law_tells : FnScope N_law_tells ["_law_ways_here", "_law_ends", "_law_text"] (defScope s_law_tells) := ⟨rfl, rfl, rfl, by decide +kernel, rfl, by decide +kernel, by decide +kernel⟩
theorem e0_law_tells (d0 d1 d2 : D) : env0 N_law_tells [d0, d1, d2] = [some (false, d0), some (false, d1), some (false, d2), none, none, none, none, none, none] := rfl
abbrev Nlaw : List Str := ["_law_script", "_law_head", "_law_signs_here", "_law_rows_here", "_law_pieces", "_law_digits", "_law_many", "_law_ends", "_law_ways_here", "_law_grammar", "_law_follows", "_law_total", "_law_told", "_law_number", "_law_row", "_law_text", "_law_left", "_law_right", "_law_state", "_law_piece"]
theorem sclaw : FnScope Nlaw ["_law_script"] (defScope slaw) := ⟨rfl, rfl, rfl, by decide +kernel, rfl, by decide +kernel, by decide +kernel⟩
theorem e0law (d0 : D) : env0 Nlaw [d0] = [some (false, d0), none, none, none, none, none, none, none, none, none, none, none, none, none, none, none, none, none, none, none] := rfl
/-- what the top says -/
structure Txt (K : PySem.W.Frag) (mg : Str → Option Value) : Prop where
  g_wall : mg "_wall" = some (.ref (He.ga K "_wall"))
  gJoinError : mg "JoinError" = some (.ref (He.ga K "JoinError"))
  gNoTable : mg "NoTable" = some (.ref (He.ga K "NoTable"))
  gNoGrammar : mg "NoGrammar" = some (.ref (He.ga K "NoGrammar"))
  gNoCutting : mg "NoCutting" = some (.ref (He.ga K "NoCutting"))
  gNoSign : mg "NoSign" = some (.ref (He.ga K "NoSign"))
  gNoPiece : mg "NoPiece" = some (.ref (He.ga K "NoPiece"))
  gNoNumber : mg "NoNumber" = some (.ref (He.ga K "NoNumber"))
  gNoPlace : mg "NoPlace" = some (.ref (He.ga K "NoPlace"))
  gis_whole : mg "is_whole" = some (.ref (He.ga K "is_whole"))
  gwhat_is_wrong : mg "what_is_wrong" = some (.ref (He.ga K "what_is_wrong"))
  glook_at_cutting : mg "look_at_cutting" = some (.ref (He.ga K "look_at_cutting"))
  gsteps_behind : mg "steps_behind" = some (.ref (He.ga K "steps_behind"))
  gall_steps : mg "all_steps" = some (.ref (He.ga K "all_steps"))
  gmany_from : mg "many_from" = some (.ref (He.ga K "many_from"))
  gways_by_signs : mg "ways_by_signs" = some (.ref (He.ga K "ways_by_signs"))
  ghow_many : mg "how_many" = some (.ref (He.ga K "how_many"))
  gcutting_of : mg "cutting_of" = some (.ref (He.ga K "cutting_of"))
  gnumber_of : mg "number_of" = some (.ref (He.ga K "number_of"))
  glook_at_piece : mg "look_at_piece" = some (.ref (He.ga K "look_at_piece"))
  gedge : mg "edge" = some (.ref (He.ga K "edge"))
  gown_rank : mg "own_rank" = some (.ref (He.ga K "own_rank"))
  gjoined_over : mg "joined_over" = some (.ref (He.ga K "joined_over"))
  gstands_alone : mg "stands_alone" = some (.ref (He.ga K "stands_alone"))
  gFollows : mg "Follows" = some (.ref (He.ga K "Follows"))
  gis_sign : mg "is_sign" = some (.ref (He.ga K "is_sign"))
  glook_at_signs : mg "look_at_signs" = some (.ref (He.ga K "look_at_signs"))
  gis_row : mg "is_row" = some (.ref (He.ga K "is_row"))
  gTable : mg "Table" = some (.ref (He.ga K "Table"))
  gis_state : mg "is_state" = some (.ref (He.ga K "is_state"))
  gis_way : mg "is_way" = some (.ref (He.ga K "is_way"))
  gGrammar : mg "Grammar" = some (.ref (He.ga K "Grammar"))
  g_law_cell_at : mg "_law_cell_at" = some (.ref (He.ga K "_law_cell_at"))
  g_law_numbers : mg "_law_numbers" = some (.ref (He.ga K "_law_numbers"))
  g_law_signs : mg "_law_signs" = some (.ref (He.ga K "_law_signs"))
  g_law_rows : mg "_law_rows" = some (.ref (He.ga K "_law_rows"))
  g_law_cut : mg "_law_cut" = some (.ref (He.ga K "_law_cut"))
  g_law_ways : mg "_law_ways" = some (.ref (He.ga K "_law_ways"))
  g_law_counted : mg "_law_counted" = some (.ref (He.ga K "_law_counted"))
  g_law_tells : mg "_law_tells" = some (.ref (He.ga K "_law_tells"))
  glaw : mg "law" = some (.ref (He.ga K "law"))
  zisinstance : mg "isinstance" = none
  zint : mg "int" = none
  zbool : mg "bool" = none
  zenumerate : mg "enumerate" = none
  zrange : mg "range" = none
  zlist : mg "list" = none
  zlen : mg "len" = none
  zstr : mg "str" = none
  ztuple : mg "tuple" = none
  zmax : mg "max" = none
  zsorted : mg "sorted" = none
  zmin : mg "min" = none
  cSIGNS : ∃ t, mg "SIGNS" = some (.str " !\"#$&'()*+,-./0123456789:;<=>?@ABCDEFGHIJKLMNOPQRSTUVWXYZ[\\]^_`abcdefghijklmnopqrstuvwxyz{|}~" t)
  cMOST_SIGNS : ∃ t, mg "MOST_SIGNS" = some (.int 12 t)
  cMOST_LENGTH : ∃ t, mg "MOST_LENGTH" = some (.int 16 t)
  cMOST_ROWS : ∃ t, mg "MOST_ROWS" = some (.int 24 t)
  cMOST_WAYS : ∃ t, mg "MOST_WAYS" = some (.int 48 t)
  cMOST_STATES : ∃ t, mg "MOST_STATES" = some (.int 4 t)
  mNoTable : PySem.W.findIn K (.ref (He.ga K "NoTable")) "__init__" = some (some (.ref (He.ma K (He.ga K "NoTable") "__init__")))
  nNoTable_part : PySem.W.findIn K (.ref (He.ga K "NoTable")) "part" = some none
  nNoTable_number : PySem.W.findIn K (.ref (He.ga K "NoTable")) "number" = some none
  mNoGrammar : PySem.W.findIn K (.ref (He.ga K "NoGrammar")) "__init__" = some (some (.ref (He.ma K (He.ga K "NoGrammar") "__init__")))
  nNoGrammar_part : PySem.W.findIn K (.ref (He.ga K "NoGrammar")) "part" = some none
  nNoGrammar_number : PySem.W.findIn K (.ref (He.ga K "NoGrammar")) "number" = some none
  mNoCutting : PySem.W.findIn K (.ref (He.ga K "NoCutting")) "__init__" = some (some (.ref (He.ma K (He.ga K "NoCutting") "__init__")))
  nNoCutting_kind : PySem.W.findIn K (.ref (He.ga K "NoCutting")) "kind" = some none
  nNoCutting_place : PySem.W.findIn K (.ref (He.ga K "NoCutting")) "place" = some none
  mNoSign : PySem.W.findIn K (.ref (He.ga K "NoSign")) "__init__" = some (some (.ref (He.ma K (He.ga K "NoSign") "__init__")))
  nNoSign_place : PySem.W.findIn K (.ref (He.ga K "NoSign")) "place" = some none
  mNoPiece : PySem.W.findIn K (.ref (He.ga K "NoPiece")) "__init__" = some (some (.ref (He.ma K (He.ga K "NoPiece") "__init__")))
  nNoPiece_place : PySem.W.findIn K (.ref (He.ga K "NoPiece")) "place" = some none
  mNoNumber : PySem.W.findIn K (.ref (He.ga K "NoNumber")) "__init__" = some (some (.ref (He.ma K (He.ga K "NoNumber") "__init__")))
  nNoNumber_place : PySem.W.findIn K (.ref (He.ga K "NoNumber")) "place" = some none
  kFollows : Cls K (He.ga K "Follows")
  mkFollows : Mk K (He.ga K "Follows") (He.ma K (He.ga K "Follows") "__init__")
  mFollows_table : Meth K (He.ga K "Follows") "table" (He.ma K (He.ga K "Follows") "table")
  mFollows_is_alone : Meth K (He.ga K "Follows") "is_alone" (He.ma K (He.ga K "Follows") "is_alone")
  mFollows_fits : Meth K (He.ga K "Follows") "fits" (He.ma K (He.ga K "Follows") "fits")
  mFollows_alone : Meth K (He.ga K "Follows") "alone" (He.ma K (He.ga K "Follows") "alone")
  mFollows_after : Meth K (He.ga K "Follows") "after" (He.ma K (He.ga K "Follows") "after")
  mFollows_ahead : Meth K (He.ga K "Follows") "ahead" (He.ma K (He.ga K "Follows") "ahead")
  mFollows_may : Meth K (He.ga K "Follows") "may" (He.ma K (He.ga K "Follows") "may")
  nFollows_kept_table : NoAttr K (He.ga K "Follows") "kept_table"
  nFollows_kept_alone : NoAttr K (He.ga K "Follows") "kept_alone"
  nFollows_kept_truths : NoAttr K (He.ga K "Follows") "kept_truths"
  kTable : Cls K (He.ga K "Table")
  mkTable : Mk K (He.ga K "Table") (He.ma K (He.ga K "Table") "__init__")
  mTable_signs : Meth K (He.ga K "Table") "signs" (He.ma K (He.ga K "Table") "signs")
  mTable_rows : Meth K (He.ga K "Table") "rows" (He.ma K (He.ga K "Table") "rows")
  mTable_pieces : Meth K (He.ga K "Table") "pieces" (He.ma K (He.ga K "Table") "pieces")
  mTable_which : Meth K (He.ga K "Table") "which" (He.ma K (He.ga K "Table") "which")
  mTable_piece : Meth K (He.ga K "Table") "piece" (He.ma K (He.ga K "Table") "piece")
  mTable_parts : Meth K (He.ga K "Table") "parts" (He.ma K (He.ga K "Table") "parts")
  mTable_rank : Meth K (He.ga K "Table") "rank" (He.ma K (He.ga K "Table") "rank")
  mTable_longest : Meth K (He.ga K "Table") "longest" (He.ma K (He.ga K "Table") "longest")
  nTable_kept_signs : NoAttr K (He.ga K "Table") "kept_signs"
  nTable_by_text : NoAttr K (He.ga K "Table") "by_text"
  nTable_by_pair : NoAttr K (He.ga K "Table") "by_pair"
  nTable_kept_rows : NoAttr K (He.ga K "Table") "kept_rows"
  nTable_kept_pieces : NoAttr K (He.ga K "Table") "kept_pieces"
  kGrammar : Cls K (He.ga K "Grammar")
  mkGrammar : Mk K (He.ga K "Grammar") (He.ma K (He.ga K "Grammar") "__init__")
  mGrammar_many : Meth K (He.ga K "Grammar") "many" (He.ma K (He.ga K "Grammar") "many")
  mGrammar_ways : Meth K (He.ga K "Grammar") "ways" (He.ma K (He.ga K "Grammar") "ways")
  mGrammar_ends : Meth K (He.ga K "Grammar") "ends" (He.ma K (He.ga K "Grammar") "ends")
  mGrammar_leads : Meth K (He.ga K "Grammar") "leads" (He.ma K (He.ga K "Grammar") "leads")
  mGrammar_tells : Meth K (He.ga K "Grammar") "tells" (He.ma K (He.ga K "Grammar") "tells")
  nGrammar_kept_by : NoAttr K (He.ga K "Grammar") "kept_by"
  nGrammar_kept_many : NoAttr K (He.ga K "Grammar") "kept_many"
  nGrammar_kept_ways : NoAttr K (He.ga K "Grammar") "kept_ways"
  nGrammar_kept_ends : NoAttr K (He.ga K "Grammar") "kept_ends"
  oJoinError : OexC K (He.ga K "JoinError")
  oNoTable : OexC K (He.ga K "NoTable")
  wNoTable : PySem.W.typeIn K (.ref (He.ma K (He.ga K "NoTable") "__init__")) = some (.type "function")
  xNoTable : XfC K (He.ga K "NoTable")
  oNoGrammar : OexC K (He.ga K "NoGrammar")
  wNoGrammar : PySem.W.typeIn K (.ref (He.ma K (He.ga K "NoGrammar") "__init__")) = some (.type "function")
  xNoGrammar : XfC K (He.ga K "NoGrammar")
  oNoCutting : OexC K (He.ga K "NoCutting")
  wNoCutting : PySem.W.typeIn K (.ref (He.ma K (He.ga K "NoCutting") "__init__")) = some (.type "function")
  xNoCutting : XfC K (He.ga K "NoCutting")
  oNoSign : OexC K (He.ga K "NoSign")
  wNoSign : PySem.W.typeIn K (.ref (He.ma K (He.ga K "NoSign") "__init__")) = some (.type "function")
  xNoSign : XfC K (He.ga K "NoSign")
  oNoPiece : OexC K (He.ga K "NoPiece")
  wNoPiece : PySem.W.typeIn K (.ref (He.ma K (He.ga K "NoPiece") "__init__")) = some (.type "function")
  xNoPiece : XfC K (He.ga K "NoPiece")
  oNoNumber : OexC K (He.ga K "NoNumber")
  wNoNumber : PySem.W.typeIn K (.ref (He.ma K (He.ga K "NoNumber") "__init__")) = some (.type "function")
  xNoNumber : XfC K (He.ga K "NoNumber")
  oNoPlace : OexC K (He.ga K "NoPlace")
  tNoPlace : PySem.W.excIn K (He.ga K "NoPlace") [.type "ValueError", .type "Exception", .type "BaseException", .type "object"] "ValueError.__new__" = true
  jin : JIn K (He.ga K "JoinError")
  d_wall : ∃ fd, FunD K "_wall" "_wall" (defArgs s_wall) (defBody s_wall) (defScope s_wall) [] [] (He.fAd K ("_wall", none)) fd
  dNoTable_init : ∃ fd, FunD K "__init__" "NoTable.__init__" (defArgs sNoTable_init) (defBody sNoTable_init) (defScope sNoTable_init) [] [] (He.fAd K ("NoTable", some "__init__")) fd
  dNoGrammar_init : ∃ fd, FunD K "__init__" "NoGrammar.__init__" (defArgs sNoGrammar_init) (defBody sNoGrammar_init) (defScope sNoGrammar_init) [] [] (He.fAd K ("NoGrammar", some "__init__")) fd
  dNoCutting_init : ∃ fd, FunD K "__init__" "NoCutting.__init__" (defArgs sNoCutting_init) (defBody sNoCutting_init) (defScope sNoCutting_init) [] [] (He.fAd K ("NoCutting", some "__init__")) fd
  dNoSign_init : ∃ fd, FunD K "__init__" "NoSign.__init__" (defArgs sNoSign_init) (defBody sNoSign_init) (defScope sNoSign_init) [] [] (He.fAd K ("NoSign", some "__init__")) fd
  dNoPiece_init : ∃ fd, FunD K "__init__" "NoPiece.__init__" (defArgs sNoPiece_init) (defBody sNoPiece_init) (defScope sNoPiece_init) [] [] (He.fAd K ("NoPiece", some "__init__")) fd
  dNoNumber_init : ∃ fd, FunD K "__init__" "NoNumber.__init__" (defArgs sNoNumber_init) (defBody sNoNumber_init) (defScope sNoNumber_init) [] [] (He.fAd K ("NoNumber", some "__init__")) fd
  dis_whole : ∃ fd, FunD K "is_whole" "is_whole" (defArgs sis_whole) (defBody sis_whole) (defScope sis_whole) [] [] (He.fAd K ("is_whole", none)) fd
  dwhat_is_wrong : ∃ fd, FunD K "what_is_wrong" "what_is_wrong" (defArgs swhat_is_wrong) (defBody swhat_is_wrong) (defScope swhat_is_wrong) [] [] (He.fAd K ("what_is_wrong", none)) fd
  dlook_at_cutting : ∃ fd, FunD K "look_at_cutting" "look_at_cutting" (defArgs slook_at_cutting) (defBody slook_at_cutting) (defScope slook_at_cutting) [] [] (He.fAd K ("look_at_cutting", none)) fd
  dsteps_behind : ∃ fd, FunD K "steps_behind" "steps_behind" (defArgs ssteps_behind) (defBody ssteps_behind) (defScope ssteps_behind) [] [] (He.fAd K ("steps_behind", none)) fd
  dall_steps : ∃ fd, FunD K "all_steps" "all_steps" (defArgs sall_steps) (defBody sall_steps) (defScope sall_steps) [] [] (He.fAd K ("all_steps", none)) fd
  dmany_from : ∃ fd, FunD K "many_from" "many_from" (defArgs smany_from) (defBody smany_from) (defScope smany_from) [] [] (He.fAd K ("many_from", none)) fd
  dways_by_signs : ∃ fd, FunD K "ways_by_signs" "ways_by_signs" (defArgs sways_by_signs) (defBody sways_by_signs) (defScope sways_by_signs) [] [] (He.fAd K ("ways_by_signs", none)) fd
  dhow_many : ∃ fd, FunD K "how_many" "how_many" (defArgs show_many) (defBody show_many) (defScope show_many) [] [] (He.fAd K ("how_many", none)) fd
  dcutting_of : ∃ fd, FunD K "cutting_of" "cutting_of" (defArgs scutting_of) (defBody scutting_of) (defScope scutting_of) [] [] (He.fAd K ("cutting_of", none)) fd
  dnumber_of : ∃ fd, FunD K "number_of" "number_of" (defArgs snumber_of) (defBody snumber_of) (defScope snumber_of) [] [] (He.fAd K ("number_of", none)) fd
  dlook_at_piece : ∃ fd, FunD K "look_at_piece" "look_at_piece" (defArgs slook_at_piece) (defBody slook_at_piece) (defScope slook_at_piece) [] [] (He.fAd K ("look_at_piece", none)) fd
  dedge : ∃ fd, FunD K "edge" "edge" (defArgs sedge) (defBody sedge) (defScope sedge) [] [] (He.fAd K ("edge", none)) fd
  down_rank : ∃ fd, FunD K "own_rank" "own_rank" (defArgs sown_rank) (defBody sown_rank) (defScope sown_rank) [] [] (He.fAd K ("own_rank", none)) fd
  djoined_over : ∃ fd, FunD K "joined_over" "joined_over" (defArgs sjoined_over) (defBody sjoined_over) (defScope sjoined_over) [] [] (He.fAd K ("joined_over", none)) fd
  dstands_alone : ∃ fd, FunD K "stands_alone" "stands_alone" (defArgs sstands_alone) (defBody sstands_alone) (defScope sstands_alone) [] [] (He.fAd K ("stands_alone", none)) fd
  dFollows_init : ∃ fd, FunD K "__init__" "Follows.__init__" (defArgs sFollows_init) (defBody sFollows_init) (defScope sFollows_init) [] [] (He.fAd K ("Follows", some "__init__")) fd
  dFollows_table : ∃ fd, FunD K "table" "Follows.table" (defArgs sFollows_table) (defBody sFollows_table) (defScope sFollows_table) [] [] (He.fAd K ("Follows", some "table")) fd
  dFollows_is_alone : ∃ fd, FunD K "is_alone" "Follows.is_alone" (defArgs sFollows_is_alone) (defBody sFollows_is_alone) (defScope sFollows_is_alone) [] [] (He.fAd K ("Follows", some "is_alone")) fd
  dFollows_fits : ∃ fd, FunD K "fits" "Follows.fits" (defArgs sFollows_fits) (defBody sFollows_fits) (defScope sFollows_fits) [] [] (He.fAd K ("Follows", some "fits")) fd
  dFollows_alone : ∃ fd, FunD K "alone" "Follows.alone" (defArgs sFollows_alone) (defBody sFollows_alone) (defScope sFollows_alone) [] [] (He.fAd K ("Follows", some "alone")) fd
  dFollows_after : ∃ fd, FunD K "after" "Follows.after" (defArgs sFollows_after) (defBody sFollows_after) (defScope sFollows_after) [] [] (He.fAd K ("Follows", some "after")) fd
  dFollows_ahead : ∃ fd, FunD K "ahead" "Follows.ahead" (defArgs sFollows_ahead) (defBody sFollows_ahead) (defScope sFollows_ahead) [] [] (He.fAd K ("Follows", some "ahead")) fd
  dFollows_may : ∃ fd, FunD K "may" "Follows.may" (defArgs sFollows_may) (defBody sFollows_may) (defScope sFollows_may) [] [] (He.fAd K ("Follows", some "may")) fd
  dis_sign : ∃ fd, FunD K "is_sign" "is_sign" (defArgs sis_sign) (defBody sis_sign) (defScope sis_sign) [] [] (He.fAd K ("is_sign", none)) fd
  dlook_at_signs : ∃ fd, FunD K "look_at_signs" "look_at_signs" (defArgs slook_at_signs) (defBody slook_at_signs) (defScope slook_at_signs) [] [] (He.fAd K ("look_at_signs", none)) fd
  dis_row : ∃ fd, FunD K "is_row" "is_row" (defArgs sis_row) (defBody sis_row) (defScope sis_row) [] [] (He.fAd K ("is_row", none)) fd
  dTable_init : ∃ fd, FunD K "__init__" "Table.__init__" (defArgs sTable_init) (defBody sTable_init) (defScope sTable_init) [] [] (He.fAd K ("Table", some "__init__")) fd
  dTable_signs : ∃ fd, FunD K "signs" "Table.signs" (defArgs sTable_signs) (defBody sTable_signs) (defScope sTable_signs) [] [] (He.fAd K ("Table", some "signs")) fd
  dTable_rows : ∃ fd, FunD K "rows" "Table.rows" (defArgs sTable_rows) (defBody sTable_rows) (defScope sTable_rows) [] [] (He.fAd K ("Table", some "rows")) fd
  dTable_pieces : ∃ fd, FunD K "pieces" "Table.pieces" (defArgs sTable_pieces) (defBody sTable_pieces) (defScope sTable_pieces) [] [] (He.fAd K ("Table", some "pieces")) fd
  dTable_which : ∃ fd, FunD K "which" "Table.which" (defArgs sTable_which) (defBody sTable_which) (defScope sTable_which) [] [] (He.fAd K ("Table", some "which")) fd
  dTable_piece : ∃ fd, FunD K "piece" "Table.piece" (defArgs sTable_piece) (defBody sTable_piece) (defScope sTable_piece) [] [] (He.fAd K ("Table", some "piece")) fd
  dTable_parts : ∃ fd, FunD K "parts" "Table.parts" (defArgs sTable_parts) (defBody sTable_parts) (defScope sTable_parts) [] [] (He.fAd K ("Table", some "parts")) fd
  dTable_rank : ∃ fd, FunD K "rank" "Table.rank" (defArgs sTable_rank) (defBody sTable_rank) (defScope sTable_rank) [] [] (He.fAd K ("Table", some "rank")) fd
  dTable_longest : ∃ fd, FunD K "longest" "Table.longest" (defArgs sTable_longest) (defBody sTable_longest) (defScope sTable_longest) [] [] (He.fAd K ("Table", some "longest")) fd
  dis_state : ∃ fd, FunD K "is_state" "is_state" (defArgs sis_state) (defBody sis_state) (defScope sis_state) [] [] (He.fAd K ("is_state", none)) fd
  dis_way : ∃ fd, FunD K "is_way" "is_way" (defArgs sis_way) (defBody sis_way) (defScope sis_way) [] [] (He.fAd K ("is_way", none)) fd
  dGrammar_init : ∃ fd, FunD K "__init__" "Grammar.__init__" (defArgs sGrammar_init) (defBody sGrammar_init) (defScope sGrammar_init) [] [] (He.fAd K ("Grammar", some "__init__")) fd
  dGrammar_many : ∃ fd, FunD K "many" "Grammar.many" (defArgs sGrammar_many) (defBody sGrammar_many) (defScope sGrammar_many) [] [] (He.fAd K ("Grammar", some "many")) fd
  dGrammar_ways : ∃ fd, FunD K "ways" "Grammar.ways" (defArgs sGrammar_ways) (defBody sGrammar_ways) (defScope sGrammar_ways) [] [] (He.fAd K ("Grammar", some "ways")) fd
  dGrammar_ends : ∃ fd, FunD K "ends" "Grammar.ends" (defArgs sGrammar_ends) (defBody sGrammar_ends) (defScope sGrammar_ends) [] [] (He.fAd K ("Grammar", some "ends")) fd
  dGrammar_leads : ∃ fd, FunD K "leads" "Grammar.leads" (defArgs sGrammar_leads) (defBody sGrammar_leads) (defScope sGrammar_leads) [] [] (He.fAd K ("Grammar", some "leads")) fd
  dGrammar_tells : ∃ fd, FunD K "tells" "Grammar.tells" (defArgs sGrammar_tells) (defBody sGrammar_tells) (defScope sGrammar_tells) [] [] (He.fAd K ("Grammar", some "tells")) fd
  d_law_cell_at : ∃ fd, FunD K "_law_cell_at" "_law_cell_at" (defArgs s_law_cell_at) (defBody s_law_cell_at) (defScope s_law_cell_at) [] [] (He.fAd K ("_law_cell_at", none)) fd
  d_law_numbers : ∃ fd, FunD K "_law_numbers" "_law_numbers" (defArgs s_law_numbers) (defBody s_law_numbers) (defScope s_law_numbers) [] [] (He.fAd K ("_law_numbers", none)) fd
  d_law_signs : ∃ fd, FunD K "_law_signs" "_law_signs" (defArgs s_law_signs) (defBody s_law_signs) (defScope s_law_signs) [] [] (He.fAd K ("_law_signs", none)) fd
  d_law_rows : ∃ fd, FunD K "_law_rows" "_law_rows" (defArgs s_law_rows) (defBody s_law_rows) (defScope s_law_rows) [] [] (He.fAd K ("_law_rows", none)) fd
  d_law_cut : ∃ fd, FunD K "_law_cut" "_law_cut" (defArgs s_law_cut) (defBody s_law_cut) (defScope s_law_cut) [] [] (He.fAd K ("_law_cut", none)) fd
  d_law_ways : ∃ fd, FunD K "_law_ways" "_law_ways" (defArgs s_law_ways) (defBody s_law_ways) (defScope s_law_ways) [] [] (He.fAd K ("_law_ways", none)) fd
  d_law_counted : ∃ fd, FunD K "_law_counted" "_law_counted" (defArgs s_law_counted) (defBody s_law_counted) (defScope s_law_counted) [] [] (He.fAd K ("_law_counted", none)) fd
  d_law_tells : ∃ fd, FunD K "_law_tells" "_law_tells" (defArgs s_law_tells) (defBody s_law_tells) (defScope s_law_tells) [] [] (He.fAd K ("_law_tells", none)) fd
  dlaw : ∃ fd, FunD K "law" "law" (defArgs slaw) (defBody slaw) (defScope slaw) [] [] (He.fAd K ("law", none)) fd
def fn : List He.DefD := [⟨("_wall", none), "_wall", "_wall", defArgs s_wall, defBody s_wall, defScope s_wall, [], []⟩, ⟨("NoTable", some "__init__"), "__init__", "NoTable.__init__", defArgs sNoTable_init, defBody sNoTable_init, defScope sNoTable_init, [], []⟩, ⟨("NoGrammar", some "__init__"), "__init__", "NoGrammar.__init__", defArgs sNoGrammar_init, defBody sNoGrammar_init, defScope sNoGrammar_init, [], []⟩, ⟨("NoCutting", some "__init__"), "__init__", "NoCutting.__init__", defArgs sNoCutting_init, defBody sNoCutting_init, defScope sNoCutting_init, [], []⟩, ⟨("NoSign", some "__init__"), "__init__", "NoSign.__init__", defArgs sNoSign_init, defBody sNoSign_init, defScope sNoSign_init, [], []⟩, ⟨("NoPiece", some "__init__"), "__init__", "NoPiece.__init__", defArgs sNoPiece_init, defBody sNoPiece_init, defScope sNoPiece_init, [], []⟩, ⟨("NoNumber", some "__init__"), "__init__", "NoNumber.__init__", defArgs sNoNumber_init, defBody sNoNumber_init, defScope sNoNumber_init, [], []⟩, ⟨("is_whole", none), "is_whole", "is_whole", defArgs sis_whole, defBody sis_whole, defScope sis_whole, [], []⟩, ⟨("what_is_wrong", none), "what_is_wrong", "what_is_wrong", defArgs swhat_is_wrong, defBody swhat_is_wrong, defScope swhat_is_wrong, [], []⟩, ⟨("look_at_cutting", none), "look_at_cutting", "look_at_cutting", defArgs slook_at_cutting, defBody slook_at_cutting, defScope slook_at_cutting, [], []⟩, ⟨("steps_behind", none), "steps_behind", "steps_behind", defArgs ssteps_behind, defBody ssteps_behind, defScope ssteps_behind, [], []⟩, ⟨("all_steps", none), "all_steps", "all_steps", defArgs sall_steps, defBody sall_steps, defScope sall_steps, [], []⟩, ⟨("many_from", none), "many_from", "many_from", defArgs smany_from, defBody smany_from, defScope smany_from, [], []⟩, ⟨("ways_by_signs", none), "ways_by_signs", "ways_by_signs", defArgs sways_by_signs, defBody sways_by_signs, defScope sways_by_signs, [], []⟩, ⟨("how_many", none), "how_many", "how_many", defArgs show_many, defBody show_many, defScope show_many, [], []⟩, ⟨("cutting_of", none), "cutting_of", "cutting_of", defArgs scutting_of, defBody scutting_of, defScope scutting_of, [], []⟩, ⟨("number_of", none), "number_of", "number_of", defArgs snumber_of, defBody snumber_of, defScope snumber_of, [], []⟩, ⟨("look_at_piece", none), "look_at_piece", "look_at_piece", defArgs slook_at_piece, defBody slook_at_piece, defScope slook_at_piece, [], []⟩, ⟨("edge", none), "edge", "edge", defArgs sedge, defBody sedge, defScope sedge, [], []⟩, ⟨("own_rank", none), "own_rank", "own_rank", defArgs sown_rank, defBody sown_rank, defScope sown_rank, [], []⟩, ⟨("joined_over", none), "joined_over", "joined_over", defArgs sjoined_over, defBody sjoined_over, defScope sjoined_over, [], []⟩, ⟨("stands_alone", none), "stands_alone", "stands_alone", defArgs sstands_alone, defBody sstands_alone, defScope sstands_alone, [], []⟩, ⟨("Follows", some "__init__"), "__init__", "Follows.__init__", defArgs sFollows_init, defBody sFollows_init, defScope sFollows_init, [], []⟩, ⟨("Follows", some "table"), "table", "Follows.table", defArgs sFollows_table, defBody sFollows_table, defScope sFollows_table, [], []⟩, ⟨("Follows", some "is_alone"), "is_alone", "Follows.is_alone", defArgs sFollows_is_alone, defBody sFollows_is_alone, defScope sFollows_is_alone, [], []⟩, ⟨("Follows", some "fits"), "fits", "Follows.fits", defArgs sFollows_fits, defBody sFollows_fits, defScope sFollows_fits, [], []⟩, ⟨("Follows", some "alone"), "alone", "Follows.alone", defArgs sFollows_alone, defBody sFollows_alone, defScope sFollows_alone, [], []⟩, ⟨("Follows", some "after"), "after", "Follows.after", defArgs sFollows_after, defBody sFollows_after, defScope sFollows_after, [], []⟩, ⟨("Follows", some "ahead"), "ahead", "Follows.ahead", defArgs sFollows_ahead, defBody sFollows_ahead, defScope sFollows_ahead, [], []⟩, ⟨("Follows", some "may"), "may", "Follows.may", defArgs sFollows_may, defBody sFollows_may, defScope sFollows_may, [], []⟩, ⟨("is_sign", none), "is_sign", "is_sign", defArgs sis_sign, defBody sis_sign, defScope sis_sign, [], []⟩, ⟨("look_at_signs", none), "look_at_signs", "look_at_signs", defArgs slook_at_signs, defBody slook_at_signs, defScope slook_at_signs, [], []⟩, ⟨("is_row", none), "is_row", "is_row", defArgs sis_row, defBody sis_row, defScope sis_row, [], []⟩, ⟨("Table", some "__init__"), "__init__", "Table.__init__", defArgs sTable_init, defBody sTable_init, defScope sTable_init, [], []⟩, ⟨("Table", some "signs"), "signs", "Table.signs", defArgs sTable_signs, defBody sTable_signs, defScope sTable_signs, [], []⟩, ⟨("Table", some "rows"), "rows", "Table.rows", defArgs sTable_rows, defBody sTable_rows, defScope sTable_rows, [], []⟩, ⟨("Table", some "pieces"), "pieces", "Table.pieces", defArgs sTable_pieces, defBody sTable_pieces, defScope sTable_pieces, [], []⟩, ⟨("Table", some "which"), "which", "Table.which", defArgs sTable_which, defBody sTable_which, defScope sTable_which, [], []⟩, ⟨("Table", some "piece"), "piece", "Table.piece", defArgs sTable_piece, defBody sTable_piece, defScope sTable_piece, [], []⟩, ⟨("Table", some "parts"), "parts", "Table.parts", defArgs sTable_parts, defBody sTable_parts, defScope sTable_parts, [], []⟩, ⟨("Table", some "rank"), "rank", "Table.rank", defArgs sTable_rank, defBody sTable_rank, defScope sTable_rank, [], []⟩, ⟨("Table", some "longest"), "longest", "Table.longest", defArgs sTable_longest, defBody sTable_longest, defScope sTable_longest, [], []⟩, ⟨("is_state", none), "is_state", "is_state", defArgs sis_state, defBody sis_state, defScope sis_state, [], []⟩, ⟨("is_way", none), "is_way", "is_way", defArgs sis_way, defBody sis_way, defScope sis_way, [], []⟩, ⟨("Grammar", some "__init__"), "__init__", "Grammar.__init__", defArgs sGrammar_init, defBody sGrammar_init, defScope sGrammar_init, [], []⟩, ⟨("Grammar", some "many"), "many", "Grammar.many", defArgs sGrammar_many, defBody sGrammar_many, defScope sGrammar_many, [], []⟩, ⟨("Grammar", some "ways"), "ways", "Grammar.ways", defArgs sGrammar_ways, defBody sGrammar_ways, defScope sGrammar_ways, [], []⟩, ⟨("Grammar", some "ends"), "ends", "Grammar.ends", defArgs sGrammar_ends, defBody sGrammar_ends, defScope sGrammar_ends, [], []⟩, ⟨("Grammar", some "leads"), "leads", "Grammar.leads", defArgs sGrammar_leads, defBody sGrammar_leads, defScope sGrammar_leads, [], []⟩, ⟨("Grammar", some "tells"), "tells", "Grammar.tells", defArgs sGrammar_tells, defBody sGrammar_tells, defScope sGrammar_tells, [], []⟩, ⟨("_law_cell_at", none), "_law_cell_at", "_law_cell_at", defArgs s_law_cell_at, defBody s_law_cell_at, defScope s_law_cell_at, [], []⟩, ⟨("_law_numbers", none), "_law_numbers", "_law_numbers", defArgs s_law_numbers, defBody s_law_numbers, defScope s_law_numbers, [], []⟩, ⟨("_law_signs", none), "_law_signs", "_law_signs", defArgs s_law_signs, defBody s_law_signs, defScope s_law_signs, [], []⟩, ⟨("_law_rows", none), "_law_rows", "_law_rows", defArgs s_law_rows, defBody s_law_rows, defScope s_law_rows, [], []⟩, ⟨("_law_cut", none), "_law_cut", "_law_cut", defArgs s_law_cut, defBody s_law_cut, defScope s_law_cut, [], []⟩, ⟨("_law_ways", none), "_law_ways", "_law_ways", defArgs s_law_ways, defBody s_law_ways, defScope s_law_ways, [], []⟩, ⟨("_law_counted", none), "_law_counted", "_law_counted", defArgs s_law_counted, defBody s_law_counted, defScope s_law_counted, [], []⟩, ⟨("_law_tells", none), "_law_tells", "_law_tells", defArgs s_law_tells, defBody s_law_tells, defScope s_law_tells, [], []⟩, ⟨("law", none), "law", "law", defArgs slaw, defBody slaw, defScope slaw, [], []⟩]
def fa : List He.Fa := [.glo "_wall", .glo "JoinError", .glo "NoTable", .glo "NoGrammar", .glo "NoCutting", .glo "NoSign", .glo "NoPiece", .glo "NoNumber", .glo "NoPlace", .glo "is_whole", .glo "what_is_wrong", .glo "look_at_cutting", .glo "steps_behind", .glo "all_steps", .glo "many_from", .glo "ways_by_signs", .glo "how_many", .glo "cutting_of", .glo "number_of", .glo "look_at_piece", .glo "edge", .glo "own_rank", .glo "joined_over", .glo "stands_alone", .glo "Follows", .glo "is_sign", .glo "look_at_signs", .glo "is_row", .glo "Table", .glo "is_state", .glo "is_way", .glo "Grammar", .glo "_law_cell_at", .glo "_law_numbers", .glo "_law_signs", .glo "_law_rows", .glo "_law_cut", .glo "_law_ways", .glo "_law_counted", .glo "_law_tells", .glo "law", .free "isinstance", .free "int", .free "bool", .free "enumerate", .free "range", .free "list", .free "len", .free "str", .free "tuple", .free "max", .free "sorted", .free "min", .str "SIGNS" " !\"#$&'()*+,-./0123456789:;<=>?@ABCDEFGHIJKLMNOPQRSTUVWXYZ[\\]^_`abcdefghijklmnopqrstuvwxyz{|}~", .int "MOST_SIGNS" 12, .int "MOST_LENGTH" 16, .int "MOST_ROWS" 24, .int "MOST_WAYS" 48, .int "MOST_STATES" 4, .meth "NoTable" "__init__", .noat "NoTable" "part", .noat "NoTable" "number", .meth "NoGrammar" "__init__", .noat "NoGrammar" "part", .noat "NoGrammar" "number", .meth "NoCutting" "__init__", .noat "NoCutting" "kind", .noat "NoCutting" "place", .meth "NoSign" "__init__", .noat "NoSign" "place", .meth "NoPiece" "__init__", .noat "NoPiece" "place", .meth "NoNumber" "__init__", .noat "NoNumber" "place", .cls "Follows", .mkr "Follows", .meth "Follows" "table", .meth "Follows" "is_alone", .meth "Follows" "fits", .meth "Follows" "alone", .meth "Follows" "after", .meth "Follows" "ahead", .meth "Follows" "may", .noat "Follows" "kept_table", .noat "Follows" "kept_alone", .noat "Follows" "kept_truths", .cls "Table", .mkr "Table", .meth "Table" "signs", .meth "Table" "rows", .meth "Table" "pieces", .meth "Table" "which", .meth "Table" "piece", .meth "Table" "parts", .meth "Table" "rank", .meth "Table" "longest", .noat "Table" "kept_signs", .noat "Table" "by_text", .noat "Table" "by_pair", .noat "Table" "kept_rows", .noat "Table" "kept_pieces", .cls "Grammar", .mkr "Grammar", .meth "Grammar" "many", .meth "Grammar" "ways", .meth "Grammar" "ends", .meth "Grammar" "leads", .meth "Grammar" "tells", .noat "Grammar" "kept_by", .noat "Grammar" "kept_many", .noat "Grammar" "kept_ways", .noat "Grammar" "kept_ends"]
def ex (K : PySem.W.Frag) : Bool := oexB K (He.ga K "JoinError") && (oexB K (He.ga K "NoTable") && (decide (PySem.W.typeIn K (.ref (He.ma K (He.ga K "NoTable") "__init__")) = some (.type "function")) && (xfB K (He.ga K "NoTable") && (oexB K (He.ga K "NoGrammar") && (decide (PySem.W.typeIn K (.ref (He.ma K (He.ga K "NoGrammar") "__init__")) = some (.type "function")) && (xfB K (He.ga K "NoGrammar") && (oexB K (He.ga K "NoCutting") && (decide (PySem.W.typeIn K (.ref (He.ma K (He.ga K "NoCutting") "__init__")) = some (.type "function")) && (xfB K (He.ga K "NoCutting") && (oexB K (He.ga K "NoSign") && (decide (PySem.W.typeIn K (.ref (He.ma K (He.ga K "NoSign") "__init__")) = some (.type "function")) && (xfB K (He.ga K "NoSign") && (oexB K (He.ga K "NoPiece") && (decide (PySem.W.typeIn K (.ref (He.ma K (He.ga K "NoPiece") "__init__")) = some (.type "function")) && (xfB K (He.ga K "NoPiece") && (oexB K (He.ga K "NoNumber") && (decide (PySem.W.typeIn K (.ref (He.ma K (He.ga K "NoNumber") "__init__")) = some (.type "function")) && (xfB K (He.ga K "NoNumber") && (oexB K (He.ga K "NoPlace") && (PySem.W.excIn K (He.ga K "NoPlace") [.type "ValueError", .type "Exception", .type "BaseException", .type "object"] "ValueError.__new__" && (jinB K (He.ga K "JoinError"))))))))))))))))))))))
theorem txt_of {K : PySem.W.Frag} {mg : Str → Option Value} {h : Heap} (KX : K.In h) (G : h.Ns mainGlobals mg) (c : SaysE fa fn ex K) : Txt K mg := by
  have e := c.x
  obtain ⟨e0, e⟩ := He.ba e
  obtain ⟨e1, e⟩ := He.ba e
  obtain ⟨e2, e⟩ := He.ba e
  obtain ⟨e3, e⟩ := He.ba e
  obtain ⟨e4, e⟩ := He.ba e
  obtain ⟨e5, e⟩ := He.ba e
  obtain ⟨e6, e⟩ := He.ba e
  obtain ⟨e7, e⟩ := He.ba e
  obtain ⟨e8, e⟩ := He.ba e
  obtain ⟨e9, e⟩ := He.ba e
  obtain ⟨e10, e⟩ := He.ba e
  obtain ⟨e11, e⟩ := He.ba e
  obtain ⟨e12, e⟩ := He.ba e
  obtain ⟨e13, e⟩ := He.ba e
  obtain ⟨e14, e⟩ := He.ba e
  obtain ⟨e15, e⟩ := He.ba e
  obtain ⟨e16, e⟩ := He.ba e
  obtain ⟨e17, e⟩ := He.ba e
  obtain ⟨e18, e⟩ := He.ba e
  obtain ⟨e19, e⟩ := He.ba e
  obtain ⟨e20, e⟩ := He.ba e
  exact {
    g_wall := (He.glo_ok KX G) (c.d.fact 0 rfl)
    gJoinError := (He.glo_ok KX G) (c.d.fact 1 rfl)
    gNoTable := (He.glo_ok KX G) (c.d.fact 2 rfl)
    gNoGrammar := (He.glo_ok KX G) (c.d.fact 3 rfl)
    gNoCutting := (He.glo_ok KX G) (c.d.fact 4 rfl)
    gNoSign := (He.glo_ok KX G) (c.d.fact 5 rfl)
    gNoPiece := (He.glo_ok KX G) (c.d.fact 6 rfl)
    gNoNumber := (He.glo_ok KX G) (c.d.fact 7 rfl)
    gNoPlace := (He.glo_ok KX G) (c.d.fact 8 rfl)
    gis_whole := (He.glo_ok KX G) (c.d.fact 9 rfl)
    gwhat_is_wrong := (He.glo_ok KX G) (c.d.fact 10 rfl)
    glook_at_cutting := (He.glo_ok KX G) (c.d.fact 11 rfl)
    gsteps_behind := (He.glo_ok KX G) (c.d.fact 12 rfl)
    gall_steps := (He.glo_ok KX G) (c.d.fact 13 rfl)
    gmany_from := (He.glo_ok KX G) (c.d.fact 14 rfl)
    gways_by_signs := (He.glo_ok KX G) (c.d.fact 15 rfl)
    ghow_many := (He.glo_ok KX G) (c.d.fact 16 rfl)
    gcutting_of := (He.glo_ok KX G) (c.d.fact 17 rfl)
    gnumber_of := (He.glo_ok KX G) (c.d.fact 18 rfl)
    glook_at_piece := (He.glo_ok KX G) (c.d.fact 19 rfl)
    gedge := (He.glo_ok KX G) (c.d.fact 20 rfl)
    gown_rank := (He.glo_ok KX G) (c.d.fact 21 rfl)
    gjoined_over := (He.glo_ok KX G) (c.d.fact 22 rfl)
    gstands_alone := (He.glo_ok KX G) (c.d.fact 23 rfl)
    gFollows := (He.glo_ok KX G) (c.d.fact 24 rfl)
    gis_sign := (He.glo_ok KX G) (c.d.fact 25 rfl)
    glook_at_signs := (He.glo_ok KX G) (c.d.fact 26 rfl)
    gis_row := (He.glo_ok KX G) (c.d.fact 27 rfl)
    gTable := (He.glo_ok KX G) (c.d.fact 28 rfl)
    gis_state := (He.glo_ok KX G) (c.d.fact 29 rfl)
    gis_way := (He.glo_ok KX G) (c.d.fact 30 rfl)
    gGrammar := (He.glo_ok KX G) (c.d.fact 31 rfl)
    g_law_cell_at := (He.glo_ok KX G) (c.d.fact 32 rfl)
    g_law_numbers := (He.glo_ok KX G) (c.d.fact 33 rfl)
    g_law_signs := (He.glo_ok KX G) (c.d.fact 34 rfl)
    g_law_rows := (He.glo_ok KX G) (c.d.fact 35 rfl)
    g_law_cut := (He.glo_ok KX G) (c.d.fact 36 rfl)
    g_law_ways := (He.glo_ok KX G) (c.d.fact 37 rfl)
    g_law_counted := (He.glo_ok KX G) (c.d.fact 38 rfl)
    g_law_tells := (He.glo_ok KX G) (c.d.fact 39 rfl)
    glaw := (He.glo_ok KX G) (c.d.fact 40 rfl)
    zisinstance := (He.free_ok KX G) (c.d.fact 41 rfl)
    zint := (He.free_ok KX G) (c.d.fact 42 rfl)
    zbool := (He.free_ok KX G) (c.d.fact 43 rfl)
    zenumerate := (He.free_ok KX G) (c.d.fact 44 rfl)
    zrange := (He.free_ok KX G) (c.d.fact 45 rfl)
    zlist := (He.free_ok KX G) (c.d.fact 46 rfl)
    zlen := (He.free_ok KX G) (c.d.fact 47 rfl)
    zstr := (He.free_ok KX G) (c.d.fact 48 rfl)
    ztuple := (He.free_ok KX G) (c.d.fact 49 rfl)
    zmax := (He.free_ok KX G) (c.d.fact 50 rfl)
    zsorted := (He.free_ok KX G) (c.d.fact 51 rfl)
    zmin := (He.free_ok KX G) (c.d.fact 52 rfl)
    cSIGNS := (He.str_ok KX G) (c.d.fact 53 rfl)
    cMOST_SIGNS := (He.int_ok KX G) (c.d.fact 54 rfl)
    cMOST_LENGTH := (He.int_ok KX G) (c.d.fact 55 rfl)
    cMOST_ROWS := (He.int_ok KX G) (c.d.fact 56 rfl)
    cMOST_WAYS := (He.int_ok KX G) (c.d.fact 57 rfl)
    cMOST_STATES := (He.int_ok KX G) (c.d.fact 58 rfl)
    mNoTable := (fun c => He.eqO_ok (He.ba c).1) (c.d.fact 59 rfl)
    nNoTable_part := (He.eqO_ok) (c.d.fact 60 rfl)
    nNoTable_number := (He.eqO_ok) (c.d.fact 61 rfl)
    mNoGrammar := (fun c => He.eqO_ok (He.ba c).1) (c.d.fact 62 rfl)
    nNoGrammar_part := (He.eqO_ok) (c.d.fact 63 rfl)
    nNoGrammar_number := (He.eqO_ok) (c.d.fact 64 rfl)
    mNoCutting := (fun c => He.eqO_ok (He.ba c).1) (c.d.fact 65 rfl)
    nNoCutting_kind := (He.eqO_ok) (c.d.fact 66 rfl)
    nNoCutting_place := (He.eqO_ok) (c.d.fact 67 rfl)
    mNoSign := (fun c => He.eqO_ok (He.ba c).1) (c.d.fact 68 rfl)
    nNoSign_place := (He.eqO_ok) (c.d.fact 69 rfl)
    mNoPiece := (fun c => He.eqO_ok (He.ba c).1) (c.d.fact 70 rfl)
    nNoPiece_place := (He.eqO_ok) (c.d.fact 71 rfl)
    mNoNumber := (fun c => He.eqO_ok (He.ba c).1) (c.d.fact 72 rfl)
    nNoNumber_place := (He.eqO_ok) (c.d.fact 73 rfl)
    kFollows := (He.cls_ok) (c.d.fact 74 rfl)
    mkFollows := (He.mkr_ok) (c.d.fact 75 rfl)
    mFollows_table := (He.meth_ok) (c.d.fact 76 rfl)
    mFollows_is_alone := (He.meth_ok) (c.d.fact 77 rfl)
    mFollows_fits := (He.meth_ok) (c.d.fact 78 rfl)
    mFollows_alone := (He.meth_ok) (c.d.fact 79 rfl)
    mFollows_after := (He.meth_ok) (c.d.fact 80 rfl)
    mFollows_ahead := (He.meth_ok) (c.d.fact 81 rfl)
    mFollows_may := (He.meth_ok) (c.d.fact 82 rfl)
    nFollows_kept_table := (He.eqO_ok) (c.d.fact 83 rfl)
    nFollows_kept_alone := (He.eqO_ok) (c.d.fact 84 rfl)
    nFollows_kept_truths := (He.eqO_ok) (c.d.fact 85 rfl)
    kTable := (He.cls_ok) (c.d.fact 86 rfl)
    mkTable := (He.mkr_ok) (c.d.fact 87 rfl)
    mTable_signs := (He.meth_ok) (c.d.fact 88 rfl)
    mTable_rows := (He.meth_ok) (c.d.fact 89 rfl)
    mTable_pieces := (He.meth_ok) (c.d.fact 90 rfl)
    mTable_which := (He.meth_ok) (c.d.fact 91 rfl)
    mTable_piece := (He.meth_ok) (c.d.fact 92 rfl)
    mTable_parts := (He.meth_ok) (c.d.fact 93 rfl)
    mTable_rank := (He.meth_ok) (c.d.fact 94 rfl)
    mTable_longest := (He.meth_ok) (c.d.fact 95 rfl)
    nTable_kept_signs := (He.eqO_ok) (c.d.fact 96 rfl)
    nTable_by_text := (He.eqO_ok) (c.d.fact 97 rfl)
    nTable_by_pair := (He.eqO_ok) (c.d.fact 98 rfl)
    nTable_kept_rows := (He.eqO_ok) (c.d.fact 99 rfl)
    nTable_kept_pieces := (He.eqO_ok) (c.d.fact 100 rfl)
    kGrammar := (He.cls_ok) (c.d.fact 101 rfl)
    mkGrammar := (He.mkr_ok) (c.d.fact 102 rfl)
    mGrammar_many := (He.meth_ok) (c.d.fact 103 rfl)
    mGrammar_ways := (He.meth_ok) (c.d.fact 104 rfl)
    mGrammar_ends := (He.meth_ok) (c.d.fact 105 rfl)
    mGrammar_leads := (He.meth_ok) (c.d.fact 106 rfl)
    mGrammar_tells := (He.meth_ok) (c.d.fact 107 rfl)
    nGrammar_kept_by := (He.eqO_ok) (c.d.fact 108 rfl)
    nGrammar_kept_many := (He.eqO_ok) (c.d.fact 109 rfl)
    nGrammar_kept_ways := (He.eqO_ok) (c.d.fact 110 rfl)
    nGrammar_kept_ends := (He.eqO_ok) (c.d.fact 111 rfl)
    oJoinError := oexB_ok e0
    oNoTable := oexB_ok e1
    wNoTable := of_decide_eq_true e2
    xNoTable := xfB_ok e3
    oNoGrammar := oexB_ok e4
    wNoGrammar := of_decide_eq_true e5
    xNoGrammar := xfB_ok e6
    oNoCutting := oexB_ok e7
    wNoCutting := of_decide_eq_true e8
    xNoCutting := xfB_ok e9
    oNoSign := oexB_ok e10
    wNoSign := of_decide_eq_true e11
    xNoSign := xfB_ok e12
    oNoPiece := oexB_ok e13
    wNoPiece := of_decide_eq_true e14
    xNoPiece := xfB_ok e15
    oNoNumber := oexB_ok e16
    wNoNumber := of_decide_eq_true e17
    xNoNumber := xfB_ok e18
    oNoPlace := oexB_ok e19
    tNoPlace := id e20
    jin := jinB_ok e
    d_wall := c.d.def_ 0 rfl
    dNoTable_init := c.d.def_ 1 rfl
    dNoGrammar_init := c.d.def_ 2 rfl
    dNoCutting_init := c.d.def_ 3 rfl
    dNoSign_init := c.d.def_ 4 rfl
    dNoPiece_init := c.d.def_ 5 rfl
    dNoNumber_init := c.d.def_ 6 rfl
    dis_whole := c.d.def_ 7 rfl
    dwhat_is_wrong := c.d.def_ 8 rfl
    dlook_at_cutting := c.d.def_ 9 rfl
    dsteps_behind := c.d.def_ 10 rfl
    dall_steps := c.d.def_ 11 rfl
    dmany_from := c.d.def_ 12 rfl
    dways_by_signs := c.d.def_ 13 rfl
    dhow_many := c.d.def_ 14 rfl
    dcutting_of := c.d.def_ 15 rfl
    dnumber_of := c.d.def_ 16 rfl
    dlook_at_piece := c.d.def_ 17 rfl
    dedge := c.d.def_ 18 rfl
    down_rank := c.d.def_ 19 rfl
    djoined_over := c.d.def_ 20 rfl
    dstands_alone := c.d.def_ 21 rfl
    dFollows_init := c.d.def_ 22 rfl
    dFollows_table := c.d.def_ 23 rfl
    dFollows_is_alone := c.d.def_ 24 rfl
    dFollows_fits := c.d.def_ 25 rfl
    dFollows_alone := c.d.def_ 26 rfl
    dFollows_after := c.d.def_ 27 rfl
    dFollows_ahead := c.d.def_ 28 rfl
    dFollows_may := c.d.def_ 29 rfl
    dis_sign := c.d.def_ 30 rfl
    dlook_at_signs := c.d.def_ 31 rfl
    dis_row := c.d.def_ 32 rfl
    dTable_init := c.d.def_ 33 rfl
    dTable_signs := c.d.def_ 34 rfl
    dTable_rows := c.d.def_ 35 rfl
    dTable_pieces := c.d.def_ 36 rfl
    dTable_which := c.d.def_ 37 rfl
    dTable_piece := c.d.def_ 38 rfl
    dTable_parts := c.d.def_ 39 rfl
    dTable_rank := c.d.def_ 40 rfl
    dTable_longest := c.d.def_ 41 rfl
    dis_state := c.d.def_ 42 rfl
    dis_way := c.d.def_ 43 rfl
    dGrammar_init := c.d.def_ 44 rfl
    dGrammar_many := c.d.def_ 45 rfl
    dGrammar_ways := c.d.def_ 46 rfl
    dGrammar_ends := c.d.def_ 47 rfl
    dGrammar_leads := c.d.def_ 48 rfl
    dGrammar_tells := c.d.def_ 49 rfl
    d_law_cell_at := c.d.def_ 50 rfl
    d_law_numbers := c.d.def_ 51 rfl
    d_law_signs := c.d.def_ 52 rfl
    d_law_rows := c.d.def_ 53 rfl
    d_law_cut := c.d.def_ 54 rfl
    d_law_ways := c.d.def_ 55 rfl
    d_law_counted := c.d.def_ 56 rfl
    d_law_tells := c.d.def_ 57 rfl
    dlaw := c.d.def_ 58 rfl
  }
theorem errTNoPlace {K : PySem.W.Frag} {mg : Str → Option Value} (T : Txt K mg) : ErrT K mg "NoPlace" (He.ga K "NoPlace") := ⟨T.gNoPlace, T.tNoPlace, T.oNoPlace.kC, T.oNoPlace.exC, T.oNoPlace.tyC⟩
section
variable {P : Program} {w : World} {K : PySem.W.Frag} {mg : Str → Option Value} {base : Heap}
theorem mk_wall (T : Txt K mg) {k : Nat} {φ : Ph} (hb : ∀ (cdv : Value) (A : Around) (outer : List Env) (s : Shared) (H : Hp) (E : XK), Room k (bodyX P w K mg base N_wall "_wall" s_wall (He.fAd K ("_wall", none)) cdv A outer s H E).A → ∀ ds rt xs, φ ds rt xs → ds.length = 1 →
      WD (bodyX P w K mg base N_wall "_wall" s_wall (He.fAd K ("_wall", none)) cdv A outer s H E) (fun x _ => xs x) (defBody s_wall) (env0 N_wall ds) { nx := fun _ => rt false .non, rt := fun o d _ => rt o d }) : FnD P w K mg base (k + 1) (He.fAd K ("_wall", none)) 1 φ := by
  obtain ⟨fd, F⟩ := T.d_wall
  exact fn_D (He5.fun_of F) sc_wall (F.bindsN fun _ _ _ _ _ _ us hl => match us, hl with | [_], _ => rfl) hb
theorem errNoTable (T : Txt K mg) : ErrC P w K mg base "NoTable" (He.ga K "NoTable") ["part", "number"] := by
  obtain ⟨fd, F0⟩ := T.dNoTable_init
  have F := He5.fun_of F0
  refine ⟨T.gNoTable, T.oNoTable, _, fd, ["self", "part", "number"], T.mNoTable, T.wNoTable, F.ok scNoTable_init (fun vs H Q E h => ?_) (fun cdv A outer s H vs Q E hr h => ?_), F0.bindsN fun _ _ _ _ _ _ us hl => match us, hl with | [_, _, _], _ => rfl⟩
  · obtain ⟨a, ys, rfl, hl, _⟩ := h
    exact congrArg (· + 1) hl
  · obtain ⟨a, ys, rfl, hl, ha, k⟩ := h
    match ys, hl with
    | [y0, y1], _ => exact ⟨_, pss_cons (ps_expr (pe_jinit rfl T.gJoinError T.jin (pa_cons (pv 0) (pa_cons pe_str pa_nil)))) (pss_cons (ps_ost (pv 0) (pv 1)) (pss_one (ps_ost (pv 0) (pv 2)))), err_fin2 T.oNoTable ha T.nNoTable_part T.nNoTable_number rfl k rfl rfl rfl⟩
theorem errNoGrammar (T : Txt K mg) : ErrC P w K mg base "NoGrammar" (He.ga K "NoGrammar") ["part", "number"] := by
  obtain ⟨fd, F0⟩ := T.dNoGrammar_init
  have F := He5.fun_of F0
  refine ⟨T.gNoGrammar, T.oNoGrammar, _, fd, ["self", "part", "number"], T.mNoGrammar, T.wNoGrammar, F.ok scNoGrammar_init (fun vs H Q E h => ?_) (fun cdv A outer s H vs Q E hr h => ?_), F0.bindsN fun _ _ _ _ _ _ us hl => match us, hl with | [_, _, _], _ => rfl⟩
  · obtain ⟨a, ys, rfl, hl, _⟩ := h
    exact congrArg (· + 1) hl
  · obtain ⟨a, ys, rfl, hl, ha, k⟩ := h
    match ys, hl with
    | [y0, y1], _ => exact ⟨_, pss_cons (ps_expr (pe_jinit rfl T.gJoinError T.jin (pa_cons (pv 0) (pa_cons pe_str pa_nil)))) (pss_cons (ps_ost (pv 0) (pv 1)) (pss_one (ps_ost (pv 0) (pv 2)))), err_fin2 T.oNoGrammar ha T.nNoGrammar_part T.nNoGrammar_number rfl k rfl rfl rfl⟩
theorem errNoCutting (T : Txt K mg) : ErrC P w K mg base "NoCutting" (He.ga K "NoCutting") ["kind", "place"] := by
  obtain ⟨fd, F0⟩ := T.dNoCutting_init
  have F := He5.fun_of F0
  refine ⟨T.gNoCutting, T.oNoCutting, _, fd, ["self", "kind", "place"], T.mNoCutting, T.wNoCutting, F.ok scNoCutting_init (fun vs H Q E h => ?_) (fun cdv A outer s H vs Q E hr h => ?_), F0.bindsN fun _ _ _ _ _ _ us hl => match us, hl with | [_, _, _], _ => rfl⟩
  · obtain ⟨a, ys, rfl, hl, _⟩ := h
    exact congrArg (· + 1) hl
  · obtain ⟨a, ys, rfl, hl, ha, k⟩ := h
    match ys, hl with
    | [y0, y1], _ => exact ⟨_, pss_cons (ps_expr (pe_jinit rfl T.gJoinError T.jin (pa_cons (pv 0) (pa_cons pe_str pa_nil)))) (pss_cons (ps_ost (pv 0) (pv 1)) (pss_one (ps_ost (pv 0) (pv 2)))), err_fin2 T.oNoCutting ha T.nNoCutting_kind T.nNoCutting_place rfl k rfl rfl rfl⟩
theorem errNoSign (T : Txt K mg) : ErrC P w K mg base "NoSign" (He.ga K "NoSign") ["place"] := by
  obtain ⟨fd, F0⟩ := T.dNoSign_init
  have F := He5.fun_of F0
  refine ⟨T.gNoSign, T.oNoSign, _, fd, ["self", "place"], T.mNoSign, T.wNoSign, F.ok scNoSign_init (fun vs H Q E h => ?_) (fun cdv A outer s H vs Q E hr h => ?_), F0.bindsN fun _ _ _ _ _ _ us hl => match us, hl with | [_, _], _ => rfl⟩
  · obtain ⟨a, ys, rfl, hl, _⟩ := h
    exact congrArg (· + 1) hl
  · obtain ⟨a, ys, rfl, hl, ha, k⟩ := h
    match ys, hl with
    | [y0], _ => exact ⟨_, pss_cons (ps_expr (pe_jinit rfl T.gJoinError T.jin (pa_cons (pv 0) (pa_cons pe_str pa_nil)))) (pss_one (ps_ost (pv 0) (pv 1))), err_fin1 T.oNoSign ha T.nNoSign_place rfl k rfl rfl⟩
theorem errNoPiece (T : Txt K mg) : ErrC P w K mg base "NoPiece" (He.ga K "NoPiece") ["place"] := by
  obtain ⟨fd, F0⟩ := T.dNoPiece_init
  have F := He5.fun_of F0
  refine ⟨T.gNoPiece, T.oNoPiece, _, fd, ["self", "place"], T.mNoPiece, T.wNoPiece, F.ok scNoPiece_init (fun vs H Q E h => ?_) (fun cdv A outer s H vs Q E hr h => ?_), F0.bindsN fun _ _ _ _ _ _ us hl => match us, hl with | [_, _], _ => rfl⟩
  · obtain ⟨a, ys, rfl, hl, _⟩ := h
    exact congrArg (· + 1) hl
  · obtain ⟨a, ys, rfl, hl, ha, k⟩ := h
    match ys, hl with
    | [y0], _ => exact ⟨_, pss_cons (ps_expr (pe_jinit rfl T.gJoinError T.jin (pa_cons (pv 0) (pa_cons pe_str pa_nil)))) (pss_one (ps_ost (pv 0) (pv 1))), err_fin1 T.oNoPiece ha T.nNoPiece_place rfl k rfl rfl⟩
theorem errNoNumber (T : Txt K mg) : ErrC P w K mg base "NoNumber" (He.ga K "NoNumber") ["place"] := by
  obtain ⟨fd, F0⟩ := T.dNoNumber_init
  have F := He5.fun_of F0
  refine ⟨T.gNoNumber, T.oNoNumber, _, fd, ["self", "place"], T.mNoNumber, T.wNoNumber, F.ok scNoNumber_init (fun vs H Q E h => ?_) (fun cdv A outer s H vs Q E hr h => ?_), F0.bindsN fun _ _ _ _ _ _ us hl => match us, hl with | [_, _], _ => rfl⟩
  · obtain ⟨a, ys, rfl, hl, _⟩ := h
    exact congrArg (· + 1) hl
  · obtain ⟨a, ys, rfl, hl, ha, k⟩ := h
    match ys, hl with
    | [y0], _ => exact ⟨_, pss_cons (ps_expr (pe_jinit rfl T.gJoinError T.jin (pa_cons (pv 0) (pa_cons pe_str pa_nil)))) (pss_one (ps_ost (pv 0) (pv 1))), err_fin1 T.oNoNumber ha T.nNoNumber_place rfl k rfl rfl⟩
theorem mkis_whole (T : Txt K mg) {k : Nat} {φ : Ph} (hb : ∀ (cdv : Value) (A : Around) (outer : List Env) (s : Shared) (H : Hp) (E : XK), Room k (bodyX P w K mg base Nis_whole "is_whole" sis_whole (He.fAd K ("is_whole", none)) cdv A outer s H E).A → ∀ ds rt xs, φ ds rt xs → ds.length = 1 →
      WD (bodyX P w K mg base Nis_whole "is_whole" sis_whole (He.fAd K ("is_whole", none)) cdv A outer s H E) (fun x _ => xs x) (defBody sis_whole) (env0 Nis_whole ds) { nx := fun _ => rt false .non, rt := fun o d _ => rt o d }) : FnD P w K mg base (k + 1) (He.fAd K ("is_whole", none)) 1 φ := by
  obtain ⟨fd, F⟩ := T.dis_whole
  exact fn_D (He5.fun_of F) scis_whole (F.bindsN fun _ _ _ _ _ _ us hl => match us, hl with | [_], _ => rfl) hb
theorem mkwhat_is_wrong (T : Txt K mg) {k : Nat} {φ : Ph} (hb : ∀ (cdv : Value) (A : Around) (outer : List Env) (s : Shared) (H : Hp) (E : XK), Room k (bodyX P w K mg base Nwhat_is_wrong "what_is_wrong" swhat_is_wrong (He.fAd K ("what_is_wrong", none)) cdv A outer s H E).A → ∀ ds rt xs, φ ds rt xs → ds.length = 2 →
      WD (bodyX P w K mg base Nwhat_is_wrong "what_is_wrong" swhat_is_wrong (He.fAd K ("what_is_wrong", none)) cdv A outer s H E) (fun x _ => xs x) (defBody swhat_is_wrong) (env0 Nwhat_is_wrong ds) { nx := fun _ => rt false .non, rt := fun o d _ => rt o d }) : FnD P w K mg base (k + 1) (He.fAd K ("what_is_wrong", none)) 2 φ := by
  obtain ⟨fd, F⟩ := T.dwhat_is_wrong
  exact fn_D (He5.fun_of F) scwhat_is_wrong (F.bindsN fun _ _ _ _ _ _ us hl => match us, hl with | [_, _], _ => rfl) hb
theorem mklook_at_cutting (T : Txt K mg) {k : Nat} {φ : Ph} (hb : ∀ (cdv : Value) (A : Around) (outer : List Env) (s : Shared) (H : Hp) (E : XK), Room k (bodyX P w K mg base Nlook_at_cutting "look_at_cutting" slook_at_cutting (He.fAd K ("look_at_cutting", none)) cdv A outer s H E).A → ∀ ds rt xs, φ ds rt xs → ds.length = 2 →
      WD (bodyX P w K mg base Nlook_at_cutting "look_at_cutting" slook_at_cutting (He.fAd K ("look_at_cutting", none)) cdv A outer s H E) (fun x _ => xs x) (defBody slook_at_cutting) (env0 Nlook_at_cutting ds) { nx := fun _ => rt false .non, rt := fun o d _ => rt o d }) : FnD P w K mg base (k + 1) (He.fAd K ("look_at_cutting", none)) 2 φ := by
  obtain ⟨fd, F⟩ := T.dlook_at_cutting
  exact fn_D (He5.fun_of F) sclook_at_cutting (F.bindsN fun _ _ _ _ _ _ us hl => match us, hl with | [_, _], _ => rfl) hb
theorem mksteps_behind (T : Txt K mg) {k : Nat} {φ : Ph} (hb : ∀ (cdv : Value) (A : Around) (outer : List Env) (s : Shared) (H : Hp) (E : XK), Room k (bodyX P w K mg base Nsteps_behind "steps_behind" ssteps_behind (He.fAd K ("steps_behind", none)) cdv A outer s H E).A → ∀ ds rt xs, φ ds rt xs → ds.length = 3 →
      WD (bodyX P w K mg base Nsteps_behind "steps_behind" ssteps_behind (He.fAd K ("steps_behind", none)) cdv A outer s H E) (fun x _ => xs x) (defBody ssteps_behind) (env0 Nsteps_behind ds) { nx := fun _ => rt false .non, rt := fun o d _ => rt o d }) : FnD P w K mg base (k + 1) (He.fAd K ("steps_behind", none)) 3 φ := by
  obtain ⟨fd, F⟩ := T.dsteps_behind
  exact fn_D (He5.fun_of F) scsteps_behind (F.bindsN fun _ _ _ _ _ _ us hl => match us, hl with | [_, _, _], _ => rfl) hb
theorem mkall_steps (T : Txt K mg) {k : Nat} {φ : Ph} (hb : ∀ (cdv : Value) (A : Around) (outer : List Env) (s : Shared) (H : Hp) (E : XK), Room k (bodyX P w K mg base Nall_steps "all_steps" sall_steps (He.fAd K ("all_steps", none)) cdv A outer s H E).A → ∀ ds rt xs, φ ds rt xs → ds.length = 2 →
      WD (bodyX P w K mg base Nall_steps "all_steps" sall_steps (He.fAd K ("all_steps", none)) cdv A outer s H E) (fun x _ => xs x) (defBody sall_steps) (env0 Nall_steps ds) { nx := fun _ => rt false .non, rt := fun o d _ => rt o d }) : FnD P w K mg base (k + 1) (He.fAd K ("all_steps", none)) 2 φ := by
  obtain ⟨fd, F⟩ := T.dall_steps
  exact fn_D (He5.fun_of F) scall_steps (F.bindsN fun _ _ _ _ _ _ us hl => match us, hl with | [_, _], _ => rfl) hb
theorem mkmany_from (T : Txt K mg) {k : Nat} {φ : Ph} (hb : ∀ (cdv : Value) (A : Around) (outer : List Env) (s : Shared) (H : Hp) (E : XK), Room k (bodyX P w K mg base Nmany_from "many_from" smany_from (He.fAd K ("many_from", none)) cdv A outer s H E).A → ∀ ds rt xs, φ ds rt xs → ds.length = 4 →
      WD (bodyX P w K mg base Nmany_from "many_from" smany_from (He.fAd K ("many_from", none)) cdv A outer s H E) (fun x _ => xs x) (defBody smany_from) (env0 Nmany_from ds) { nx := fun _ => rt false .non, rt := fun o d _ => rt o d }) : FnD P w K mg base (k + 1) (He.fAd K ("many_from", none)) 4 φ := by
  obtain ⟨fd, F⟩ := T.dmany_from
  exact fn_D (He5.fun_of F) scmany_from (F.bindsN fun _ _ _ _ _ _ us hl => match us, hl with | [_, _, _, _], _ => rfl) hb
theorem mkways_by_signs (T : Txt K mg) {k : Nat} {φ : Ph} (hb : ∀ (cdv : Value) (A : Around) (outer : List Env) (s : Shared) (H : Hp) (E : XK), Room k (bodyX P w K mg base Nways_by_signs "ways_by_signs" sways_by_signs (He.fAd K ("ways_by_signs", none)) cdv A outer s H E).A → ∀ ds rt xs, φ ds rt xs → ds.length = 3 →
      WD (bodyX P w K mg base Nways_by_signs "ways_by_signs" sways_by_signs (He.fAd K ("ways_by_signs", none)) cdv A outer s H E) (fun x _ => xs x) (defBody sways_by_signs) (env0 Nways_by_signs ds) { nx := fun _ => rt false .non, rt := fun o d _ => rt o d }) : FnD P w K mg base (k + 1) (He.fAd K ("ways_by_signs", none)) 3 φ := by
  obtain ⟨fd, F⟩ := T.dways_by_signs
  exact fn_D (He5.fun_of F) scways_by_signs (F.bindsN fun _ _ _ _ _ _ us hl => match us, hl with | [_, _, _], _ => rfl) hb
theorem mkhow_many (T : Txt K mg) {k : Nat} {φ : Ph} (hb : ∀ (cdv : Value) (A : Around) (outer : List Env) (s : Shared) (H : Hp) (E : XK), Room k (bodyX P w K mg base Nhow_many "how_many" show_many (He.fAd K ("how_many", none)) cdv A outer s H E).A → ∀ ds rt xs, φ ds rt xs → ds.length = 3 →
      WD (bodyX P w K mg base Nhow_many "how_many" show_many (He.fAd K ("how_many", none)) cdv A outer s H E) (fun x _ => xs x) (defBody show_many) (env0 Nhow_many ds) { nx := fun _ => rt false .non, rt := fun o d _ => rt o d }) : FnD P w K mg base (k + 1) (He.fAd K ("how_many", none)) 3 φ := by
  obtain ⟨fd, F⟩ := T.dhow_many
  exact fn_D (He5.fun_of F) schow_many (F.bindsN fun _ _ _ _ _ _ us hl => match us, hl with | [_, _, _], _ => rfl) hb
theorem mkcutting_of (T : Txt K mg) {k : Nat} {φ : Ph} (hb : ∀ (cdv : Value) (A : Around) (outer : List Env) (s : Shared) (H : Hp) (E : XK), Room k (bodyX P w K mg base Ncutting_of "cutting_of" scutting_of (He.fAd K ("cutting_of", none)) cdv A outer s H E).A → ∀ ds rt xs, φ ds rt xs → ds.length = 4 →
      WD (bodyX P w K mg base Ncutting_of "cutting_of" scutting_of (He.fAd K ("cutting_of", none)) cdv A outer s H E) (fun x _ => xs x) (defBody scutting_of) (env0 Ncutting_of ds) { nx := fun _ => rt false .non, rt := fun o d _ => rt o d }) : FnD P w K mg base (k + 1) (He.fAd K ("cutting_of", none)) 4 φ := by
  obtain ⟨fd, F⟩ := T.dcutting_of
  exact fn_D (He5.fun_of F) sccutting_of (F.bindsN fun _ _ _ _ _ _ us hl => match us, hl with | [_, _, _, _], _ => rfl) hb
theorem mknumber_of (T : Txt K mg) {k : Nat} {φ : Ph} (hb : ∀ (cdv : Value) (A : Around) (outer : List Env) (s : Shared) (H : Hp) (E : XK), Room k (bodyX P w K mg base Nnumber_of "number_of" snumber_of (He.fAd K ("number_of", none)) cdv A outer s H E).A → ∀ ds rt xs, φ ds rt xs → ds.length = 3 →
      WD (bodyX P w K mg base Nnumber_of "number_of" snumber_of (He.fAd K ("number_of", none)) cdv A outer s H E) (fun x _ => xs x) (defBody snumber_of) (env0 Nnumber_of ds) { nx := fun _ => rt false .non, rt := fun o d _ => rt o d }) : FnD P w K mg base (k + 1) (He.fAd K ("number_of", none)) 3 φ := by
  obtain ⟨fd, F⟩ := T.dnumber_of
  exact fn_D (He5.fun_of F) scnumber_of (F.bindsN fun _ _ _ _ _ _ us hl => match us, hl with | [_, _, _], _ => rfl) hb
theorem mklook_at_piece (T : Txt K mg) {k : Nat} {φ : Ph} (hb : ∀ (cdv : Value) (A : Around) (outer : List Env) (s : Shared) (H : Hp) (E : XK), Room k (bodyX P w K mg base Nlook_at_piece "look_at_piece" slook_at_piece (He.fAd K ("look_at_piece", none)) cdv A outer s H E).A → ∀ ds rt xs, φ ds rt xs → ds.length = 2 →
      WD (bodyX P w K mg base Nlook_at_piece "look_at_piece" slook_at_piece (He.fAd K ("look_at_piece", none)) cdv A outer s H E) (fun x _ => xs x) (defBody slook_at_piece) (env0 Nlook_at_piece ds) { nx := fun _ => rt false .non, rt := fun o d _ => rt o d }) : FnD P w K mg base (k + 1) (He.fAd K ("look_at_piece", none)) 2 φ := by
  obtain ⟨fd, F⟩ := T.dlook_at_piece
  exact fn_D (He5.fun_of F) sclook_at_piece (F.bindsN fun _ _ _ _ _ _ us hl => match us, hl with | [_, _], _ => rfl) hb
theorem mkedge (T : Txt K mg) {k : Nat} {φ : Ph} (hb : ∀ (cdv : Value) (A : Around) (outer : List Env) (s : Shared) (H : Hp) (E : XK), Room k (bodyX P w K mg base Nedge "edge" sedge (He.fAd K ("edge", none)) cdv A outer s H E).A → ∀ ds rt xs, φ ds rt xs → ds.length = 3 →
      WD (bodyX P w K mg base Nedge "edge" sedge (He.fAd K ("edge", none)) cdv A outer s H E) (fun x _ => xs x) (defBody sedge) (env0 Nedge ds) { nx := fun _ => rt false .non, rt := fun o d _ => rt o d }) : FnD P w K mg base (k + 1) (He.fAd K ("edge", none)) 3 φ := by
  obtain ⟨fd, F⟩ := T.dedge
  exact fn_D (He5.fun_of F) scedge (F.bindsN fun _ _ _ _ _ _ us hl => match us, hl with | [_, _, _], _ => rfl) hb
theorem mkown_rank (T : Txt K mg) {k : Nat} {φ : Ph} (hb : ∀ (cdv : Value) (A : Around) (outer : List Env) (s : Shared) (H : Hp) (E : XK), Room k (bodyX P w K mg base Nown_rank "own_rank" sown_rank (He.fAd K ("own_rank", none)) cdv A outer s H E).A → ∀ ds rt xs, φ ds rt xs → ds.length = 2 →
      WD (bodyX P w K mg base Nown_rank "own_rank" sown_rank (He.fAd K ("own_rank", none)) cdv A outer s H E) (fun x _ => xs x) (defBody sown_rank) (env0 Nown_rank ds) { nx := fun _ => rt false .non, rt := fun o d _ => rt o d }) : FnD P w K mg base (k + 1) (He.fAd K ("own_rank", none)) 2 φ := by
  obtain ⟨fd, F⟩ := T.down_rank
  exact fn_D (He5.fun_of F) scown_rank (F.bindsN fun _ _ _ _ _ _ us hl => match us, hl with | [_, _], _ => rfl) hb
theorem mkjoined_over (T : Txt K mg) {k : Nat} {φ : Ph} (hb : ∀ (cdv : Value) (A : Around) (outer : List Env) (s : Shared) (H : Hp) (E : XK), Room k (bodyX P w K mg base Njoined_over "joined_over" sjoined_over (He.fAd K ("joined_over", none)) cdv A outer s H E).A → ∀ ds rt xs, φ ds rt xs → ds.length = 3 →
      WD (bodyX P w K mg base Njoined_over "joined_over" sjoined_over (He.fAd K ("joined_over", none)) cdv A outer s H E) (fun x _ => xs x) (defBody sjoined_over) (env0 Njoined_over ds) { nx := fun _ => rt false .non, rt := fun o d _ => rt o d }) : FnD P w K mg base (k + 1) (He.fAd K ("joined_over", none)) 3 φ := by
  obtain ⟨fd, F⟩ := T.djoined_over
  exact fn_D (He5.fun_of F) scjoined_over (F.bindsN fun _ _ _ _ _ _ us hl => match us, hl with | [_, _, _], _ => rfl) hb
theorem mkstands_alone (T : Txt K mg) {k : Nat} {φ : Ph} (hb : ∀ (cdv : Value) (A : Around) (outer : List Env) (s : Shared) (H : Hp) (E : XK), Room k (bodyX P w K mg base Nstands_alone "stands_alone" sstands_alone (He.fAd K ("stands_alone", none)) cdv A outer s H E).A → ∀ ds rt xs, φ ds rt xs → ds.length = 2 →
      WD (bodyX P w K mg base Nstands_alone "stands_alone" sstands_alone (He.fAd K ("stands_alone", none)) cdv A outer s H E) (fun x _ => xs x) (defBody sstands_alone) (env0 Nstands_alone ds) { nx := fun _ => rt false .non, rt := fun o d _ => rt o d }) : FnD P w K mg base (k + 1) (He.fAd K ("stands_alone", none)) 2 φ := by
  obtain ⟨fd, F⟩ := T.dstands_alone
  exact fn_D (He5.fun_of F) scstands_alone (F.bindsN fun _ _ _ _ _ _ us hl => match us, hl with | [_, _], _ => rfl) hb
theorem mkFollows_init (T : Txt K mg) {k : Nat} {φ : PhI} (hb : ∀ (cdv : Value) (A : Around) (outer : List Env) (s : Shared) (H : Hp) (E : XK), Room k (bodyX P w K mg base NFollows_init "Follows.__init__" sFollows_init (He.fAd K ("Follows", some "__init__")) cdv A outer s H E).A → ∀ x ds rt xs, φ ds rt xs → ds.length = 1 →
      WD (bodyX P w K mg base NFollows_init "Follows.__init__" sFollows_init (He.fAd K ("Follows", some "__init__")) cdv A outer s H E) (fun y _ => xs y) (defBody sFollows_init) (envI NFollows_init x (He.ga K "Follows") ds) { nx := fun Γ => ∃ fs, Γ[0]? = some (some (true, .adr x (.ins (He.ga K "Follows") fs))) ∧ rt fs, rt := fun _ _ _ => False, lb := [x] }) : FnI P w K mg base (k + 1) (He.fAd K ("Follows", some "__init__")) (He.ga K "Follows") 1 φ := by
  obtain ⟨fd, F⟩ := T.dFollows_init
  exact fn_I (He5.fun_of F) scFollows_init (F.bindsN fun _ _ _ _ _ _ us hl => match us, hl with | [_, _], _ => rfl) rfl hb
theorem mkFollows_table (T : Txt K mg) {k : Nat} {φ : Ph} (hb : ∀ (cdv : Value) (A : Around) (outer : List Env) (s : Shared) (H : Hp) (E : XK), Room k (bodyX P w K mg base NFollows_table "Follows.table" sFollows_table (He.fAd K ("Follows", some "table")) cdv A outer s H E).A → ∀ ds rt xs, φ ds rt xs → ds.length = 1 →
      WD (bodyX P w K mg base NFollows_table "Follows.table" sFollows_table (He.fAd K ("Follows", some "table")) cdv A outer s H E) (fun x _ => xs x) (defBody sFollows_table) (env0 NFollows_table ds) { nx := fun _ => rt false .non, rt := fun o d _ => rt o d }) : FnD P w K mg base (k + 1) (He.fAd K ("Follows", some "table")) 1 φ := by
  obtain ⟨fd, F⟩ := T.dFollows_table
  exact fn_D (He5.fun_of F) scFollows_table (F.bindsN fun _ _ _ _ _ _ us hl => match us, hl with | [_], _ => rfl) hb
theorem mkFollows_is_alone (T : Txt K mg) {k : Nat} {φ : Ph} (hb : ∀ (cdv : Value) (A : Around) (outer : List Env) (s : Shared) (H : Hp) (E : XK), Room k (bodyX P w K mg base NFollows_is_alone "Follows.is_alone" sFollows_is_alone (He.fAd K ("Follows", some "is_alone")) cdv A outer s H E).A → ∀ ds rt xs, φ ds rt xs → ds.length = 2 →
      WD (bodyX P w K mg base NFollows_is_alone "Follows.is_alone" sFollows_is_alone (He.fAd K ("Follows", some "is_alone")) cdv A outer s H E) (fun x _ => xs x) (defBody sFollows_is_alone) (env0 NFollows_is_alone ds) { nx := fun _ => rt false .non, rt := fun o d _ => rt o d }) : FnD P w K mg base (k + 1) (He.fAd K ("Follows", some "is_alone")) 2 φ := by
  obtain ⟨fd, F⟩ := T.dFollows_is_alone
  exact fn_D (He5.fun_of F) scFollows_is_alone (F.bindsN fun _ _ _ _ _ _ us hl => match us, hl with | [_, _], _ => rfl) hb
theorem mkFollows_fits (T : Txt K mg) {k : Nat} {φ : Ph} (hb : ∀ (cdv : Value) (A : Around) (outer : List Env) (s : Shared) (H : Hp) (E : XK), Room k (bodyX P w K mg base NFollows_fits "Follows.fits" sFollows_fits (He.fAd K ("Follows", some "fits")) cdv A outer s H E).A → ∀ ds rt xs, φ ds rt xs → ds.length = 3 →
      WD (bodyX P w K mg base NFollows_fits "Follows.fits" sFollows_fits (He.fAd K ("Follows", some "fits")) cdv A outer s H E) (fun x _ => xs x) (defBody sFollows_fits) (env0 NFollows_fits ds) { nx := fun _ => rt false .non, rt := fun o d _ => rt o d }) : FnD P w K mg base (k + 1) (He.fAd K ("Follows", some "fits")) 3 φ := by
  obtain ⟨fd, F⟩ := T.dFollows_fits
  exact fn_D (He5.fun_of F) scFollows_fits (F.bindsN fun _ _ _ _ _ _ us hl => match us, hl with | [_, _, _], _ => rfl) hb
theorem mkFollows_alone (T : Txt K mg) {k : Nat} {φ : Ph} (hb : ∀ (cdv : Value) (A : Around) (outer : List Env) (s : Shared) (H : Hp) (E : XK), Room k (bodyX P w K mg base NFollows_alone "Follows.alone" sFollows_alone (He.fAd K ("Follows", some "alone")) cdv A outer s H E).A → ∀ ds rt xs, φ ds rt xs → ds.length = 1 →
      WD (bodyX P w K mg base NFollows_alone "Follows.alone" sFollows_alone (He.fAd K ("Follows", some "alone")) cdv A outer s H E) (fun x _ => xs x) (defBody sFollows_alone) (env0 NFollows_alone ds) { nx := fun _ => rt false .non, rt := fun o d _ => rt o d }) : FnD P w K mg base (k + 1) (He.fAd K ("Follows", some "alone")) 1 φ := by
  obtain ⟨fd, F⟩ := T.dFollows_alone
  exact fn_D (He5.fun_of F) scFollows_alone (F.bindsN fun _ _ _ _ _ _ us hl => match us, hl with | [_], _ => rfl) hb
theorem mkFollows_after (T : Txt K mg) {k : Nat} {φ : Ph} (hb : ∀ (cdv : Value) (A : Around) (outer : List Env) (s : Shared) (H : Hp) (E : XK), Room k (bodyX P w K mg base NFollows_after "Follows.after" sFollows_after (He.fAd K ("Follows", some "after")) cdv A outer s H E).A → ∀ ds rt xs, φ ds rt xs → ds.length = 2 →
      WD (bodyX P w K mg base NFollows_after "Follows.after" sFollows_after (He.fAd K ("Follows", some "after")) cdv A outer s H E) (fun x _ => xs x) (defBody sFollows_after) (env0 NFollows_after ds) { nx := fun _ => rt false .non, rt := fun o d _ => rt o d }) : FnD P w K mg base (k + 1) (He.fAd K ("Follows", some "after")) 2 φ := by
  obtain ⟨fd, F⟩ := T.dFollows_after
  exact fn_D (He5.fun_of F) scFollows_after (F.bindsN fun _ _ _ _ _ _ us hl => match us, hl with | [_, _], _ => rfl) hb
theorem mkFollows_ahead (T : Txt K mg) {k : Nat} {φ : Ph} (hb : ∀ (cdv : Value) (A : Around) (outer : List Env) (s : Shared) (H : Hp) (E : XK), Room k (bodyX P w K mg base NFollows_ahead "Follows.ahead" sFollows_ahead (He.fAd K ("Follows", some "ahead")) cdv A outer s H E).A → ∀ ds rt xs, φ ds rt xs → ds.length = 2 →
      WD (bodyX P w K mg base NFollows_ahead "Follows.ahead" sFollows_ahead (He.fAd K ("Follows", some "ahead")) cdv A outer s H E) (fun x _ => xs x) (defBody sFollows_ahead) (env0 NFollows_ahead ds) { nx := fun _ => rt false .non, rt := fun o d _ => rt o d }) : FnD P w K mg base (k + 1) (He.fAd K ("Follows", some "ahead")) 2 φ := by
  obtain ⟨fd, F⟩ := T.dFollows_ahead
  exact fn_D (He5.fun_of F) scFollows_ahead (F.bindsN fun _ _ _ _ _ _ us hl => match us, hl with | [_, _], _ => rfl) hb
theorem mkFollows_may (T : Txt K mg) {k : Nat} {φ : Ph} (hb : ∀ (cdv : Value) (A : Around) (outer : List Env) (s : Shared) (H : Hp) (E : XK), Room k (bodyX P w K mg base NFollows_may "Follows.may" sFollows_may (He.fAd K ("Follows", some "may")) cdv A outer s H E).A → ∀ ds rt xs, φ ds rt xs → ds.length = 3 →
      WD (bodyX P w K mg base NFollows_may "Follows.may" sFollows_may (He.fAd K ("Follows", some "may")) cdv A outer s H E) (fun x _ => xs x) (defBody sFollows_may) (env0 NFollows_may ds) { nx := fun _ => rt false .non, rt := fun o d _ => rt o d }) : FnD P w K mg base (k + 1) (He.fAd K ("Follows", some "may")) 3 φ := by
  obtain ⟨fd, F⟩ := T.dFollows_may
  exact fn_D (He5.fun_of F) scFollows_may (F.bindsN fun _ _ _ _ _ _ us hl => match us, hl with | [_, _, _], _ => rfl) hb
theorem mkis_sign (T : Txt K mg) {k : Nat} {φ : Ph} (hb : ∀ (cdv : Value) (A : Around) (outer : List Env) (s : Shared) (H : Hp) (E : XK), Room k (bodyX P w K mg base Nis_sign "is_sign" sis_sign (He.fAd K ("is_sign", none)) cdv A outer s H E).A → ∀ ds rt xs, φ ds rt xs → ds.length = 1 →
      WD (bodyX P w K mg base Nis_sign "is_sign" sis_sign (He.fAd K ("is_sign", none)) cdv A outer s H E) (fun x _ => xs x) (defBody sis_sign) (env0 Nis_sign ds) { nx := fun _ => rt false .non, rt := fun o d _ => rt o d }) : FnD P w K mg base (k + 1) (He.fAd K ("is_sign", none)) 1 φ := by
  obtain ⟨fd, F⟩ := T.dis_sign
  exact fn_D (He5.fun_of F) scis_sign (F.bindsN fun _ _ _ _ _ _ us hl => match us, hl with | [_], _ => rfl) hb
theorem mklook_at_signs (T : Txt K mg) {k : Nat} {φ : Ph} (hb : ∀ (cdv : Value) (A : Around) (outer : List Env) (s : Shared) (H : Hp) (E : XK), Room k (bodyX P w K mg base Nlook_at_signs "look_at_signs" slook_at_signs (He.fAd K ("look_at_signs", none)) cdv A outer s H E).A → ∀ ds rt xs, φ ds rt xs → ds.length = 1 →
      WD (bodyX P w K mg base Nlook_at_signs "look_at_signs" slook_at_signs (He.fAd K ("look_at_signs", none)) cdv A outer s H E) (fun x _ => xs x) (defBody slook_at_signs) (env0 Nlook_at_signs ds) { nx := fun _ => rt false .non, rt := fun o d _ => rt o d }) : FnD P w K mg base (k + 1) (He.fAd K ("look_at_signs", none)) 1 φ := by
  obtain ⟨fd, F⟩ := T.dlook_at_signs
  exact fn_D (He5.fun_of F) sclook_at_signs (F.bindsN fun _ _ _ _ _ _ us hl => match us, hl with | [_], _ => rfl) hb
theorem mkis_row (T : Txt K mg) {k : Nat} {φ : Ph} (hb : ∀ (cdv : Value) (A : Around) (outer : List Env) (s : Shared) (H : Hp) (E : XK), Room k (bodyX P w K mg base Nis_row "is_row" sis_row (He.fAd K ("is_row", none)) cdv A outer s H E).A → ∀ ds rt xs, φ ds rt xs → ds.length = 2 →
      WD (bodyX P w K mg base Nis_row "is_row" sis_row (He.fAd K ("is_row", none)) cdv A outer s H E) (fun x _ => xs x) (defBody sis_row) (env0 Nis_row ds) { nx := fun _ => rt false .non, rt := fun o d _ => rt o d }) : FnD P w K mg base (k + 1) (He.fAd K ("is_row", none)) 2 φ := by
  obtain ⟨fd, F⟩ := T.dis_row
  exact fn_D (He5.fun_of F) scis_row (F.bindsN fun _ _ _ _ _ _ us hl => match us, hl with | [_, _], _ => rfl) hb
theorem mkTable_init (T : Txt K mg) {k : Nat} {φ : PhI} (hb : ∀ (cdv : Value) (A : Around) (outer : List Env) (s : Shared) (H : Hp) (E : XK), Room k (bodyX P w K mg base NTable_init "Table.__init__" sTable_init (He.fAd K ("Table", some "__init__")) cdv A outer s H E).A → ∀ x ds rt xs, φ ds rt xs → ds.length = 2 →
      WD (bodyX P w K mg base NTable_init "Table.__init__" sTable_init (He.fAd K ("Table", some "__init__")) cdv A outer s H E) (fun y _ => xs y) (defBody sTable_init) (envI NTable_init x (He.ga K "Table") ds) { nx := fun Γ => ∃ fs, Γ[0]? = some (some (true, .adr x (.ins (He.ga K "Table") fs))) ∧ rt fs, rt := fun _ _ _ => False, lb := [x] }) : FnI P w K mg base (k + 1) (He.fAd K ("Table", some "__init__")) (He.ga K "Table") 2 φ := by
  obtain ⟨fd, F⟩ := T.dTable_init
  exact fn_I (He5.fun_of F) scTable_init (F.bindsN fun _ _ _ _ _ _ us hl => match us, hl with | [_, _, _], _ => rfl) rfl hb
theorem mkTable_signs (T : Txt K mg) {k : Nat} {φ : Ph} (hb : ∀ (cdv : Value) (A : Around) (outer : List Env) (s : Shared) (H : Hp) (E : XK), Room k (bodyX P w K mg base NTable_signs "Table.signs" sTable_signs (He.fAd K ("Table", some "signs")) cdv A outer s H E).A → ∀ ds rt xs, φ ds rt xs → ds.length = 1 →
      WD (bodyX P w K mg base NTable_signs "Table.signs" sTable_signs (He.fAd K ("Table", some "signs")) cdv A outer s H E) (fun x _ => xs x) (defBody sTable_signs) (env0 NTable_signs ds) { nx := fun _ => rt false .non, rt := fun o d _ => rt o d }) : FnD P w K mg base (k + 1) (He.fAd K ("Table", some "signs")) 1 φ := by
  obtain ⟨fd, F⟩ := T.dTable_signs
  exact fn_D (He5.fun_of F) scTable_signs (F.bindsN fun _ _ _ _ _ _ us hl => match us, hl with | [_], _ => rfl) hb
theorem mkTable_rows (T : Txt K mg) {k : Nat} {φ : Ph} (hb : ∀ (cdv : Value) (A : Around) (outer : List Env) (s : Shared) (H : Hp) (E : XK), Room k (bodyX P w K mg base NTable_rows "Table.rows" sTable_rows (He.fAd K ("Table", some "rows")) cdv A outer s H E).A → ∀ ds rt xs, φ ds rt xs → ds.length = 1 →
      WD (bodyX P w K mg base NTable_rows "Table.rows" sTable_rows (He.fAd K ("Table", some "rows")) cdv A outer s H E) (fun x _ => xs x) (defBody sTable_rows) (env0 NTable_rows ds) { nx := fun _ => rt false .non, rt := fun o d _ => rt o d }) : FnD P w K mg base (k + 1) (He.fAd K ("Table", some "rows")) 1 φ := by
  obtain ⟨fd, F⟩ := T.dTable_rows
  exact fn_D (He5.fun_of F) scTable_rows (F.bindsN fun _ _ _ _ _ _ us hl => match us, hl with | [_], _ => rfl) hb
theorem mkTable_pieces (T : Txt K mg) {k : Nat} {φ : Ph} (hb : ∀ (cdv : Value) (A : Around) (outer : List Env) (s : Shared) (H : Hp) (E : XK), Room k (bodyX P w K mg base NTable_pieces "Table.pieces" sTable_pieces (He.fAd K ("Table", some "pieces")) cdv A outer s H E).A → ∀ ds rt xs, φ ds rt xs → ds.length = 1 →
      WD (bodyX P w K mg base NTable_pieces "Table.pieces" sTable_pieces (He.fAd K ("Table", some "pieces")) cdv A outer s H E) (fun x _ => xs x) (defBody sTable_pieces) (env0 NTable_pieces ds) { nx := fun _ => rt false .non, rt := fun o d _ => rt o d }) : FnD P w K mg base (k + 1) (He.fAd K ("Table", some "pieces")) 1 φ := by
  obtain ⟨fd, F⟩ := T.dTable_pieces
  exact fn_D (He5.fun_of F) scTable_pieces (F.bindsN fun _ _ _ _ _ _ us hl => match us, hl with | [_], _ => rfl) hb
theorem mkTable_which (T : Txt K mg) {k : Nat} {φ : Ph} (hb : ∀ (cdv : Value) (A : Around) (outer : List Env) (s : Shared) (H : Hp) (E : XK), Room k (bodyX P w K mg base NTable_which "Table.which" sTable_which (He.fAd K ("Table", some "which")) cdv A outer s H E).A → ∀ ds rt xs, φ ds rt xs → ds.length = 2 →
      WD (bodyX P w K mg base NTable_which "Table.which" sTable_which (He.fAd K ("Table", some "which")) cdv A outer s H E) (fun x _ => xs x) (defBody sTable_which) (env0 NTable_which ds) { nx := fun _ => rt false .non, rt := fun o d _ => rt o d }) : FnD P w K mg base (k + 1) (He.fAd K ("Table", some "which")) 2 φ := by
  obtain ⟨fd, F⟩ := T.dTable_which
  exact fn_D (He5.fun_of F) scTable_which (F.bindsN fun _ _ _ _ _ _ us hl => match us, hl with | [_, _], _ => rfl) hb
theorem mkTable_piece (T : Txt K mg) {k : Nat} {φ : Ph} (hb : ∀ (cdv : Value) (A : Around) (outer : List Env) (s : Shared) (H : Hp) (E : XK), Room k (bodyX P w K mg base NTable_piece "Table.piece" sTable_piece (He.fAd K ("Table", some "piece")) cdv A outer s H E).A → ∀ ds rt xs, φ ds rt xs → ds.length = 2 →
      WD (bodyX P w K mg base NTable_piece "Table.piece" sTable_piece (He.fAd K ("Table", some "piece")) cdv A outer s H E) (fun x _ => xs x) (defBody sTable_piece) (env0 NTable_piece ds) { nx := fun _ => rt false .non, rt := fun o d _ => rt o d }) : FnD P w K mg base (k + 1) (He.fAd K ("Table", some "piece")) 2 φ := by
  obtain ⟨fd, F⟩ := T.dTable_piece
  exact fn_D (He5.fun_of F) scTable_piece (F.bindsN fun _ _ _ _ _ _ us hl => match us, hl with | [_, _], _ => rfl) hb
theorem mkTable_parts (T : Txt K mg) {k : Nat} {φ : Ph} (hb : ∀ (cdv : Value) (A : Around) (outer : List Env) (s : Shared) (H : Hp) (E : XK), Room k (bodyX P w K mg base NTable_parts "Table.parts" sTable_parts (He.fAd K ("Table", some "parts")) cdv A outer s H E).A → ∀ ds rt xs, φ ds rt xs → ds.length = 2 →
      WD (bodyX P w K mg base NTable_parts "Table.parts" sTable_parts (He.fAd K ("Table", some "parts")) cdv A outer s H E) (fun x _ => xs x) (defBody sTable_parts) (env0 NTable_parts ds) { nx := fun _ => rt false .non, rt := fun o d _ => rt o d }) : FnD P w K mg base (k + 1) (He.fAd K ("Table", some "parts")) 2 φ := by
  obtain ⟨fd, F⟩ := T.dTable_parts
  exact fn_D (He5.fun_of F) scTable_parts (F.bindsN fun _ _ _ _ _ _ us hl => match us, hl with | [_, _], _ => rfl) hb
theorem mkTable_rank (T : Txt K mg) {k : Nat} {φ : Ph} (hb : ∀ (cdv : Value) (A : Around) (outer : List Env) (s : Shared) (H : Hp) (E : XK), Room k (bodyX P w K mg base NTable_rank "Table.rank" sTable_rank (He.fAd K ("Table", some "rank")) cdv A outer s H E).A → ∀ ds rt xs, φ ds rt xs → ds.length = 3 →
      WD (bodyX P w K mg base NTable_rank "Table.rank" sTable_rank (He.fAd K ("Table", some "rank")) cdv A outer s H E) (fun x _ => xs x) (defBody sTable_rank) (env0 NTable_rank ds) { nx := fun _ => rt false .non, rt := fun o d _ => rt o d }) : FnD P w K mg base (k + 1) (He.fAd K ("Table", some "rank")) 3 φ := by
  obtain ⟨fd, F⟩ := T.dTable_rank
  exact fn_D (He5.fun_of F) scTable_rank (F.bindsN fun _ _ _ _ _ _ us hl => match us, hl with | [_, _, _], _ => rfl) hb
theorem mkTable_longest (T : Txt K mg) {k : Nat} {φ : Ph} (hb : ∀ (cdv : Value) (A : Around) (outer : List Env) (s : Shared) (H : Hp) (E : XK), Room k (bodyX P w K mg base NTable_longest "Table.longest" sTable_longest (He.fAd K ("Table", some "longest")) cdv A outer s H E).A → ∀ ds rt xs, φ ds rt xs → ds.length = 1 →
      WD (bodyX P w K mg base NTable_longest "Table.longest" sTable_longest (He.fAd K ("Table", some "longest")) cdv A outer s H E) (fun x _ => xs x) (defBody sTable_longest) (env0 NTable_longest ds) { nx := fun _ => rt false .non, rt := fun o d _ => rt o d }) : FnD P w K mg base (k + 1) (He.fAd K ("Table", some "longest")) 1 φ := by
  obtain ⟨fd, F⟩ := T.dTable_longest
  exact fn_D (He5.fun_of F) scTable_longest (F.bindsN fun _ _ _ _ _ _ us hl => match us, hl with | [_], _ => rfl) hb
theorem mkis_state (T : Txt K mg) {k : Nat} {φ : Ph} (hb : ∀ (cdv : Value) (A : Around) (outer : List Env) (s : Shared) (H : Hp) (E : XK), Room k (bodyX P w K mg base Nis_state "is_state" sis_state (He.fAd K ("is_state", none)) cdv A outer s H E).A → ∀ ds rt xs, φ ds rt xs → ds.length = 2 →
      WD (bodyX P w K mg base Nis_state "is_state" sis_state (He.fAd K ("is_state", none)) cdv A outer s H E) (fun x _ => xs x) (defBody sis_state) (env0 Nis_state ds) { nx := fun _ => rt false .non, rt := fun o d _ => rt o d }) : FnD P w K mg base (k + 1) (He.fAd K ("is_state", none)) 2 φ := by
  obtain ⟨fd, F⟩ := T.dis_state
  exact fn_D (He5.fun_of F) scis_state (F.bindsN fun _ _ _ _ _ _ us hl => match us, hl with | [_, _], _ => rfl) hb
theorem mkis_way (T : Txt K mg) {k : Nat} {φ : Ph} (hb : ∀ (cdv : Value) (A : Around) (outer : List Env) (s : Shared) (H : Hp) (E : XK), Room k (bodyX P w K mg base Nis_way "is_way" sis_way (He.fAd K ("is_way", none)) cdv A outer s H E).A → ∀ ds rt xs, φ ds rt xs → ds.length = 2 →
      WD (bodyX P w K mg base Nis_way "is_way" sis_way (He.fAd K ("is_way", none)) cdv A outer s H E) (fun x _ => xs x) (defBody sis_way) (env0 Nis_way ds) { nx := fun _ => rt false .non, rt := fun o d _ => rt o d }) : FnD P w K mg base (k + 1) (He.fAd K ("is_way", none)) 2 φ := by
  obtain ⟨fd, F⟩ := T.dis_way
  exact fn_D (He5.fun_of F) scis_way (F.bindsN fun _ _ _ _ _ _ us hl => match us, hl with | [_, _], _ => rfl) hb
theorem mkGrammar_init (T : Txt K mg) {k : Nat} {φ : PhI} (hb : ∀ (cdv : Value) (A : Around) (outer : List Env) (s : Shared) (H : Hp) (E : XK), Room k (bodyX P w K mg base NGrammar_init "Grammar.__init__" sGrammar_init (He.fAd K ("Grammar", some "__init__")) cdv A outer s H E).A → ∀ x ds rt xs, φ ds rt xs → ds.length = 3 →
      WD (bodyX P w K mg base NGrammar_init "Grammar.__init__" sGrammar_init (He.fAd K ("Grammar", some "__init__")) cdv A outer s H E) (fun y _ => xs y) (defBody sGrammar_init) (envI NGrammar_init x (He.ga K "Grammar") ds) { nx := fun Γ => ∃ fs, Γ[0]? = some (some (true, .adr x (.ins (He.ga K "Grammar") fs))) ∧ rt fs, rt := fun _ _ _ => False, lb := [x] }) : FnI P w K mg base (k + 1) (He.fAd K ("Grammar", some "__init__")) (He.ga K "Grammar") 3 φ := by
  obtain ⟨fd, F⟩ := T.dGrammar_init
  exact fn_I (He5.fun_of F) scGrammar_init (F.bindsN fun _ _ _ _ _ _ us hl => match us, hl with | [_, _, _, _], _ => rfl) rfl hb
theorem mkGrammar_many (T : Txt K mg) {k : Nat} {φ : Ph} (hb : ∀ (cdv : Value) (A : Around) (outer : List Env) (s : Shared) (H : Hp) (E : XK), Room k (bodyX P w K mg base NGrammar_many "Grammar.many" sGrammar_many (He.fAd K ("Grammar", some "many")) cdv A outer s H E).A → ∀ ds rt xs, φ ds rt xs → ds.length = 1 →
      WD (bodyX P w K mg base NGrammar_many "Grammar.many" sGrammar_many (He.fAd K ("Grammar", some "many")) cdv A outer s H E) (fun x _ => xs x) (defBody sGrammar_many) (env0 NGrammar_many ds) { nx := fun _ => rt false .non, rt := fun o d _ => rt o d }) : FnD P w K mg base (k + 1) (He.fAd K ("Grammar", some "many")) 1 φ := by
  obtain ⟨fd, F⟩ := T.dGrammar_many
  exact fn_D (He5.fun_of F) scGrammar_many (F.bindsN fun _ _ _ _ _ _ us hl => match us, hl with | [_], _ => rfl) hb
theorem mkGrammar_ways (T : Txt K mg) {k : Nat} {φ : Ph} (hb : ∀ (cdv : Value) (A : Around) (outer : List Env) (s : Shared) (H : Hp) (E : XK), Room k (bodyX P w K mg base NGrammar_ways "Grammar.ways" sGrammar_ways (He.fAd K ("Grammar", some "ways")) cdv A outer s H E).A → ∀ ds rt xs, φ ds rt xs → ds.length = 1 →
      WD (bodyX P w K mg base NGrammar_ways "Grammar.ways" sGrammar_ways (He.fAd K ("Grammar", some "ways")) cdv A outer s H E) (fun x _ => xs x) (defBody sGrammar_ways) (env0 NGrammar_ways ds) { nx := fun _ => rt false .non, rt := fun o d _ => rt o d }) : FnD P w K mg base (k + 1) (He.fAd K ("Grammar", some "ways")) 1 φ := by
  obtain ⟨fd, F⟩ := T.dGrammar_ways
  exact fn_D (He5.fun_of F) scGrammar_ways (F.bindsN fun _ _ _ _ _ _ us hl => match us, hl with | [_], _ => rfl) hb
theorem mkGrammar_ends (T : Txt K mg) {k : Nat} {φ : Ph} (hb : ∀ (cdv : Value) (A : Around) (outer : List Env) (s : Shared) (H : Hp) (E : XK), Room k (bodyX P w K mg base NGrammar_ends "Grammar.ends" sGrammar_ends (He.fAd K ("Grammar", some "ends")) cdv A outer s H E).A → ∀ ds rt xs, φ ds rt xs → ds.length = 1 →
      WD (bodyX P w K mg base NGrammar_ends "Grammar.ends" sGrammar_ends (He.fAd K ("Grammar", some "ends")) cdv A outer s H E) (fun x _ => xs x) (defBody sGrammar_ends) (env0 NGrammar_ends ds) { nx := fun _ => rt false .non, rt := fun o d _ => rt o d }) : FnD P w K mg base (k + 1) (He.fAd K ("Grammar", some "ends")) 1 φ := by
  obtain ⟨fd, F⟩ := T.dGrammar_ends
  exact fn_D (He5.fun_of F) scGrammar_ends (F.bindsN fun _ _ _ _ _ _ us hl => match us, hl with | [_], _ => rfl) hb
theorem mkGrammar_leads (T : Txt K mg) {k : Nat} {φ : Ph} (hb : ∀ (cdv : Value) (A : Around) (outer : List Env) (s : Shared) (H : Hp) (E : XK), Room k (bodyX P w K mg base NGrammar_leads "Grammar.leads" sGrammar_leads (He.fAd K ("Grammar", some "leads")) cdv A outer s H E).A → ∀ ds rt xs, φ ds rt xs → ds.length = 3 →
      WD (bodyX P w K mg base NGrammar_leads "Grammar.leads" sGrammar_leads (He.fAd K ("Grammar", some "leads")) cdv A outer s H E) (fun x _ => xs x) (defBody sGrammar_leads) (env0 NGrammar_leads ds) { nx := fun _ => rt false .non, rt := fun o d _ => rt o d }) : FnD P w K mg base (k + 1) (He.fAd K ("Grammar", some "leads")) 3 φ := by
  obtain ⟨fd, F⟩ := T.dGrammar_leads
  exact fn_D (He5.fun_of F) scGrammar_leads (F.bindsN fun _ _ _ _ _ _ us hl => match us, hl with | [_, _, _], _ => rfl) hb
theorem mkGrammar_tells (T : Txt K mg) {k : Nat} {φ : Ph} (hb : ∀ (cdv : Value) (A : Around) (outer : List Env) (s : Shared) (H : Hp) (E : XK), Room k (bodyX P w K mg base NGrammar_tells "Grammar.tells" sGrammar_tells (He.fAd K ("Grammar", some "tells")) cdv A outer s H E).A → ∀ ds rt xs, φ ds rt xs → ds.length = 2 →
      WD (bodyX P w K mg base NGrammar_tells "Grammar.tells" sGrammar_tells (He.fAd K ("Grammar", some "tells")) cdv A outer s H E) (fun x _ => xs x) (defBody sGrammar_tells) (env0 NGrammar_tells ds) { nx := fun _ => rt false .non, rt := fun o d _ => rt o d }) : FnD P w K mg base (k + 1) (He.fAd K ("Grammar", some "tells")) 2 φ := by
  obtain ⟨fd, F⟩ := T.dGrammar_tells
  exact fn_D (He5.fun_of F) scGrammar_tells (F.bindsN fun _ _ _ _ _ _ us hl => match us, hl with | [_, _], _ => rfl) hb
theorem mk_law_cell_at (T : Txt K mg) {k : Nat} {φ : Ph} (hb : ∀ (cdv : Value) (A : Around) (outer : List Env) (s : Shared) (H : Hp) (E : XK), Room k (bodyX P w K mg base N_law_cell_at "_law_cell_at" s_law_cell_at (He.fAd K ("_law_cell_at", none)) cdv A outer s H E).A → ∀ ds rt xs, φ ds rt xs → ds.length = 2 →
      WD (bodyX P w K mg base N_law_cell_at "_law_cell_at" s_law_cell_at (He.fAd K ("_law_cell_at", none)) cdv A outer s H E) (fun x _ => xs x) (defBody s_law_cell_at) (env0 N_law_cell_at ds) { nx := fun _ => rt false .non, rt := fun o d _ => rt o d }) : FnD P w K mg base (k + 1) (He.fAd K ("_law_cell_at", none)) 2 φ := by
  obtain ⟨fd, F⟩ := T.d_law_cell_at
  exact fn_D (He5.fun_of F) sc_law_cell_at (F.bindsN fun _ _ _ _ _ _ us hl => match us, hl with | [_, _], _ => rfl) hb
theorem mk_law_numbers (T : Txt K mg) {k : Nat} {φ : Ph} (hb : ∀ (cdv : Value) (A : Around) (outer : List Env) (s : Shared) (H : Hp) (E : XK), Room k (bodyX P w K mg base N_law_numbers "_law_numbers" s_law_numbers (He.fAd K ("_law_numbers", none)) cdv A outer s H E).A → ∀ ds rt xs, φ ds rt xs → ds.length = 3 →
      WD (bodyX P w K mg base N_law_numbers "_law_numbers" s_law_numbers (He.fAd K ("_law_numbers", none)) cdv A outer s H E) (fun x _ => xs x) (defBody s_law_numbers) (env0 N_law_numbers ds) { nx := fun _ => rt false .non, rt := fun o d _ => rt o d }) : FnD P w K mg base (k + 1) (He.fAd K ("_law_numbers", none)) 3 φ := by
  obtain ⟨fd, F⟩ := T.d_law_numbers
  exact fn_D (He5.fun_of F) sc_law_numbers (F.bindsN fun _ _ _ _ _ _ us hl => match us, hl with | [_, _, _], _ => rfl) hb
theorem mk_law_signs (T : Txt K mg) {k : Nat} {φ : Ph} (hb : ∀ (cdv : Value) (A : Around) (outer : List Env) (s : Shared) (H : Hp) (E : XK), Room k (bodyX P w K mg base N_law_signs "_law_signs" s_law_signs (He.fAd K ("_law_signs", none)) cdv A outer s H E).A → ∀ ds rt xs, φ ds rt xs → ds.length = 1 →
      WD (bodyX P w K mg base N_law_signs "_law_signs" s_law_signs (He.fAd K ("_law_signs", none)) cdv A outer s H E) (fun x _ => xs x) (defBody s_law_signs) (env0 N_law_signs ds) { nx := fun _ => rt false .non, rt := fun o d _ => rt o d }) : FnD P w K mg base (k + 1) (He.fAd K ("_law_signs", none)) 1 φ := by
  obtain ⟨fd, F⟩ := T.d_law_signs
  exact fn_D (He5.fun_of F) sc_law_signs (F.bindsN fun _ _ _ _ _ _ us hl => match us, hl with | [_], _ => rfl) hb
theorem mk_law_rows (T : Txt K mg) {k : Nat} {φ : Ph} (hb : ∀ (cdv : Value) (A : Around) (outer : List Env) (s : Shared) (H : Hp) (E : XK), Room k (bodyX P w K mg base N_law_rows "_law_rows" s_law_rows (He.fAd K ("_law_rows", none)) cdv A outer s H E).A → ∀ ds rt xs, φ ds rt xs → ds.length = 2 →
      WD (bodyX P w K mg base N_law_rows "_law_rows" s_law_rows (He.fAd K ("_law_rows", none)) cdv A outer s H E) (fun x _ => xs x) (defBody s_law_rows) (env0 N_law_rows ds) { nx := fun _ => rt false .non, rt := fun o d _ => rt o d }) : FnD P w K mg base (k + 1) (He.fAd K ("_law_rows", none)) 2 φ := by
  obtain ⟨fd, F⟩ := T.d_law_rows
  exact fn_D (He5.fun_of F) sc_law_rows (F.bindsN fun _ _ _ _ _ _ us hl => match us, hl with | [_, _], _ => rfl) hb
theorem mk_law_cut (T : Txt K mg) {k : Nat} {φ : Ph} (hb : ∀ (cdv : Value) (A : Around) (outer : List Env) (s : Shared) (H : Hp) (E : XK), Room k (bodyX P w K mg base N_law_cut "_law_cut" s_law_cut (He.fAd K ("_law_cut", none)) cdv A outer s H E).A → ∀ ds rt xs, φ ds rt xs → ds.length = 2 →
      WD (bodyX P w K mg base N_law_cut "_law_cut" s_law_cut (He.fAd K ("_law_cut", none)) cdv A outer s H E) (fun x _ => xs x) (defBody s_law_cut) (env0 N_law_cut ds) { nx := fun _ => rt false .non, rt := fun o d _ => rt o d }) : FnD P w K mg base (k + 1) (He.fAd K ("_law_cut", none)) 2 φ := by
  obtain ⟨fd, F⟩ := T.d_law_cut
  exact fn_D (He5.fun_of F) sc_law_cut (F.bindsN fun _ _ _ _ _ _ us hl => match us, hl with | [_, _], _ => rfl) hb
theorem mk_law_ways (T : Txt K mg) {k : Nat} {φ : Ph} (hb : ∀ (cdv : Value) (A : Around) (outer : List Env) (s : Shared) (H : Hp) (E : XK), Room k (bodyX P w K mg base N_law_ways "_law_ways" s_law_ways (He.fAd K ("_law_ways", none)) cdv A outer s H E).A → ∀ ds rt xs, φ ds rt xs → ds.length = 3 →
      WD (bodyX P w K mg base N_law_ways "_law_ways" s_law_ways (He.fAd K ("_law_ways", none)) cdv A outer s H E) (fun x _ => xs x) (defBody s_law_ways) (env0 N_law_ways ds) { nx := fun _ => rt false .non, rt := fun o d _ => rt o d }) : FnD P w K mg base (k + 1) (He.fAd K ("_law_ways", none)) 3 φ := by
  obtain ⟨fd, F⟩ := T.d_law_ways
  exact fn_D (He5.fun_of F) sc_law_ways (F.bindsN fun _ _ _ _ _ _ us hl => match us, hl with | [_, _, _], _ => rfl) hb
theorem mk_law_counted (T : Txt K mg) {k : Nat} {φ : Ph} (hb : ∀ (cdv : Value) (A : Around) (outer : List Env) (s : Shared) (H : Hp) (E : XK), Room k (bodyX P w K mg base N_law_counted "_law_counted" s_law_counted (He.fAd K ("_law_counted", none)) cdv A outer s H E).A → ∀ ds rt xs, φ ds rt xs → ds.length = 4 →
      WD (bodyX P w K mg base N_law_counted "_law_counted" s_law_counted (He.fAd K ("_law_counted", none)) cdv A outer s H E) (fun x _ => xs x) (defBody s_law_counted) (env0 N_law_counted ds) { nx := fun _ => rt false .non, rt := fun o d _ => rt o d }) : FnD P w K mg base (k + 1) (He.fAd K ("_law_counted", none)) 4 φ := by
  obtain ⟨fd, F⟩ := T.d_law_counted
  exact fn_D (He5.fun_of F) sc_law_counted (F.bindsN fun _ _ _ _ _ _ us hl => match us, hl with | [_, _, _, _], _ => rfl) hb
theorem mk_law_tells (T : Txt K mg) {k : Nat} {φ : Ph} (hb : ∀ (cdv : Value) (A : Around) (outer : List Env) (s : Shared) (H : Hp) (E : XK), Room k (bodyX P w K mg base N_law_tells "_law_tells" s_law_tells (He.fAd K ("_law_tells", none)) cdv A outer s H E).A → ∀ ds rt xs, φ ds rt xs → ds.length = 3 →
      WD (bodyX P w K mg base N_law_tells "_law_tells" s_law_tells (He.fAd K ("_law_tells", none)) cdv A outer s H E) (fun x _ => xs x) (defBody s_law_tells) (env0 N_law_tells ds) { nx := fun _ => rt false .non, rt := fun o d _ => rt o d }) : FnD P w K mg base (k + 1) (He.fAd K ("_law_tells", none)) 3 φ := by
  obtain ⟨fd, F⟩ := T.d_law_tells
  exact fn_D (He5.fun_of F) sc_law_tells (F.bindsN fun _ _ _ _ _ _ us hl => match us, hl with | [_, _, _], _ => rfl) hb
theorem mklaw (T : Txt K mg) {k : Nat} {φ : Ph} (hb : ∀ (base : Heap) (cdv : Value) (A : Around) (outer : List Env) (s : Shared) (H : Hp) (E : XK), Room k (bodyX P w K mg base Nlaw "law" slaw (He.fAd K ("law", none)) cdv A outer s H E).A → ∀ ds rt xs, φ ds rt xs → ds.length = 1 →
      WD (bodyX P w K mg base Nlaw "law" slaw (He.fAd K ("law", none)) cdv A outer s H E) (fun x _ => xs x) (defBody slaw) (env0 Nlaw ds) { nx := fun _ => rt false .non, rt := fun o d _ => rt o d }) :
    ∃ fd, (∀ (s : Shared) (u : Value), BindsTo s fd ⟨[u], []⟩ [("_law_script", u)]) ∧ ∀ base : Heap, FnOk P w K mg base (L2.CX P w) (k + 1) (He.fAd K ("law", none)) fd ["_law_script"] (spD K 1 φ) := by
  obtain ⟨fd, F⟩ := T.dlaw
  have b := FunD.bindsA (ps := ["_law_script"]) F fun _ _ _ _ _ _ us hl => match us, hl with | [_], _ => rfl
  exact ⟨fd, fun s v => b s [v] rfl, fun base => fn_OK (He5.fun_of F) sclaw (hb base)⟩
end
abbrev R : PySem.W.OpenRow := PySem.W.OpenLaw.row PySem.Challenge.rw_joinranks_k99_whole_numbered_at_full_tab
abbrev hk : PySem.W.Hook := hookE 4 fa fn ex
def ob (s : PySem.W.SharedT) : He.AlD × Bool := obsEG 4 fa fn ex (HandSHeadRun.getT s)
theorem ob_eq (s : PySem.W.SharedT) : ob s = hk.obs s.abs := obsEG_eq (HandSHeadRun.getT_eq s)
def loose0 : List Str := ["_wall", "JoinError", "NoTable", "NoGrammar", "NoCutting", "NoSign", "NoPiece", "NoNumber", "NoPlace", "is_whole", "what_is_wrong", "look_at_cutting", "steps_behind", "all_steps", "many_from", "ways_by_signs", "how_many", "cutting_of", "number_of", "look_at_piece", "edge", "own_rank", "joined_over", "stands_alone", "Follows", "SIGNS", "MOST_SIGNS", "MOST_ROWS", "MOST_LENGTH", "is_sign"]
def loose1 : List Str := ["look_at_signs", "is_row", "Table", "MOST_STATES", "MOST_WAYS", "is_state", "is_way", "Grammar", "_law_cell_at", "_law_numbers", "_law_signs", "_law_rows", "_law_cut", "_law_ways", "_law_counted", "_law_tells"]
abbrev loose : List Str := loose0 ++ loose1
theorem run (w : World) : HandSHeadRun.RunEq R (PySem.W.view R.prog [56]) hk ob 20000 loose w := by
  intro os
  kernel_rfl
end Lw
namespace Lw
open PySem L2 DL TL
def isF (c : Nat) : Bool := decide (c ∈ ("0123456789" : Str).cps.toList)
def wN (z : Str) : Bool := z.cps.toList.all isF && (match z.cps.toList with
  | [] => false
  | c :: _ => !decide ((⟨#[c]⟩ : Str) = "0") || decide (z = "0"))
def numV (z : Str) : Option Int := if wN z = true ∧ z.length ≤ 60 then some ((NumText.digitsVal (tl z) : Nat) : Int) else none
theorem figs : ("0123456789" : Str).cps.toList = [48, 49, 50, 51, 52, 53, 54, 55, 56, 57] := by decide +kernel
theorem isF_iff {c : Nat} : isF c = true ↔ 48 ≤ c ∧ c ≤ 57 := by
  unfold isF
  rw [figs, decide_eq_true_iff]
  simp only [List.mem_cons, List.not_mem_nil, or_false]
  omega
theorem wN_digits {z : Str} (h : wN z = true) : NumText.AllDigits (tl z) ∧ tl z ≠ [] := by
  unfold wN at h
  rw [Bool.and_eq_true] at h
  refine ⟨fun c hc => isF_iff.mp (List.all_eq_true.mp h.1 c hc), fun e => ?_⟩
  have e' : z.cps.toList = [] := e
  rw [e'] at h
  cases h.2
theorem str_ne_empty {z : Str} : z = "" ↔ tl z = [] := by
  constructor
  · intro e; rw [e]; decide +kernel
  · intro e; exact ext_tl (e.trans (by decide +kernel : ([] : List Nat) = tl ("" : Str)))
def showNs (ns : List Int) : Str := Txt.join " " (ns.map fun n => (toString n : Str))
/-- what a text of numbers says -/
def allSome : List (Option Int) → Option (List Int)
  | [] => some []
  | none :: _ => none
  | some n :: r => (allSome r).map (n :: ·)
def readN (z : Str) : Option (List Int) := if z = "" then some [] else allSome ((Txt.split z " ").map numV)
def readD : D → Option (List Int)
  | .str z => readN z
  | _ => none
theorem allSome_eq {l : List (Option Int)} {ns : List Int} (h : l = ns.map some) : allSome l = some ns := by
  subst h
  induction ns with
  | nil => rfl
  | cons n r ih => show (allSome (r.map some)).map (n :: ·) = _; rw [ih]; rfl
theorem allSome_none {l : List (Option Int)} (h : none ∈ l) : allSome l = none := by
  induction l with
  | nil => cases h
  | cons a r ih =>
    cases a with
    | none => rfl
    | some n =>
      have : none ∈ r := by simpa using h
      show (allSome r).map (n :: ·) = _
      rw [ih this]; rfl
theorem allSome_some {l : List (Option Int)} (h : none ∉ l) : ∃ ns : List Int, l = ns.map some := by
  induction l with
  | nil => exact ⟨[], rfl⟩
  | cons a r ih =>
    obtain ⟨ns, e⟩ := ih fun z => h (List.mem_cons_of_mem _ z)
    cases a with
    | none => exact absurd List.mem_cons_self h
    | some n => exact ⟨n :: ns, by rw [e]; rfl⟩
/-- the parts of a text are no longer than it -/
theorem spl_len (S : List Nat) : ∀ (l : List Nat) (k : Nat) (acc p : List Nat), p ∈ spl S k acc l → p.length ≤ acc.length + l.length
  | [], k, acc, p, h => by rw [spl_nil] at h; rw [List.mem_singleton.mp h]; simp
  | c :: r, 0, acc, p, h => by
    unfold spl at h
    by_cases e : pre S (c :: r) = true
    · rw [if_pos e] at h
      rcases List.mem_cons.mp h with h | h
      · rw [h]; omega
      · have := spl_len S r _ [] p h
        simp only [List.length_nil, List.length_cons] at *; omega
    · rw [if_neg e] at h
      have := spl_len S r 0 _ p h
      simp only [List.length_append, List.length_cons, List.length_nil] at *; omega
  | c :: r, k + 1, acc, p, h => by
    unfold spl at h
    have := spl_len S r k acc p h
    simp only [List.length_cons] at *; omega
theorem spl_count (S : List Nat) : ∀ (l : List Nat) (k : Nat) (acc : List Nat), (spl S k acc l).length ≤ l.length + 1
  | [], k, acc => by rw [spl_nil]; simp
  | c :: r, 0, acc => by
    unfold spl
    by_cases e : pre S (c :: r) = true
    · rw [if_pos e]
      have := spl_count S r (S.length - 1) []
      simp only [List.length_cons] at *; omega
    · rw [if_neg e]
      have := spl_count S r 0 (acc ++ [c])
      simp only [List.length_cons] at *; omega
  | c :: r, k + 1, acc => by
    unfold spl
    have := spl_count S r k acc
    simp only [List.length_cons] at *; omega
theorem blank_tl : tl (" " : Str) = [32] := by decide +kernel
theorem split_tl (z : Str) : (Txt.split z " ").map tl = spl [32] 0 [] (tl z) := by
  rw [split_spl z " " (by rw [blank_tl]; simp) (kind_ok (by decide +kernel)), blank_tl]
theorem split_len {z p : Str} (h : p ∈ Txt.split z " ") : p.length ≤ z.length := by
  have h' : tl p ∈ spl [32] 0 [] (tl z) := by rw [← split_tl]; exact List.mem_map_of_mem h
  have := spl_len _ _ _ _ _ h'
  rw [len_tl, len_tl]
  simpa using this
theorem split_count (z : Str) : (Txt.split z " ").length ≤ z.length + 1 := by
  have := spl_count [32] (tl z) 0 []
  rw [← split_tl, List.length_map, ← len_tl] at this
  exact this
def isStr : D → Bool
  | .str _ => true
  | _ => false
end Lw

namespace Lw
open PySem L2 DL TL
section
variable {P : Program} {w : World} {K : PySem.W.Frag} {mg : Str → Option Value} {base : Heap}
/-! ### the law's numbers -/
def Below (ns sizes : List Int) : Prop := ∀ (j : Nat) (n s : Int), ns[j]? = some n → sizes[j]? = some s → 0 ≤ n ∧ n < s
theorem Below.snoc {ns sizes : List Int} {n s : Int} (h : Below ns sizes) (hs : sizes[ns.length]? = some s) (h0 : 0 ≤ n) (h1 : n < s) : Below (ns ++ [n]) sizes := fun j m t e1 e2 => by
  by_cases hj : j < ns.length
  · rw [List.getElem?_append_left hj] at e1
    exact h j m t e1 e2
  · have hj2 : j = ns.length := by
      have := (List.getElem?_eq_some_iff.mp e1).1
      simp only [List.length_append, List.length_cons, List.length_nil] at this
      omega
    subst hj2
    rw [List.getElem?_append_right (Nat.le_refl _), Nat.sub_self] at e1
    cases e1
    rw [hs] at e2; cases e2
    exact ⟨h0, h1⟩
def phNums : Ph := fun ds rt _ => ∃ (cell salt : Int) (sizes : List Int), ds = [.int cell, .int salt, .lst (sizes.map D.int)] ∧ (∀ s ∈ sizes, 0 < s ∧ s.natAbs.log2 < 9000) ∧ 0 ≤ salt ∧ salt ≤ 1000000 ∧ sizes.length ≤ 1000 ∧
  ∀ ns : List Int, ns.length = sizes.length → Below ns sizes → rt true (.lst (ns.map D.int))
theorem p__law_numbers (T : Txt K mg) : FnD P w K mg base 1 (He.fAd K ("_law_numbers", none)) 3 phNums := mk_law_numbers T fun cdv A outer s H E hr ds rt xs hφ hl => by
  obtain ⟨cell, salt, sizes, rfl, hs, hs0, hs1, hsz, h⟩ := hφ
  have e60 : CPow 10 18 := ⟨by decide, by decide, by decide⟩
  refine wd_cons (w_asg sc_law_numbers.nd rfl (.inl rfl) (i := 3) (ed_max2 (ed_name (i := 0) rfl rfl (.inl rfl) (ed_bin (ed_neg (ed_int ⟨1, rfl, ed_name (i := 0) rfl rfl (.inl rfl) (sub_ii ⟨_, _, rfl, rfl, ?_⟩)⟩)))) rfl T.zmax rfl))
  refine wd_cons (w_asg sc_law_numbers.nd rfl (.inl rfl) (i := 4) (ed_name (i := 3) rfl rfl (.inl rfl) ?_))
  refine wd_cons (w_asg sc_law_numbers.nd rfl (.inl rfl) (i := 5) (ed_lst (ea_nil ⟨by decide, ?_⟩)))
  have hx0 : 0 ≤ max cell (-1 - cell) := by omega
  generalize max cell (-1 - cell) = x at hx0 ⊢
  refine wd_cons (w_for rfl (ei_range1 (ed_len (ed_name (i := 2) rfl rfl (.inl rfl) ⟨_, rfl, ⟨_, rfl, by omega, by rw [List.length_map]; omega, fun i Γ => ∃ (left : Int) (ns : List Int) (o6 o7 : Option (Bool × D)),
    Γ = [some (false, .int cell), some (false, .int salt), some (false, .lst (sizes.map D.int)), some (false, .int x), some (false, .int left), some (true, .lst (ns.map D.int)), o6, o7] ∧ ns.length = i ∧ Below ns sizes ∧ 0 ≤ left,
    ⟨x, [], none, none, rfl, rfl, fun j n s e => by (cases j <;> cases e), hx0⟩, fun i d Γ' hd ⟨left, ns, o6, o7, e, hi, hb, hl0⟩ => ?_, fun Γ' ⟨left, ns, o6, o7, e, hi, hb, hl0⟩ => ?_⟩⟩) T.zlen rfl) T.zrange rfl))
  · subst e
    obtain ⟨hlt, rfl⟩ := rangeD_get hd
    rw [Int.zero_add]
    have hlt' : i < sizes.length := by
      have : i < ((sizes.map D.int).length : Int).toNat := hlt
      rw [List.length_map] at this
      omega
    obtain ⟨sz, hsz'⟩ : ∃ sz, sizes[i]? = some sz := ⟨_, List.getElem?_eq_getElem hlt'⟩
    obtain ⟨hp, hlog⟩ := hs sz (List.mem_of_getElem? hsz')
    have hat : L2.atI (sizes.map D.int) (i : Int) = some (.int sz) := atI_map D.int (at_nat hsz')
    have hl5 : (ns.map D.int).length < sizeLine := by
      rw [List.length_map, hi]
      exact Nat.lt_of_lt_of_le (Nat.lt_of_lt_of_le hlt' hsz) (by decide)
    have go : ∀ (n left' : Int) (o7' : Option (Bool × D)), 0 ≤ n → n < sz → 0 ≤ left' → ∃ (left : Int) (ns' : List Int) (o6 o7 : Option (Bool × D)),
        [some (false, D.int cell), some (false, .int salt), some (false, .lst (sizes.map D.int)), some (false, .int x), some (false, .int left'), some (true, .lst (ns.map D.int ++ [.int n])), some (false, .int (i : Int)), o7'] =
        [some (false, .int cell), some (false, .int salt), some (false, .lst (sizes.map D.int)), some (false, .int x), some (false, .int left), some (true, .lst (ns'.map D.int)), o6, o7] ∧ ns'.length = i + 1 ∧ Below ns' sizes ∧ 0 ≤ left := fun n left' o7' h0 h1 hl' =>
      ⟨left', ns ++ [n], some (false, .int (i : Int)), o7', by rw [List.map_append]; rfl, by rw [List.length_append, hi]; rfl, hb.snoc (by rw [hi]; exact hsz') h0 h1, hl'⟩
    refine td_name (i := 6) sc_law_numbers.nd rfl (.inl rfl) ?_
    refine wd_one (w_if (et_w (ew_and (et_cmp (ed_name (i := 3) rfl rfl (.inl rfl) (ed_bin (ed_int (ed_int (pow_ii e60 (ge_ii ⟨fun _ => ew_and1 (et_cmp (ed_name (i := 4) rfl rfl (.inl rfl) (ed_int (gt_ii ⟨fun _ => ?_, fun _ => ?_⟩)))), fun _ => ⟨fun e => (nomatch e), fun _ => ?_⟩⟩))))))))))
    · refine wd_cons (w_app (i := 5) rfl (.inl rfl) rfl (ed_bin (ed_name (i := 4) rfl rfl (.inl rfl) (ed_ix (ed_name (i := 2) rfl rfl (.inl rfl) (ed_name (i := 6) rfl rfl (.inl rfl) ⟨_, hat, mod_ii hp ⟨hl5, ?_⟩⟩))))))
      refine wd_one (w_asg sc_law_numbers.nd rfl (.inl rfl) (i := 4) (ed_bin (ed_name (i := 4) rfl rfl (.inl rfl) (ed_ix (ed_name (i := 2) rfl rfl (.inl rfl) (ed_name (i := 6) rfl rfl (.inl rfl) ⟨_, hat, fdiv_ii ⟨hp, hlog⟩ ?_⟩))))))
      exact go _ _ o7 (Int.emod_nonneg _ (by omega)) (Int.emod_lt_of_pos _ hp) (Int.ediv_nonneg hl0 (by omega))
    all_goals
      have hsx : (x % 2147483629 + 7919 * salt + 1).natAbs < 2 ^ 64 := by
        have h1 := Int.emod_nonneg x (show (2147483629 : Int) ≠ 0 by decide)
        have h2 := Int.emod_lt_of_pos x (show (0 : Int) < 2147483629 by decide)
        omega
      refine wd_cons <| asg 7 sc_law_numbers.nd rfl rfl <| ed_bin <| ed_bin <| ed_bin <| ed_bin <| ed_bin <| nl 3 rfl rfl rfl <| ed_int <| mod_ii (by decide) <| ed_bin <| ed_int <| nl 1 rfl rfl rfl <| mul_ii (.inl ⟨by decide, by decide⟩) <| add_ii <| ed_int <| add_ii <|
        ed_int <| pow_ii ⟨by decide, by decide, hsx⟩ <| ed_int <| mod_ii (by decide) ?_
      generalize hv1 : (_ : Int) % 2147483647 = v1
      have b1 : 0 ≤ v1 := hv1 ▸ Int.emod_nonneg _ (by decide)
      have c1 : v1 < 2147483647 := hv1 ▸ Int.emod_lt_of_pos _ (by decide)
      clear hv1
      refine wd_cons <| asg 7 sc_law_numbers.nd rfl rfl <| ed_bin <| ed_bin <| ed_bin <| nl 7 rfl rfl rfl <| ed_bin <| ed_int <| ed_bin <| nl 6 rfl rfl rfl <| ed_int <| add_ii <| mul_ii (.inl ⟨by decide, by decide⟩) <| add_ii <| ed_bin <| nl 6 rfl rfl rfl <| ed_int <| add_ii <|
        mul_ii (.inr ⟨by omega, by omega⟩) <| ed_int <| mod_ii (by decide) ?_
      generalize hv2 : (_ : Int) % 2147483629 = v2
      have b2 : 0 ≤ v2 := hv2 ▸ Int.emod_nonneg _ (by decide)
      have c2 : v2 < 2147483629 := hv2 ▸ Int.emod_lt_of_pos _ (by decide)
      clear hv2
      refine wd_cons <| asg 7 sc_law_numbers.nd rfl rfl <| ed_bin <| ed_bin <| ed_bin <| ed_bin <| nl 7 rfl rfl rfl <| ed_int <| pow_ii ⟨by decide, by decide, by omega⟩ <| ed_int <| mod_ii (by decide) <| ed_int <| mul_ii (.inr ⟨by decide, by decide⟩) <| ed_int <| mod_ii (by decide) ?_
      generalize (_ : Int) % 2147483629 = v3
      refine wd_one <| app 5 rfl (.inl rfl) rfl <| ed_bin <| ed_bin <| nl 7 rfl rfl rfl <| ed_int <| fdiv_ii ⟨by decide, by decide +kernel⟩ <| ed_ix <| nl 2 rfl rfl rfl <| nl 6 rfl rfl rfl <| ix_lst hat <| mod_ii hp ⟨hl5, ?_⟩
      exact go _ _ _ (Int.emod_nonneg _ (by omega)) (Int.emod_lt_of_pos _ hp) hl0
  · subst e
    refine wd_one (w_retO (i := 5) rfl (.inl rfl) rfl rfl (h ns ?_ hb))
    have : ns.length = ((sizes.map D.int).length : Int).toNat := by rw [hi]; exact rangeD_length _ _
    rw [List.length_map] at this
    omega
end
end Lw

namespace Lw
open PySem L2 DL TL
theorem log2_lt {n k : Nat} (h : n < 2 ^ k) (hk : 0 < k) : n.log2 < k := by
  by_cases e : n = 0
  · subst e; simpa using hk
  · exact (Nat.log2_lt e).mpr h
theorem b200 (n : Int) (h0 : 0 ≤ n) (h1 : n < 10 ^ 60) : n.natAbs < 2 ^ 200 := by
  have : (10 : Int) ^ 60 < 2 ^ 200 := by decide +kernel
  omega
/-! ### what is written is read -/
theorem numL_head : ∀ n : Nat, 1 ≤ n → ∃ c r, numL n = c :: r ∧ c ≠ 48 := by
  intro n
  induction n using Nat.strongRecOn with
  | ind n ih =>
    intro h1
    by_cases h : n < 10
    · exact ⟨48 + n, [], numL_lt h, by omega⟩
    · obtain ⟨c, r, e, hc⟩ := ih (n / 10) (by omega) (by omega)
      exact ⟨c, r ++ [48 + n % 10], by rw [numL_step (by omega), e]; rfl, hc⟩
theorem tl_int (n : Nat) : (Str.ofString (toString ((n : Nat) : Int))).cps.toList = numL n := tl_num n
theorem wN_num (n : Nat) : wN (Str.ofString (toString ((n : Nat) : Int))) = true := by
  unfold wN
  rw [tl_int]
  have ha : (numL n).all isF = true := List.all_eq_true.mpr fun c hc => isF_iff.mpr (numL_digits n c hc)
  rw [ha]
  by_cases h0 : n = 0
  · subst h0; decide +kernel
  · obtain ⟨c, r, e, hc⟩ := numL_head n (by omega)
    rw [e]
    have : decide ((⟨#[c]⟩ : Str) = "0") = false := decide_eq_false fun q => hc (by
      have := congrArg tl q
      have e48 : tl ("0" : Str) = [48] := by decide +kernel
      rw [e48] at this
      have : [c] = [48] := this
      cases this; rfl)
    simp [this]
theorem numV_num {n : Int} (h0 : 0 ≤ n) (h1 : n < 10 ^ 60) : numV (toString n : Str) = some n := by
  obtain ⟨m, rfl⟩ := Int.eq_ofNat_of_zero_le h0
  have hl : (Str.ofString (toString ((m : Nat) : Int))).length ≤ 60 := by
    rw [len_tl, tl_num]
    refine numL_len (by decide) ?_
    have : ((m : Nat) : Int) < ((10 ^ 60 : Nat) : Int) := by simpa using h1
    exact Int.ofNat_lt.mp this
  unfold numV
  rw [if_pos ⟨wN_num m, hl⟩, tl_num, numL_val]
theorem read_show {ms : List Int} (h : ∀ n ∈ ms, 0 ≤ n ∧ n < 10 ^ 60) : readN (showNs ms) = some ms := by
  by_cases h0 : ms = []
  · subst h0
    have e : showNs [] = "" := by decide +kernel
    unfold readN
    rw [if_pos e]
  · have hs : Txt.split (showNs ms) " " = ms.map fun n => (toString n : Str) := by
      refine split_join (s := 32) (S := []) blank_tl (by decide +kernel) (fun e => h0 (List.map_eq_nil_iff.mp e)) fun p hp => ?_
      obtain ⟨n, hn, rfl⟩ := List.mem_map.mp hp
      obtain ⟨m, rfl⟩ := Int.eq_ofNat_of_zero_le (h n hn).1
      show 32 ∉ tl (Str.ofString (toString ((m : Nat) : Int)))
      rw [tl_num]
      exact numL_free (.inl (by decide))
    have ne : ¬ showNs ms = "" := fun e => by
      rw [e] at hs
      have e2 : Txt.split ("" : Str) " " = [("" : Str)] := by decide +kernel
      rw [e2] at hs
      cases ms with
      | nil => exact h0 rfl
      | cons n r =>
        rw [List.map_cons] at hs
        injection hs with a b
        obtain ⟨m, rfl⟩ := Int.eq_ofNat_of_zero_le (h n List.mem_cons_self).1
        have := congrArg tl a
        have e3 : tl (Str.ofString (toString ((m : Nat) : Int))) = numL m := tl_num m
        have this : tl ("" : Str) = tl (Str.ofString (toString ((m : Nat) : Int))) := this
        rw [e3] at this
        exact numL_ne m (this.symm.trans (by decide +kernel))
    unfold readN
    rw [if_neg ne, hs]
    refine allSome_eq ?_
    rw [List.map_map]
    exact List.map_congr_left fun n hn => numV_num (h n hn).1 (h n hn).2
theorem show_len {n : Int} (h0 : 0 ≤ n) (h1 : n < 10 ^ 60) : (Str.ofString (toString n)).length ≤ 60 := by
  obtain ⟨m, rfl⟩ := Int.eq_ofNat_of_zero_le h0
  rw [len_tl]
  have e : tl (Str.ofString (toString ((m : Nat) : Int))) = numL m := tl_num m
  show (tl (Str.ofString (toString ((m : Nat) : Int)))).length ≤ 60
  rw [e]
  refine numL_len (by decide) ?_
  have : ((m : Nat) : Int) < ((10 ^ 60 : Nat) : Int) := by simpa using h1
  exact Int.ofNat_lt.mp this
theorem sum_le {l : List Nat} {b : Nat} (h : ∀ x ∈ l, x ≤ b) : l.sum ≤ l.length * b := by
  induction l with
  | nil => simp
  | cons x r ih =>
    have h1 := h x List.mem_cons_self
    have h2 := ih fun y hy => h y (List.mem_cons_of_mem _ hy)
    rw [List.sum_cons, List.length_cons, Nat.succ_mul]
    omega
theorem shows_sum {ms : List Int} (h : ∀ n ∈ ms, 0 ≤ n ∧ n < 10 ^ 60) : ((ms.map fun n => (toString n : Str)).map (·.length)).sum ≤ ms.length * 60 := by
  have := sum_le (l := (ms.map fun n => (toString n : Str)).map (·.length)) (b := 60) fun x hx => by
    obtain ⟨z, hz, rfl⟩ := List.mem_map.mp hx
    obtain ⟨n, hn, rfl⟩ := List.mem_map.mp hz
    exact show_len (h n hn).1 (h n hn).2
  rw [List.length_map, List.length_map] at this
  exact this
theorem showNs_len {ms : List Int} (h : ∀ n ∈ ms, 0 ≤ n ∧ n < 10 ^ 60) : (showNs ms).length ≤ ms.length * 60 + ms.length := by
  have h1 := StrLaws.join_length_le " " (ms.map fun n => (toString n : Str))
  have h2 := shows_sum h
  have e1 : (" " : Str).length = 1 := by decide +kernel
  rw [List.length_map, e1, Nat.mul_one] at h1
  unfold showNs
  rw [join_eq]
  omega
theorem cutS_len (z : Str) (lo hi : Option Int) : (cutS z lo hi).length ≤ z.length := by
  rw [len_tl, len_tl]
  show (((z.cps.toList.drop _).take _).toArray.toList).length ≤ _
  rw [List.toList_toArray, List.length_take, List.length_drop]
  exact Nat.le_trans (Nat.min_le_right _ _) (Nat.sub_le _ _)
theorem cutD_len {α : Type} (xs : List α) (lo hi : Option Int) : (cutD xs lo hi).length ≤ xs.length := by
  unfold cutD
  rw [List.length_take, List.length_drop]
  exact Nat.le_trans (Nat.min_le_right _ _) (Nat.sub_le _ _)
theorem app_len (a b : Str) : (a ++ b).length = a.length + b.length := by rw [len_tl, len_tl, len_tl, tl_append, List.length_append]
theorem atI_ex {α : Type} {xs : List α} {j : Int} (h0 : 0 ≤ j) (h1 : j < xs.length) : ∃ c, L2.atI xs j = some c := by
  obtain ⟨k, rfl⟩ := Int.eq_ofNat_of_zero_le h0
  have hk : k < xs.length := Int.ofNat_lt.mp h1
  exact ⟨xs[k], at_nat (List.getElem?_eq_getElem hk)⟩
theorem small_log {n : Int} (h0 : 0 ≤ n) (h1 : n < 10 ^ 60) : n.natAbs.log2 < 1920 := log2_lt (Nat.lt_of_lt_of_le (b200 n h0 h1) (by decide +kernel)) (by decide)
end Lw

namespace Lw
open PySem L2 DL TL
/-! ### tables, plainly -/
abbrev Row := Str × Str
def rowD (r : Row) : D := .tup [.str r.1, .str r.2]
def oneS (c : Nat) : Str := ⟨#[c]⟩
/-- the pieces, in turn -/
def pcs (s : Str) (rows : List Row) : List Str := (signs s) ++ rows.map fun r => r.1 ++ r.2
/-- the dict of the pieces' numbers -/
def numbered (n : Nat) : List Str → List (Key × D)
  | [] => []
  | p :: r => (.inr p, .int (n : Nat)) :: numbered (n + 1) r
def pairD (n : Nat) : List Row → List (List Key × D)
  | [] => []
  | r :: t => ([.inr r.1, .inr r.2], .int (n : Nat)) :: pairD (n + 1) t
theorem numbered_length : ∀ (ps : List Str) (n : Nat), (numbered n ps).length = ps.length
  | [], _ => rfl
  | p :: r, n => congrArg (· + 1) (numbered_length r (n + 1))
theorem pairD_length : ∀ (ps : List Row) (n : Nat), (pairD n ps).length = ps.length
  | [], _ => rfl
  | p :: r, n => congrArg (· + 1) (pairD_length r (n + 1))
theorem numbered_snoc : ∀ (ps : List Str) (n : Nat) (p : Str), numbered n (ps ++ [p]) = numbered n ps ++ [(.inr p, .int ((n + ps.length : Nat) : Int))]
  | [], n, p => rfl
  | q :: r, n, p => by
    show _ :: numbered (n + 1) (r ++ [p]) = _
    rw [numbered_snoc r (n + 1) p]
    show _ = _ :: _
    rw [show n + 1 + r.length = n + (q :: r).length from by rw [List.length_cons]; omega]
    rfl
theorem pairD_snoc : ∀ (ps : List Row) (n : Nat) (p : Row), pairD n (ps ++ [p]) = pairD n ps ++ [([.inr p.1, .inr p.2], .int ((n + ps.length : Nat) : Int))]
  | [], n, p => rfl
  | q :: r, n, p => by
    show _ :: pairD (n + 1) (r ++ [p]) = _
    rw [pairD_snoc r (n + 1) p]
    show _ = _ :: _
    rw [show n + 1 + r.length = n + (q :: r).length from by rw [List.length_cons]; omega]
    rfl
theorem numbered_keys : ∀ (ps : List Str) (n : Nat), keyD (numbered n ps) = ps.map D.str
  | [], _ => rfl
  | p :: r, n => by
    show kD (.inr p) :: keyD (numbered (n + 1) r) = _
    rw [numbered_keys r (n + 1)]; rfl
/-- a piece's number -/
def idx (p : Str) : List Str → Option Nat
  | [] => none
  | q :: r => if q = p then some 0 else (idx p r).map (· + 1)
theorem numbered_val : ∀ (ps : List Str) (n : Nat) (p : Str), valD (numbered n ps) (.inr p) = (idx p ps).map fun i => .int ((n + i : Nat) : Int)
  | [], _, _ => rfl
  | q :: r, n, p => by
    unfold valD idx
    by_cases e : q = p
    · rw [if_pos e]
      show (List.find? _ ((Sum.inr q, D.int ((n : Nat) : Int)) :: numbered (n + 1) r)).map _ = _
      rw [List.find?_cons_of_pos (by rw [e]; simp)]
      rfl
    · rw [if_neg e]
      show (List.find? _ ((Sum.inr q, D.int ((n : Nat) : Int)) :: numbered (n + 1) r)).map _ = _
      rw [List.find?_cons_of_neg (by simpa using e)]
      have := numbered_val r (n + 1) p
      unfold valD at this
      rw [this]
      cases idx p r with
      | none => rfl
      | some i =>
        show some (D.int ((n + 1 + i : Nat) : Int)) = some (D.int ((n + (i + 1) : Nat) : Int))
        rw [show n + 1 + i = n + (i + 1) from by omega]
theorem idx_none {p : Str} : ∀ {ps : List Str}, idx p ps = none ↔ p ∉ ps
  | [] => by simp [idx]
  | q :: r => by
    unfold idx
    by_cases e : q = p
    · rw [if_pos e]; simp [e]
    · rw [if_neg e, Option.map_eq_none_iff, idx_none]
      simp only [List.mem_cons, not_or]
      exact ⟨fun h => ⟨fun z => e z.symm, h⟩, fun h => h.2⟩
theorem idx_some {p : Str} : ∀ {ps : List Str} {i : Nat}, idx p ps = some i → ps[i]? = some p
  | [], i, h => by cases h
  | q :: r, i, h => by
    unfold idx at h
    by_cases e : q = p
    · rw [if_pos e] at h; cases h; rw [e]; rfl
    · rw [if_neg e] at h
      obtain ⟨j, hj, rfl⟩ := Option.map_eq_some_iff.mp h
      simpa using idx_some hj
theorem idx_at {p : Str} : ∀ {ps : List Str} {i : Nat}, ps.Nodup → ps[i]? = some p → idx p ps = some i
  | [], i, _, h => by simp at h
  | q :: r, 0, nd, h => by
    have : q = p := by simpa using h
    unfold idx; rw [if_pos this]
  | q :: r, i + 1, nd, h => by
    have h' : r[i]? = some p := by simpa using h
    unfold idx
    rw [if_neg fun z => (List.nodup_cons.mp nd).1 (by rw [z]; exact List.mem_of_getElem? h'), idx_at (List.nodup_cons.mp nd).2 h']
    rfl
theorem putD_new {κ : Type} [DecidableEq κ] {kvs : List (κ × D)} {k : κ} {v : D} (h : valD kvs k = none) : putD kvs k v = kvs ++ [(k, v)] := by
  unfold putD
  rw [if_neg]
  intro z
  obtain ⟨kv, hm, e⟩ := List.any_eq_true.mp z
  unfold valD at h
  rw [Option.map_eq_none_iff, List.find?_eq_none] at h
  exact h kv hm e
/-- may a row stand behind pieces ps -/
def okRow (ps : List Str) (r : Row) : Bool := decide (r.1 ∈ ps) && (decide (r.2 ∈ ps) && (decide (r.1.length + r.2.length ≤ 16) && !decide (r.1 ++ r.2 ∈ ps)))
/-- the first row, from n on, that may not stand -/
def badRow (ps : List Str) (n : Nat) : List Row → Option Nat
  | [] => none
  | r :: t => if okRow ps r = true then badRow (ps ++ [r.1 ++ r.2]) (n + 1) t else some n
theorem badRow_take {rows : List Row} : ∀ {ps : List Str} {n i : Nat} {r : Row}, (badRow ps n (rows.take i)) = none → rows[i]? = some r → okRow (ps ++ (rows.take i).map fun r => r.1 ++ r.2) r = true → badRow ps n (rows.take (i + 1)) = none := by
  induction rows with
  | nil => intro ps n i r _ h; simp at h
  | cons q t ih =>
    intro ps n i r h1 h2 h3
    cases i with
    | zero =>
      have : q = r := by simpa using h2
      subst this
      simp only [List.take_zero, List.map_nil, List.append_nil] at h3
      show (if okRow ps q = true then badRow _ _ ([].take 0) else some n) = none
      rw [if_pos h3]; rfl
    | succ i =>
      have h1' : (if okRow ps q = true then badRow (ps ++ [q.1 ++ q.2]) (n + 1) (t.take i) else some n) = none := h1
      by_cases e : okRow ps q = true
      · rw [if_pos e] at h1'
        show (if okRow ps q = true then badRow (ps ++ [q.1 ++ q.2]) (n + 1) (t.take (i + 1)) else some n) = none
        rw [if_pos e]
        refine ih h1' (by simpa using h2) ?_
        simpa using h3
      · rw [if_neg e] at h1'; cases h1'
theorem badRow_at {rows : List Row} : ∀ {ps : List Str} {n i : Nat} {r : Row}, (badRow ps n (rows.take i)) = none → rows[i]? = some r → okRow (ps ++ (rows.take i).map fun r => r.1 ++ r.2) r = false → badRow ps n rows = some (n + i) := by
  induction rows with
  | nil => intro ps n i r _ h; simp at h
  | cons q t ih =>
    intro ps n i r h1 h2 h3
    cases i with
    | zero =>
      have : q = r := by simpa using h2
      subst this
      simp only [List.take_zero, List.map_nil, List.append_nil] at h3
      unfold badRow
      rw [h3]; rfl
    | succ i =>
      have h1' : (if okRow ps q = true then badRow (ps ++ [q.1 ++ q.2]) (n + 1) (t.take i) else some n) = none := h1
      by_cases e : okRow ps q = true
      · rw [if_pos e] at h1'
        unfold badRow
        rw [if_pos e, ih h1' (by simpa using h2) (by simpa using h3)]
        congr 1; omega
      · rw [if_neg e] at h1'; cases h1'
end Lw

namespace Lw
open PySem L2 DL TL
/-! ### tables: the program's text -/
/-- the module's signs -/
def isSg (c : Nat) : Bool := decide (c ∈ (" !\"#$&'()*+,-./0123456789:;<=>?@ABCDEFGHIJKLMNOPQRSTUVWXYZ[\\]^_`abcdefghijklmnopqrstuvwxyz{|}~" : Str).cps.toList)
/-- the first bad sign, from n on, behind the signs seen -/
def badSign (seen : List Nat) (n : Nat) : List Nat → Option Nat
  | [] => none
  | c :: r => if (isSg c && !decide (c ∈ seen)) = true then badSign (seen ++ [c]) (n + 1) r else some n
def signErr (s : Str) : Option D := if 1 ≤ s.length ∧ s.length ≤ 12 then (badSign [] 0 s.cps.toList).map fun n => .int (n : Nat) else some .non
def tabErr (s : Str) (rows : List Row) : Option (Str × D) := match signErr s with
  | some p => some ("signs", p)
  | none => if rows.length ≤ 24 then (badRow (signs s) 0 rows).map fun n => ("rows", .int (n : Nat)) else some ("rows", .non)
def tabF (s : Str) (rows : List Row) : List (Str × D) := [("kept_signs", .str s), ("by_text", .dK (numbered 0 (pcs s rows))), ("by_pair", .dT (pairD 0 rows)), ("kept_rows", .lst (rows.map rowD)), ("kept_pieces", .lst ((pcs s rows).map D.str))]
section
variable {P : Program} {w : World} {K : PySem.W.Frag} {mg : Str → Option Value} {base : Heap}
def phSign : Ph := fun ds rt _ => ∃ c : Nat, ds = [.str (oneS c)] ∧ rt false (.bl (isSg c))
theorem p_is_sign (T : Txt K mg) : FnD P w K mg base 1 (He.fAd K ("is_sign", none)) 1 phSign := mkis_sign T fun cdv A outer s H E hr ds rt xs hφ hl => by
  obtain ⟨c, rfl, h⟩ := hφ
  obtain ⟨t, hS⟩ := T.cSIGNS
  refine wd_one <| w_ret <| ed_and <| isi_ "str" T.zisinstance T.zstr bt_str <| nl 0 rfl rfl rfl ⟨_, rfl, _, rfl, fun _ => ?_, fun e => absurd e (by decide +kernel)⟩
  refine ed_and <| ed_cmp <| len_ T.zlen <| nl 0 rfl rfl rfl ⟨_, len_str (by show 1 ≤ sizeLine; decide), ed_int <| eq_ii ⟨_, rfl, fun _ => ?_, fun e => absurd e (by show ¬ decide (((1 : Nat) : Int) = 1) = false; decide)⟩⟩
  exact ed_one <| ed_cmp <| nl 0 rfl rfl rfl <| ed_globS hS rfl <| in_ss h
def phSigns (K : PySem.W.Frag) : Ph := fun ds rt xs => ∃ s : Str, ds = [.str s] ∧ s.length ≤ sizeLine ∧ (signErr s = none → rt false .non) ∧ ∀ p, signErr s = some p → xs ⟨He.ga K "NoTable", [("number", p), ("part", .str "signs")]⟩
theorem badSign_take {l : List Nat} : ∀ {seen : List Nat} {n i c : Nat}, badSign seen n (l.take i) = none → l[i]? = some c → (isSg c && !decide (c ∈ seen ++ l.take i)) = true → badSign seen n (l.take (i + 1)) = none := by
  induction l with
  | nil => intro _ _ _ _ _ h; simp at h
  | cons q t ih =>
    intro seen n i c h1 h2 h3
    cases i with
    | zero =>
      have : q = c := by simpa using h2
      subst this
      rw [List.take_zero, List.append_nil] at h3
      show (if (isSg q && !decide (q ∈ seen)) = true then badSign _ _ ([].take 0) else some n) = none
      rw [if_pos h3]; rfl
    | succ i =>
      have h1' : (if (isSg q && !decide (q ∈ seen)) = true then badSign (seen ++ [q]) (n + 1) (t.take i) else some n) = none := h1
      by_cases e : (isSg q && !decide (q ∈ seen)) = true
      · rw [if_pos e] at h1'
        show (if (isSg q && !decide (q ∈ seen)) = true then badSign (seen ++ [q]) (n + 1) (t.take (i + 1)) else some n) = none
        rw [if_pos e]
        refine ih h1' (by simpa using h2) ?_
        rw [List.append_assoc]
        exact h3
      · rw [if_neg e] at h1'; cases h1'
theorem badSign_at {l : List Nat} : ∀ {seen : List Nat} {n i c : Nat}, badSign seen n (l.take i) = none → l[i]? = some c → (isSg c && !decide (c ∈ seen ++ l.take i)) = false → badSign seen n l = some (n + i) := by
  induction l with
  | nil => intro _ _ _ _ _ h; simp at h
  | cons q t ih =>
    intro seen n i c h1 h2 h3
    cases i with
    | zero =>
      have : q = c := by simpa using h2
      subst this
      rw [List.take_zero, List.append_nil] at h3
      unfold badSign
      rw [h3]; rfl
    | succ i =>
      have h1' : (if (isSg q && !decide (q ∈ seen)) = true then badSign (seen ++ [q]) (n + 1) (t.take i) else some n) = none := h1
      by_cases e : (isSg q && !decide (q ∈ seen)) = true
      · rw [if_pos e] at h1'
        unfold badSign
        rw [if_pos e, ih h1' (by simpa using h2) (by rw [List.append_assoc]; exact h3)]
        congr 1; omega
      · rw [if_neg e] at h1'; cases h1'
theorem cutS_head (s : Str) (i : Nat) (h : i ≤ s.length) : (cutS s none (some (i : Int))).cps.toList = s.cps.toList.take i := by
  show (((s.cps.toList.drop _).take _).toArray).toList = _
  have e1 : HT.sIx s.length 0 none = 0 := rfl
  have e2 : HT.sIx s.length s.length (some (i : Int)) = min i s.length := HT.sIx_nat _ _ _
  rw [e1, e2, List.drop_zero, Nat.sub_zero, Nat.min_eq_left h, List.toList_toArray]
theorem p_look_at_signs (T : Txt K mg) : FnD P w K mg base 4 (He.fAd K ("look_at_signs", none)) 1 (phSigns K) := mklook_at_signs T fun cdv A outer s H E hr ds rt xs hφ hl => by
  obtain ⟨z, rfl, hz, h1, h2⟩ := hφ
  obtain ⟨t, hM⟩ := T.cMOST_SIGNS
  have nd := sclook_at_signs.nd
  have hN : ∀ p, signErr z = some p → flat p = true → xs ⟨He.ga K "NoTable", [("number", p), ("part", .str "signs")]⟩ := fun p e _ => h2 p e
  refine wd_cons <| w_if <| et_w <| ew_or <| et_not <| et_val <| isi_ "str" T.zisinstance T.zstr bt_str <| nl 0 rfl rfl rfl ⟨_, rfl, _, rfl, ⟨fun _ => ?_, fun e => absurd e (by decide +kernel)⟩⟩
  have bad : ¬ (1 ≤ z.length ∧ z.length ≤ 12) → signErr z = some .non := fun e => if_neg e
  refine ew_or1 <| et_not <| et_chainI <| ed_int <| len_ T.zlen <| nl 0 rfl rfl rfl ⟨_, len_str hz, _, _, rfl, rfl, fun e1 => ed_globI hM rfl ⟨_, rfl, ⟨fun e => ?_, fun e => ?_⟩⟩, fun e1 => ⟨fun _ => ?_, fun e => (nomatch e)⟩⟩
  · have l2 : ¬ (z.length : Int) ≤ 12 := by
      have : (!decide ((z.length : Int) ≤ 12)) = true := e
      simpa using this
    refine wd_one <| w_raise (errNoTable T) rfl (hr.mono (by decide)) rfl (ea_cons <| ed_str <| ea_cons <| ed_non <| ea_nil ⟨rfl, rfl, hN _ (bad fun z => by omega) rfl⟩) (by decide)
  · have l1 : (1 : Int) ≤ z.length := of_decide_eq_true e1
    have l2 : (z.length : Int) ≤ 12 := by
      have : (!decide ((z.length : Int) ≤ 12)) = false := e
      simpa using this
    have hE : signErr z = (badSign [] 0 z.cps.toList).map fun n => .int (n : Nat) := if_pos ⟨by omega, by omega⟩
    refine wd_nil <| wd_one <| w_for rfl <| enS T.zenumerate <| nl 0 rfl rfl rfl ⟨z, rfl, fun i Γ => ∃ o1 o2 : Option (Bool × D), Γ = [some (false, .str z), o1, o2] ∧ badSign [] 0 (z.cps.toList.take i) = none, ⟨none, none, rfl, rfl⟩, fun i d Γ' hd ⟨o1, o2, e, hb⟩ => ?_, fun Γ' ⟨o1, o2, e, hb⟩ => ?_⟩
    · subst e
      obtain ⟨a, b, ha, hb', rfl⟩ := pairs_get hd
      obtain ⟨hi, rfl⟩ := rangeD_get ha
      obtain ⟨c, hc, rfl⟩ := signs_get hb'
      rw [signs_length, show z.cps.size = z.length from rfl] at hi
      rw [Int.zero_add]
      have hcut := cutS_head z i (by omega)
      refine td_two rfl <| td_name (i := 1) nd rfl (.inl rfl) <| td_name (i := 2) nd rfl (.inl rfl) ?_
      have no : (isSg c && !decide (c ∈ z.cps.toList.take i)) = false → xs ⟨He.ga K "NoTable", [("number", .int (i : Int)), ("part", .str "signs")]⟩ := fun e => h2 _ (by
        rw [hE, badSign_at hb hc (by rw [List.nil_append]; exact e), Nat.zero_add]; rfl)
      refine wd_one <| w_if <| et_w <| ew_or <| et_not <| et_val <| call_ (p_is_sign T) (hr.mono (by decide)) T.gis_sign <| ea_cons <| nl 2 rfl rfl rfl <| ea_nil ⟨rfl, c, rfl, _, rfl, ⟨fun e => ?_, fun e => ⟨fun _ => ?_, fun e => (nomatch e)⟩⟩⟩
      · refine ew_or1 <| et_cmp <| nl 2 rfl rfl rfl <| ed_slice <| nl 0 rfl rfl rfl <| eo_none <| eo_some <| nl 1 rfl rfl rfl ⟨_, rfl, by show z.length ≤ sizeLine; omega, in_ss ?_⟩
        rw [hcut]
        refine ⟨fun e2 => ?_, fun e2 => ?_⟩
        · refine wd_one <| w_raise (errNoTable T) rfl (hr.mono (by decide)) rfl (ea_cons <| ed_str <| ea_cons <| nl 1 rfl rfl rfl <| ea_nil ⟨rfl, rfl, no (by rw [e2]; simp)⟩) (by decide)
        · refine wd_nil ⟨_, _, rfl, badSign_take hb hc ?_⟩
          have e3 : isSg c = true := by simpa using e
          rw [List.nil_append, e3, e2]; rfl
      · have e3 : isSg c = false := by simpa using e
        refine wd_one <| w_raise (errNoTable T) rfl (hr.mono (by decide)) rfl (ea_cons <| ed_str <| ea_cons <| nl 1 rfl rfl rfl <| ea_nil ⟨rfl, rfl, no (by rw [e3]; rfl)⟩) (by decide)
    · subst e
      rw [pairs_length, rangeD_length, List.length_map, Nat.min_self, signs_length, show z.cps.size = z.cps.toList.length from (Array.length_toList).symm, List.take_length] at hb
      exact h1 (by rw [hE, hb]; rfl)
  · have l1 : ¬ (1 : Int) ≤ z.length := of_decide_eq_false e1
    refine wd_one <| w_raise (errNoTable T) rfl (hr.mono (by decide)) rfl (ea_cons <| ed_str <| ea_cons <| ed_non <| ea_nil ⟨rfl, rfl, hN _ (bad fun z => by omega) rfl⟩) (by decide)
def phIsRow : Ph := fun ds rt _ => ∃ (ps : List Str) (r : Row), ds = [.dK (numbered 0 ps), rowD r] ∧ (∀ p ∈ ps, p.length ≤ 1000) ∧ r.1.length ≤ 1000 ∧ r.2.length ≤ 1000 ∧ rt false (.bl (okRow ps r))
theorem num_isSome {ps : List Str} {p : Str} : (valD (numbered 0 ps) (.inr p)).isSome = decide (p ∈ ps) := by
  rw [numbered_val]
  cases e : idx p ps with
  | none => rw [decide_eq_false (idx_none.mp e)]; rfl
  | some i => rw [decide_eq_true (List.mem_of_getElem? (idx_some e))]; rfl
theorem p_is_row (T : Txt K mg) : FnD P w K mg base 1 (He.fAd K ("is_row", none)) 2 phIsRow := mkis_row T fun cdv A outer s H E hr ds rt xs hφ hl => by
  obtain ⟨ps, ⟨l, r⟩, rfl, hps, hl1, hr1, h⟩ := hφ
  dsimp only at hl1 hr1
  obtain ⟨t, hM⟩ := T.cMOST_LENGTH
  have nd := scis_row.nd
  have big : (2000 : Nat) ≤ sizeLine := by decide
  have hu : (bodyX P w K mg base Nis_row "is_row" sis_row (He.fAd K ("is_row", none)) cdv A outer s H E).A.units + 1 < cLine := hu_of hr
  refine wd_cons <| w_if <| et_w <| ew_or <| et_not <| et_val <| isi_ "tuple" T.zisinstance T.ztuple bt_tuple <| nl 1 rfl rfl rfl ⟨_, rfl, _, rfl, ⟨fun _ => ?_, fun e => absurd e (by decide +kernel)⟩⟩
  refine ew_or1 <| et_cmp <| len_ T.zlen <| nl 1 rfl rfl rfl ⟨_, rfl, ed_int <| ne_ii ⟨fun e => absurd e (by show ¬ (!decide (((2 : Nat) : Int) = 2)) = true; decide), fun _ => ?_⟩⟩
  refine wd_nil <| wd_cons <| w_asgT <| nl 1 rfl rfl rfl <| td_two rfl <| td_name (i := 2) nd rfl (.inl rfl) <| td_name (i := 3) nd rfl (.inl rfl) ?_
  refine wd_cons <| w_if <| et_w <| ew_or <| et_not <| et_val <| isi_ "str" T.zisinstance T.zstr bt_str <| nl 2 rfl rfl rfl ⟨_, rfl, _, rfl, ⟨fun _ => ?_, fun e => absurd e (by decide +kernel)⟩⟩
  refine ew_or1 <| et_not <| et_val <| isi_ "str" T.zisinstance T.zstr bt_str <| nl 3 rfl rfl rfl ⟨_, rfl, _, rfl, ⟨fun e => absurd e (by decide +kernel), fun _ => ?_⟩⟩
  refine wd_nil <| wd_cons <| w_if <| et_w <| ew_or <| et_cmp <| nl 2 rfl rfl rfl <| nl 0 rfl rfl rfl <| nin_dict hu (.k (.inr l)) ?_
  rw [num_isSome]
  refine ⟨fun e1 => ?_, fun e1 => ⟨fun _ => ?_, fun e => (nomatch e)⟩⟩
  · refine ew_or1 <| et_cmp <| nl 3 rfl rfl rfl <| nl 0 rfl rfl rfl <| nin_dict hu (.k (.inr r)) ?_
    rw [num_isSome]
    refine ⟨fun e2 => ?_, fun e2 => ?_⟩
    · refine wd_one <| w_ret <| ed_bl ?_
      have : okRow ps (l, r) = false := by
        unfold okRow
        have : decide (r ∈ ps) = false := by simpa using e2
        show (_ && (decide (r ∈ ps) && _)) = false
        rw [this]; simp
      rw [this] at h; exact h
    · have m1 : decide (l ∈ ps) = true := by simpa using e1
      have m2 : decide (r ∈ ps) = true := by simpa using e2
      have ok : okRow ps (l, r) = (decide (l.length + r.length ≤ 16) && !decide (l ++ r ∈ ps)) := by
        unfold okRow
        show (decide (l ∈ ps) && (decide (r ∈ ps) && _)) = _
        rw [m1, m2]; rfl
      rw [ok] at h
      refine wd_nil <| wd_one <| w_ret <| ed_and <| ed_cmp <| ed_bin <| len_ T.zlen <| nl 2 rfl rfl rfl ⟨_, len_str (by show l.length ≤ sizeLine; omega), len_ T.zlen <| nl 3 rfl rfl rfl ⟨_, len_str (by show r.length ≤ sizeLine; omega), add_ii <| ed_globI hM rfl <| le_ii ⟨_, rfl, fun e => ?_, fun e => ?_⟩⟩⟩
      · have e' : l.length + r.length ≤ 16 := by
          have e3 : (l.length : Int) + (r.length : Int) ≤ 16 := of_decide_eq_true e
          omega
        rw [decide_eq_true e'] at h
        refine ed_one <| ed_cmp <| ed_bin <| nl 2 rfl rfl rfl <| nl 3 rfl rfl rfl <| add_ss (by show l.length + r.length ≤ sizeLine; omega) <| nl 0 rfl rfl rfl <| nin_dict hu (.k (.inr (l ++ r))) ?_
        rw [num_isSome]
        exact h
      · have e' : ¬ l.length + r.length ≤ 16 := by
          have e3 : ¬ (l.length : Int) + (r.length : Int) ≤ 16 := of_decide_eq_false e
          omega
        rw [decide_eq_false e'] at h
        exact h
  · refine wd_one <| w_ret <| ed_bl ?_
    have : okRow ps (l, r) = false := by
      unfold okRow
      have : decide (l ∈ ps) = false := by simpa using e1
      show (decide (l ∈ ps) && _) = false
      rw [this]; rfl
    rw [this] at h; exact h
/-! ### Table(signs, rows) -/
def phTab (K : PySem.W.Frag) : PhI := fun ds rt xs => ∃ (s : Str) (rows : List Row), ds = [.str s, .lst (rows.map rowD)] ∧ s.length ≤ 100000 ∧ rows.length ≤ 1000 ∧ (∀ r ∈ rows, r.1.length ≤ 1000 ∧ r.2.length ≤ 1000) ∧ (tabErr s rows = none → rt (tabF s rows)) ∧ ∀ a p, tabErr s rows = some (a, p) → xs ⟨He.ga K "NoTable", [("number", p), ("part", .str a)]⟩
theorem badSign_nodup : ∀ {l seen : List Nat} {n : Nat}, badSign seen n l = none → (∀ c ∈ l, isSg c = true) ∧ (∀ c ∈ l, c ∉ seen) ∧ l.Nodup := by
  intro l
  induction l with
  | nil => intro _ _ _; exact ⟨fun _ h => (nomatch h), fun _ h => (nomatch h), List.nodup_nil⟩
  | cons q t ih =>
    intro seen n h
    unfold badSign at h
    by_cases e : (isSg q && !decide (q ∈ seen)) = true
    · rw [if_pos e] at h
      obtain ⟨a, b, c⟩ := ih h
      rw [Bool.and_eq_true] at e
      have e2 : q ∉ seen := by simpa using e.2
      refine ⟨fun x hx => ?_, fun x hx => ?_, List.nodup_cons.mpr ⟨fun hq => b q hq (by simp), c⟩⟩
      · rcases List.mem_cons.mp hx with h | h
        · rw [h]; exact e.1
        · exact a x h
      · rcases List.mem_cons.mp hx with h | h
        · rw [h]; exact e2
        · exact fun z => b x h (List.mem_append_left _ z)
    · rw [if_neg e] at h; cases h
theorem signs_nodup {s : Str} (h : s.cps.toList.Nodup) : (signs s).Nodup := by
  unfold signs
  unfold List.Nodup
  rw [List.pairwise_map]
  refine h.imp fun {a b} hab e => hab ?_
  have : (#[a] : Array Nat) = #[b] := by injection e
  simpa using this
theorem signErr_none {s : Str} (h : signErr s = none) : 1 ≤ s.length ∧ s.length ≤ 12 ∧ (signs s).Nodup ∧ ∀ c ∈ s.cps.toList, isSg c = true := by
  unfold signErr at h
  by_cases e : 1 ≤ s.length ∧ s.length ≤ 12
  · rw [if_pos e, Option.map_eq_none_iff] at h
    obtain ⟨a, _, c⟩ := badSign_nodup h
    exact ⟨e.1, e.2, signs_nodup c, a⟩
  · rw [if_neg e] at h; cases h
theorem pcs_take (s : Str) (rows : List Row) {i : Nat} {r : Row} (h : rows[i]? = some r) : pcs s (rows.take (i + 1)) = pcs s (rows.take i) ++ [r.1 ++ r.2] := by
  unfold pcs
  rw [take_succ h, List.map_append, List.append_assoc]; rfl
theorem okRow_len {ps : List Str} {r : Row} (h : okRow ps r = true) : (r.1 ++ r.2).length ≤ 16 ∧ r.1 ++ r.2 ∉ ps := by
  unfold okRow at h
  simp only [Bool.and_eq_true, decide_eq_true_eq, Bool.not_eq_true', decide_eq_false_iff_not] at h
  have : (r.1 ++ r.2).length = r.1.length + r.2.length := by rw [len_tl, len_tl, len_tl, tl_append, List.length_append]
  exact ⟨by rw [this]; exact h.2.2.1, h.2.2.2⟩
theorem pair_new {ps : List Str} : ∀ {rows : List Row} {n : Nat} {r : Row}, (∀ q ∈ rows, q.1 ++ q.2 ∈ ps) → r.1 ++ r.2 ∉ ps → valD (pairD n rows) [.inr r.1, .inr r.2] = none := by
  intro rows
  induction rows with
  | nil => intro _ _ _ _; rfl
  | cons q t ih =>
    intro n r h1 h2
    have hne : ¬ ([Sum.inr q.1, Sum.inr q.2] : List Key) = [.inr r.1, .inr r.2] := fun e => h2 (by
      injection e with e1 e2
      injection e2 with e2 _
      injection e1 with e1
      injection e2 with e2
      rw [← e1, ← e2]
      exact h1 q List.mem_cons_self)
    unfold valD
    show (List.find? _ (([Sum.inr q.1, Sum.inr q.2], D.int ((n : Nat) : Int)) :: pairD (n + 1) t)).map _ = none
    rw [List.find?_cons_of_neg (by simpa using hne)]
    exact ih (n := n + 1) (fun z hz => h1 z (List.mem_cons_of_mem _ hz)) h2
theorem p_Table_init (T : Txt K mg) : FnI P w K mg base 6 (He.fAd K ("Table", some "__init__")) (He.ga K "Table") 2 (phTab K) := mkTable_init T fun cdv A outer s H E hr x ds rt xs hφ hl => by
  obtain ⟨z, rows, rfl, hz, hrl, hrs, h1, h2⟩ := hφ
  obtain ⟨t, hM⟩ := T.cMOST_ROWS
  have nd := scTable_init.nd
  have big : (200000 : Nat) ≤ sizeLine := by decide
  have hu : (bodyX P w K mg base NTable_init "Table.__init__" sTable_init (He.fAd K ("Table", some "__init__")) cdv A outer s H E).A.units + 1 < cLine := hu_of hr
  -- look_at_signs(signs)
  refine wd_cons <| w_expr <| call_ (p_look_at_signs T) (hr.mono (by decide)) T.glook_at_signs <| ea_cons <| nl 1 rfl rfl rfl <| ea_nil ⟨rfl, z, rfl, by omega, fun e => ?_, fun p e => h2 _ _ (by unfold tabErr; rw [e])⟩
  obtain ⟨q1, q2, q3, q4⟩ := signErr_none e
  have hE : tabErr z rows = if rows.length ≤ 24 then (badRow (signs z) 0 rows).map fun n => (("rows" : Str), D.int (n : Nat)) else some (("rows" : Str), .non) := by unfold tabErr; rw [e]
  -- the rows' number
  refine wd_cons <| w_if <| et_w <| ew_or <| et_not <| et_val <| isi_ "list" T.zisinstance T.zlist bt_list <| nl 2 rfl rfl rfl ⟨_, rfl, _, rfl, ⟨fun _ => ?_, fun e => absurd e (by decide +kernel)⟩⟩
  refine ew_or1 <| et_cmp <| len_ T.zlen <| nl 2 rfl rfl rfl ⟨_, rfl, ed_globI hM rfl <| gt_ii ⟨fun e => ?_, fun e => ?_⟩⟩
  · have e' : (24 : Int) < ((rows.map rowD).length : Nat) := of_decide_eq_true e
    rw [List.length_map] at e'
    refine wd_one <| w_raise (errNoTable T) rfl (hr.mono (by decide)) rfl (ea_cons <| ed_str <| ea_cons <| ed_non <| ea_nil ⟨rfl, rfl, h2 _ _ ?_⟩) (by decide)
    rw [hE, if_neg (by omega)]
  have e' : ¬ (24 : Int) < ((rows.map rowD).length : Nat) := of_decide_eq_false e
  rw [List.length_map] at e'
  rw [if_pos (by omega)] at hE
  -- self.kept_signs = signs; self.by_text = {}
  refine wd_nil <| wd_cons <| w_fld 0 T.kTable T.nTable_kept_signs rfl (.inl rfl) rfl (by decide) <| nl 1 rfl rfl rfl ?_
  refine wd_fldG 0 7 T.kTable T.nTable_by_text rfl (.inl rfl) rfl (by show 1 < 1000; decide) rfl (not_vis rfl) (by decide) rfl <| ed_dnewK ⟨rfl, fun q => ?_⟩
  have zz : (signs z).length = z.length := signs_length z
  have sl : ∀ p ∈ signs z, p.length ≤ 1000 := fun p hp => by
    unfold signs at hp
    obtain ⟨c, _, rfl⟩ := List.mem_map.mp hp
    show 1 ≤ 1000
    decide
  refine wd_cons <| w_for rfl <| enS T.zenumerate <| nl 1 rfl rfl rfl ⟨z, rfl, fun i Γ => ∃ o3 o4 : Option (Bool × D), Γ = [some (true, .adr x (.ins (He.ga K "Table") [("kept_signs", .str z), ("by_text", .ref q)])), some (false, .str z), some (false, .lst (rows.map rowD)), o3, o4, none, none,
    some (true, .adr q (.dK (numbered 0 ((signs z).take i)))), none], ⟨none, none, rfl⟩, fun i d Γ' hd ⟨o3, o4, e⟩ => ?_, fun Γ' ⟨o3, o4, e⟩ => ?_⟩
  · subst e
    obtain ⟨a, b, ha, hb, rfl⟩ := pairs_get hd
    obtain ⟨hi, rfl⟩ := rangeD_get ha
    obtain ⟨p, hp, rfl⟩ := map_get hb
    rw [Int.zero_add]
    refine td_two rfl <| td_name (i := 3) nd rfl (.inl rfl) <| td_name (i := 4) nd rfl (.inl rfl) ?_
    have hnew : valD (numbered 0 ((signs z).take i)) (.inr p) = none := by
      rw [numbered_val, idx_none.mpr]
      · rfl
      · intro hm
        have := (List.getElem?_eq_some_iff.mp hp).1
        have nd2 : ((signs z).take (i + 1)).Nodup := q3.sublist (List.take_sublist _ _)
        rw [take_succ hp] at nd2
        exact (List.nodup_append.mp nd2).2.2 _ hm _ (List.mem_singleton.mpr rfl) rfl
    refine wd_one <| w_dputF 0 7 T.kTable T.nTable_by_text hu rfl (.inl rfl) rfl rfl rfl <| nl 3 rfl rfl rfl <| nl 4 rfl rfl rfl ⟨_, .k (.inr p) _ ?_, some (false, .int (i : Int)), some (false, .str p), ?_⟩
    · rw [numbered_length, List.length_take]; omega
    · rw [putD_new hnew, take_succ hp, numbered_snoc, List.length_take, Nat.zero_add, Nat.min_eq_left (Nat.le_of_lt (List.getElem?_eq_some_iff.mp hp).1)]
      rfl
  · subst e
    rw [pairs_length, rangeD_length, List.length_map, Nat.min_self, List.take_length]
    refine wd_fldG 0 8 T.kTable T.nTable_by_pair rfl (.inl rfl) rfl (by show 2 < 1000; decide) rfl (not_vis rfl) (by decide) rfl <| ed_dnewT ⟨rfl, fun q2 => ?_⟩
    refine wd_cons <| w_for rfl <| enL T.zenumerate <| nl 2 rfl rfl rfl ⟨_, rfl, fun i Γ => ∃ o3 o4 o5 o6 : Option (Bool × D), Γ = [some (true, .adr x (.ins (He.ga K "Table") [("kept_signs", .str z), ("by_text", .ref q), ("by_pair", .ref q2)])), some (false, .str z), some (false, .lst (rows.map rowD)), o3, o4, o5, o6,
      some (true, .adr q (.dK (numbered 0 (pcs z (rows.take i))))), some (true, .adr q2 (.dT (pairD 0 (rows.take i))))] ∧ badRow (signs z) 0 (rows.take i) = none ∧ ∀ p ∈ pcs z (rows.take i), p.length ≤ 1000,
      ⟨o3, o4, none, none, (by unfold pcs; rw [List.take_zero, List.map_nil, List.append_nil]; rfl), rfl, fun p hp => sl p (by simpa [pcs] using hp)⟩, fun i d Γ' hd ⟨o3, o4, o5, o6, e, hbad, hps⟩ => ?_, fun Γ' ⟨o3, o4, o5, o6, e, hbad, hps⟩ => ?_⟩
    · subst e
      obtain ⟨a, b, ha, hb, rfl⟩ := pairs_get hd
      obtain ⟨hi, rfl⟩ := rangeD_get ha
      obtain ⟨⟨l, r⟩, hr1, rfl⟩ := map_get hb
      rw [Int.zero_add]
      have hi2 : i < rows.length := (List.getElem?_eq_some_iff.mp hr1).1
      obtain ⟨hl1, hr2⟩ := hrs (l, r) (List.mem_of_getElem? hr1)
      dsimp only at hl1 hr2
      refine td_two rfl <| td_name (i := 5) nd rfl (.inl rfl) <| td_name (i := 6) nd rfl (.inl rfl) ?_
      refine wd_cons <| w_if <| et_not <| et_val <| call_ (p_is_row T) (hr.mono (by decide)) T.gis_row <| ea_cons <| ed_at 7 rfl <| fld T.kTable T.nTable_by_text <| na 0 rfl rfl rfl ⟨rfl, rfl, rfl, ea_cons <| nl 6 rfl rfl rfl <| ea_nil ⟨rfl, _, (l, r), rfl, hps, hl1, hr2, _, rfl, ⟨fun e => ?_, fun e => ?_⟩⟩⟩
      · have e2 : okRow (pcs z (rows.take i)) (l, r) = false := by simpa using e
        refine wd_one <| w_raise (errNoTable T) rfl (hr.mono (by decide)) rfl (ea_cons <| ed_str <| ea_cons <| nl 5 rfl rfl rfl <| ea_nil ⟨rfl, rfl, h2 _ _ ?_⟩) (by decide)
        rw [hE, badRow_at hbad hr1 e2, Nat.zero_add]; rfl
      · have e2 : okRow (pcs z (rows.take i)) (l, r) = true := by simpa using e
        obtain ⟨k1, k2⟩ := okRow_len e2
        dsimp only at k1 k2
        have hin : ∀ qq ∈ rows.take i, qq.1 ++ qq.2 ∈ pcs z (rows.take i) := fun qq hq => List.mem_append_right _ (List.mem_map.mpr ⟨qq, hq, rfl⟩)
        refine wd_nil <| wd_cons <| w_dputF 0 8 T.kTable T.nTable_by_pair hu rfl (.inl rfl) rfl rfl rfl <| nl 5 rfl rfl rfl <| nl 6 rfl rfl rfl ⟨_, .t [.inr l, .inr r] _ (by rw [pairD_length, List.length_take]; omega), ?_⟩
        rw [putD_new (pair_new (r := (l, r)) hin k2)]
        refine wd_one <| w_dputF 0 7 T.kTable T.nTable_by_text hu rfl (.inl rfl) rfl rfl rfl <| ed_bin <| len_ T.zlen <| nl 1 rfl rfl rfl ⟨_, len_str (by omega), nl 5 rfl rfl rfl <| add_ii <| ed_bin <| ed_ix <| nl 6 rfl rfl rfl <| ed_int <| ix_tup rfl <| ed_ix <| nl 6 rfl rfl rfl <| ed_int <| ix_tup rfl <|
          add_ss (by show l.length + r.length ≤ sizeLine; omega) ⟨_, .k (.inr (l ++ r)) _ ?_, o3, o4, some (false, .int (i : Int)), some (false, rowD (l, r)), ?_, ?_, ?_⟩⟩
        · rw [numbered_length]; unfold pcs; rw [List.length_append, List.length_map, List.length_take, zz]; omega
        · rw [putD_new (by rw [numbered_val, idx_none.mpr k2]; rfl), pcs_take z rows hr1, numbered_snoc, take_succ hr1, pairD_snoc, List.length_take, Nat.min_eq_left (Nat.le_of_lt hi2)]
          have e3 : (((0 + (pcs z (rows.take i)).length : Nat)) : Int) = (z.length : Int) + (i : Int) := by
            unfold pcs; rw [List.length_append, List.length_map, List.length_take, zz]; omega
          rw [e3, Nat.zero_add]
          rfl
        · exact badRow_take hbad hr1 e2
        · intro p hp
          rw [pcs_take z rows hr1] at hp
          rcases List.mem_append.mp hp with h | h
          · exact hps p h
          · rw [List.mem_singleton.mp h]
            show (l ++ r).length ≤ 1000
            omega
    · subst e
      rw [pairs_length, rangeD_length, List.length_map, Nat.min_self, List.take_length] at hbad ⊢
      have hx : ∀ (Γ0 : En) (i : Nat), i ≠ 0 → (∃ e, Γ0[0]? = some (some (true, .adr x e))) → ∀ a ∈ [x], ∃ j e, j ≠ i ∧ Γ0[j]? = some (some (true, .adr a e)) := fun Γ0 i hi ⟨e, h⟩ a ha => by
        rw [List.mem_singleton.mp ha]; exact ⟨0, e, Ne.symm hi, h⟩
      refine wd_cons <| w_fld 0 T.kTable T.nTable_kept_rows rfl (.inl rfl) rfl (by show 3 < 1000; decide) <| list_ T.zlist <| nl 2 rfl rfl rfl ⟨_, .inl rfl, ?_⟩
      refine wd_knowL 7 rfl ?_ (hx _ 7 (by decide) ⟨_, rfl⟩)
      refine wd_link 0 7 rfl rfl (f := "by_text") rfl ?_
      refine wd_knowL 8 rfl ?_ (hx _ 8 (by decide) ⟨_, rfl⟩)
      refine wd_link 0 8 rfl rfl (f := "by_pair") rfl ?_
      refine wd_one <| w_fld 0 T.kTable T.nTable_kept_pieces rfl (.inl rfl) rfl (by show 4 < 1000; decide) <| list_dK T.zlist <| fldO 0 T.kTable T.nTable_by_text rfl rfl (.inl rfl) rfl ⟨_, rfl, _, rfl, ?_⟩
      rw [numbered_keys]
      exact h1 (by rw [hE, hbad]; rfl)
end
end Lw

namespace Lw
open PySem L2 DL TL
def tabD (K : PySem.W.Frag) (s : Str) (rows : List Row) : D := .ins (He.ga K "Table") (tabF s rows)
theorem badRow_rows {rows : List Row} : ∀ {ps : List Str} {n : Nat}, badRow ps n rows = none → ∀ r ∈ rows, r.1 ∈ ps ++ rows.map (fun r => r.1 ++ r.2) ∧ r.2 ∈ ps ++ rows.map (fun r => r.1 ++ r.2) ∧ r.1.length + r.2.length ≤ 16 := by
  induction rows with
  | nil => intro _ _ _ r h; cases h
  | cons q t ih =>
    intro ps n h r hr
    unfold badRow at h
    by_cases e : okRow ps q = true
    · rw [if_pos e] at h
      have hh := ih h
      rcases List.mem_cons.mp hr with h2 | h2
      · subst h2
        unfold okRow at e
        simp only [Bool.and_eq_true, decide_eq_true_eq] at e
        exact ⟨List.mem_append_left _ e.1, List.mem_append_left _ e.2.1, e.2.2.1⟩
      · obtain ⟨a, b, c⟩ := hh r h2
        rw [List.append_assoc] at a b
        exact ⟨a, b, c⟩
    · rw [if_neg e] at h; cases h
theorem tabErr_none {s : Str} {rows : List Row} (h : tabErr s rows = none) : signErr s = none ∧ rows.length ≤ 24 ∧ badRow (signs s) 0 rows = none := by
  unfold tabErr at h
  cases e : signErr s with
  | some p => rw [e] at h; cases h
  | none =>
    rw [e] at h
    by_cases e2 : rows.length ≤ 24
    · have h : (if rows.length ≤ 24 then (badRow (signs s) 0 rows).map fun n => (("rows" : Str), D.int (n : Nat)) else some (("rows" : Str), .non)) = none := h
      rw [if_pos e2, Option.map_eq_none_iff] at h
      exact ⟨rfl, e2, h⟩
    · have h : (if rows.length ≤ 24 then (badRow (signs s) 0 rows).map fun n => (("rows" : Str), D.int (n : Nat)) else some (("rows" : Str), .non)) = none := h
      rw [if_neg e2] at h; cases h
theorem tab_rows {s : Str} {rows : List Row} (h : tabErr s rows = none) : ∀ r ∈ rows, r.1 ∈ pcs s rows ∧ r.2 ∈ pcs s rows ∧ r.1.length + r.2.length ≤ 16 := badRow_rows (tabErr_none h).2.2
theorem pcs_length (s : Str) (rows : List Row) : (pcs s rows).length = s.length + rows.length := by
  unfold pcs; rw [List.length_append, List.length_map, signs_length]; rfl
theorem tab_small {s : Str} {rows : List Row} (h : tabErr s rows = none) : s.length ≤ 12 ∧ rows.length ≤ 24 ∧ (pcs s rows).length ≤ 36 := by
  obtain ⟨a, b, _⟩ := tabErr_none h
  have := (signErr_none a).2.1
  exact ⟨this, b, by rw [pcs_length]; omega⟩
theorem idx_lt {p : Str} {ps : List Str} (h : p ∈ ps) : ∃ i, idx p ps = some i ∧ i < ps.length := by
  cases e : idx p ps with
  | none => exact absurd h (idx_none.mp e)
  | some i => exact ⟨i, rfl, (List.getElem?_eq_some_iff.mp (idx_some e)).1⟩
theorem pcs_len {s : Str} {rows : List Row} (h : tabErr s rows = none) : ∀ p ∈ pcs s rows, p.length ≤ 16 := by
  intro p hp
  unfold pcs at hp
  rcases List.mem_append.mp hp with h1 | h1
  · unfold signs at h1
    obtain ⟨c, _, rfl⟩ := List.mem_map.mp h1
    show 1 ≤ 16
    decide
  · obtain ⟨r, hr, rfl⟩ := List.mem_map.mp h1
    rw [app_len]
    exact (tab_rows h r hr).2.2
section
variable {P : Program} {w : World} {K : PySem.W.Frag} {mg : Str → Option Value} {base : Heap}
def phTs (K : PySem.W.Frag) : Ph := fun ds rt _ => ∃ (s : Str) (rows : List Row), ds = [tabD K s rows] ∧ rt false (.str s)
def phTr (K : PySem.W.Frag) : Ph := fun ds rt _ => ∃ (s : Str) (rows : List Row), ds = [tabD K s rows] ∧ rt true (.lst (rows.map rowD))
def phTp (K : PySem.W.Frag) : Ph := fun ds rt _ => ∃ (s : Str) (rows : List Row), ds = [tabD K s rows] ∧ rt true (.lst ((pcs s rows).map D.str))
def phTw (K : PySem.W.Frag) : Ph := fun ds rt _ => ∃ (s : Str) (rows : List Row) (p : Str), ds = [tabD K s rows, .str p] ∧ rt false (((idx p (pcs s rows)).map fun i => D.int (i : Nat)).getD .non)
theorem p_Table_signs (T : Txt K mg) : FnD P w K mg base 1 (He.fAd K ("Table", some "signs")) 1 (phTs K) := mkTable_signs T fun cdv A outer s H E hr ds rt xs hφ hl => by
  obtain ⟨z, rows, rfl, h⟩ := hφ
  exact wd_one <| w_ret <| fld T.kTable T.nTable_kept_signs <| nl 0 rfl rfl rfl ⟨rfl, rfl, h⟩
theorem p_Table_rows (T : Txt K mg) : FnD P w K mg base 1 (He.fAd K ("Table", some "rows")) 1 (phTr K) := mkTable_rows T fun cdv A outer s H E hr ds rt xs hφ hl => by
  obtain ⟨z, rows, rfl, h⟩ := hφ
  exact wd_one <| w_ret <| list_ T.zlist <| fld T.kTable T.nTable_kept_rows <| nl 0 rfl rfl rfl ⟨rfl, rfl, _, .inl rfl, h⟩
theorem p_Table_pieces (T : Txt K mg) : FnD P w K mg base 1 (He.fAd K ("Table", some "pieces")) 1 (phTp K) := mkTable_pieces T fun cdv A outer s H E hr ds rt xs hφ hl => by
  obtain ⟨z, rows, rfl, h⟩ := hφ
  exact wd_one <| w_ret <| list_ T.zlist <| fld T.kTable T.nTable_kept_pieces <| nl 0 rfl rfl rfl ⟨rfl, rfl, _, .inl rfl, h⟩
theorem p_Table_which (T : Txt K mg) : FnD P w K mg base 1 (He.fAd K ("Table", some "which")) 2 (phTw K) := mkTable_which T fun cdv A outer s H E hr ds rt xs hφ hl => by
  obtain ⟨z, rows, p, rfl, h⟩ := hφ
  refine wd_cons <| w_if <| et_not <| et_val <| isi_ "str" T.zisinstance T.zstr bt_str <| nl 1 rfl rfl rfl ⟨_, rfl, _, rfl, ⟨fun e => absurd e (by decide +kernel), fun _ => ?_⟩⟩
  refine wd_nil <| wd_one <| w_ret <| ed_dget1 (fld T.kTable T.nTable_by_text <| nl 0 rfl rfl rfl ⟨rfl, rfl, rfl, nl 1 rfl rfl rfl ⟨_, .k (.inr p), ?_⟩⟩) (hu_of hr)
  rw [numbered_val]
  have e : ((idx p (pcs z rows)).map fun i => D.int ((0 + i : Nat) : Int)) = (idx p (pcs z rows)).map fun i => D.int (i : Nat) := by
    cases idx p (pcs z rows) with
    | none => rfl
    | some i => simp
  rw [e]
  exact h
end
end Lw

namespace Lw
open PySem L2 DL TL
/-! ### the law's tables -/
theorem nodup_le {α : Type} [DecidableEq α] : ∀ {l m : List α}, l.Nodup → (∀ x ∈ l, x ∈ m) → l.length ≤ m.length
  | [], _, _, _ => Nat.zero_le _
  | x :: r, m, nd, h => by
    have hx := h x List.mem_cons_self
    obtain ⟨n1, n2⟩ := List.nodup_cons.mp nd
    have := nodup_le (l := r) (m := m.erase x) n2 fun y hy => (List.mem_erase_of_ne fun e => n1 (by rw [← e]; exact hy)).mpr (h y (List.mem_cons_of_mem _ hy))
    rw [List.length_erase_of_mem hx] at this
    have hp : 0 < m.length := List.length_pos_of_mem hx
    rw [List.length_cons]
    omega
def allS : List Nat := (" !\"#$&'()*+,-./0123456789:;<=>?@ABCDEFGHIJKLMNOPQRSTUVWXYZ[\\]^_`abcdefghijklmnopqrstuvwxyz{|}~" : Str).cps.toList
theorem isSg_iff {c : Nat} : isSg c = true ↔ c ∈ allS := by unfold isSg allS; exact decide_eq_true_iff
theorem allS_len : allS.length = 94 := by decide +kernel
theorem allS_nodup : allS.Nodup := by decide +kernel
theorem badSign_ok : ∀ {l seen : List Nat} {n : Nat}, (∀ c ∈ l, isSg c = true) → (∀ c ∈ l, c ∉ seen) → l.Nodup → badSign seen n l = none := by
  intro l
  induction l with
  | nil => intros; rfl
  | cons q t ih =>
    intro seen n h1 h2 h3
    obtain ⟨n1, n2⟩ := List.nodup_cons.mp h3
    unfold badSign
    rw [h1 q List.mem_cons_self, decide_eq_false (h2 q List.mem_cons_self)]
    refine (if_pos rfl).trans (ih (fun c hc => h1 c (List.mem_cons_of_mem _ hc)) (fun c hc hm => ?_) n2)
    rcases List.mem_append.mp hm with h | h
    · exact h2 c (List.mem_cons_of_mem _ hc) h
    · rw [List.mem_singleton.mp h] at hc; exact n1 hc
theorem signErr_ok {s : Str} (h0 : 1 ≤ s.length) (h1 : s.length ≤ 12) (h2 : ∀ c ∈ s.cps.toList, isSg c = true) (h3 : s.cps.toList.Nodup) : signErr s = none := by
  unfold signErr
  rw [if_pos ⟨h0, h1⟩, badSign_ok h2 (fun _ _ => List.not_mem_nil) h3]; rfl
section
variable {P : Program} {w : World} {K : PySem.W.Frag} {mg : Str → Option Value} {base : Heap}
def phLawSigns : Ph := fun ds rt _ => ∃ ns : List Int, ds = [.lst (ns.map D.int)] ∧ 1 ≤ ns.length ∧ ns.length ≤ 12 ∧ (∀ n ∈ ns, 0 ≤ n ∧ n < 94) ∧ ∀ s : Str, signErr s = none → s.length = ns.length → rt false (.str s)
theorem cut_rot (z : Str) (n : Int) (h0 : 0 ≤ n) : (cutS z (some n) none).cps.toList = z.cps.toList.drop n.toNat ∧ (cutS z none (some n)).cps.toList = z.cps.toList.take n.toNat := by
  obtain ⟨k, rfl⟩ := Int.eq_ofNat_of_zero_le h0
  have hl : z.length = z.cps.toList.length := len_tl z
  constructor
  · show (((z.cps.toList.drop _).take _).toArray).toList = _
    have e1 : HT.sIx z.length 0 (some (k : Int)) = min k z.length := HT.sIx_nat _ _ _
    have e2 : HT.sIx z.length z.length none = z.length := rfl
    rw [e1, e2, List.toList_toArray, hl]
    by_cases hk : k ≤ z.cps.toList.length
    · rw [Nat.min_eq_left hk, List.take_of_length_le (by rw [List.length_drop]; exact Nat.le_refl _)]; rfl
    · rw [Nat.min_eq_right (by omega), List.drop_length, List.take_nil, List.drop_eq_nil_of_le (by show z.cps.toList.length ≤ k; omega)]
  · show (((z.cps.toList.drop _).take _).toArray).toList = _
    have e1 : HT.sIx z.length 0 none = 0 := rfl
    have e2 : HT.sIx z.length z.length (some (k : Int)) = min k z.length := HT.sIx_nat _ _ _
    rw [e1, e2, List.toList_toArray, List.drop_zero, Nat.sub_zero, hl]
    by_cases hk : k ≤ z.cps.toList.length
    · rw [Nat.min_eq_left hk]; rfl
    · rw [Nat.min_eq_right (by omega), List.take_length, List.take_of_length_le (by show z.cps.toList.length ≤ k; omega)]
theorem p__law_signs (T : Txt K mg) : FnD P w K mg base 1 (He.fAd K ("_law_signs", none)) 1 phLawSigns := mk_law_signs T fun cdv A outer s H E hr ds rt xs hφ hl => by
  obtain ⟨ns, rfl, hn0, hn1, hns, h⟩ := hφ
  have nd := sc_law_signs.nd
  have big : (2000 : Nat) ≤ sizeLine := by decide
  refine wd_cons <| asg 1 nd rfl rfl <| ed_str ?_
  refine wd_cons <| asg 1 nd rfl rfl <| ed_bin <| nl 1 rfl rfl rfl <| ed_str <| add_ss (by decide +kernel) ?_
  generalize hsome : (Str.ofString _ ++ Str.ofString _ : Str) = some_
  have hS : some_.cps.toList = allS := by rw [← hsome]; decide +kernel
  have hS2 : some_.length = 94 := by
    rw [len_tl]
    show some_.cps.toList.length = 94
    rw [hS]; exact allS_len
  clear hsome
  have e0 : ("" : Str).cps.toList = [] := by decide +kernel
  refine wd_cons <| asgc 2 nd rfl rfl rfl <| ed_str ?_
  refine wd_cons <| w_for rfl <| ei_list <| nl 0 rfl rfl rfl <| .inl ⟨_, rfl, fun i Γ => ∃ (sh : Str) (o3 o4 : Option (Bool × D)), Γ = [some (false, .lst (ns.map D.int)), some (false, .str some_), some (false, .str sh), o3, o4, none] ∧ sh.length = i ∧ (∀ c ∈ sh.cps.toList, c ∈ allS) ∧ sh.cps.toList.Nodup,
    ⟨"", none, none, rfl, by decide +kernel, fun c hc => (by rw [e0] at hc; cases hc), (by rw [e0]; exact List.nodup_nil)⟩, fun i d Γ' hd ⟨sh, o3, o4, e, hi, hsub, hnd⟩ => ?_, fun Γ' ⟨sh, o3, o4, e, hi, hsub, hnd⟩ => ?_⟩
  · subst e
    obtain ⟨n, hn, rfl⟩ := map_get hd
    obtain ⟨n0, n94⟩ := hns n (List.mem_of_getElem? hn)
    have hi2 : i < ns.length := (List.getElem?_eq_some_iff.mp hn).1
    obtain ⟨c1, c2⟩ := cut_rot some_ n n0
    have l1 := cutS_len some_ (some n) none
    have l2 := cutS_len some_ none (some n)
    refine td_name (i := 3) nd rfl (.inl rfl) ?_
    refine wd_cons <| asg 4 nd rfl rfl <| ed_bin <| ed_slice <| nl 1 rfl rfl rfl <| eo_some <| nl 3 rfl rfl rfl ⟨_, rfl, eo_none ⟨by omega, ed_slice <| nl 1 rfl rfl rfl <| eo_none <| eo_some <| nl 3 rfl rfl rfl ⟨_, rfl, by omega, add_ss (by omega) ?_⟩⟩⟩
    generalize htu : cutS some_ (some n) none ++ cutS some_ none (some n) = tu
    have htl : tu.cps.toList = allS.drop n.toNat ++ allS.take n.toNat := by
      rw [← htu, ← hS, ← c1, ← c2]; exact tl_append _ _
    have hmem : ∀ c, c ∈ tu.cps.toList ↔ c ∈ allS := fun c => by
      rw [htl, List.mem_append]
      conv => rhs; rw [← List.take_append_drop n.toNat allS, List.mem_append]
      exact Or.comm
    have htlen : tu.length ≤ 94 := by rw [len_tl, show tl tu = _ from htl, List.length_append, List.length_drop, List.length_take, allS_len]; omega
    clear htu
    refine wd_one <| asgc 2 nd rfl rfl rfl <| ed_bin <| nc 2 rfl rfl rfl <| ed_ix <| ed_lc (own := [("_law_sign", 5)]) rfl nd (blkOk_by rfl) <| ei_str <| nl 4 rfl rfl rfl ⟨tu, rfl, fun j acc => acc = (((tu.cps.toList.take j).filter fun c => !decide (c ∈ sh.cps.toList)).map oneS).map D.str, rfl, fun j d acc hd hI s0 H0 C cl fp xe => ?_, fun acc hI => ?_⟩
    · obtain ⟨c, hc, rfl⟩ := signs_get hd
      refine tc_name (i := 5) nd rfl (.inl rfl) (by simp) <| ets_one <| et_cmp <| nl 5 rfl rfl rfl <| nc 2 rfl rfl rfl <| nin_ss ⟨fun e => ?_, fun e => ?_⟩
      · refine nl 5 rfl rfl rfl ⟨?_, ?_⟩
        · rw [hI, List.length_map, List.length_map]
          have := List.length_filter_le (fun c => !decide (c ∈ sh.cps.toList)) (tu.cps.toList.take j)
          rw [List.length_take, ← len_tl] at this
          omega
        · dsimp only at hI ⊢
          rw [hI, take_succ hc, List.filter_append, List.map_append, List.map_append, List.filter_cons_of_pos (p := fun c => !decide (c ∈ sh.cps.toList)) e]
          rfl
      · dsimp only at hI ⊢
        rw [hI, take_succ hc, List.filter_append, List.map_append, List.map_append, List.filter_cons_of_neg (p := fun c => !decide (c ∈ sh.cps.toList)) (by rw [e]; exact Bool.false_ne_true)]
        simp
    · rw [List.length_map, signs_length, show tu.cps.size = tu.cps.toList.length from (Array.length_toList).symm, List.take_length] at hI
      obtain ⟨c, hc1, hc2⟩ : ∃ c ∈ allS, c ∉ sh.cps.toList := by
        refine Classical.byContradiction fun hno => ?_
        have := nodup_le allS_nodup (m := sh.cps.toList) fun x hx => Classical.byContradiction fun hx2 => hno ⟨x, hx, hx2⟩
        rw [allS_len, ← len_tl] at this
        omega
      have hne : (tu.cps.toList.filter fun c => !decide (c ∈ sh.cps.toList)) ≠ [] := fun e => by
        have : c ∈ tu.cps.toList.filter fun c => !decide (c ∈ sh.cps.toList) := List.mem_filter.mpr ⟨(hmem c).mpr hc1, by simpa using hc2⟩
        rw [e] at this; cases this
      cases q : (tu.cps.toList.filter fun c => !decide (c ∈ sh.cps.toList)) with
      | nil => exact absurd q hne
      | cons b r =>
        rw [q] at hI
        have hb : b ∈ tu.cps.toList.filter fun c => !decide (c ∈ sh.cps.toList) := by rw [q]; exact List.mem_cons_self
        obtain ⟨hb1, hb2⟩ := List.mem_filter.mp hb
        have hb2 : b ∉ sh.cps.toList := by simpa using hb2
        refine ed_int <| hI ▸ ix_lst (d := .str (oneS b)) (atI_map D.str (at_nat (i := 0) rfl)) (add_ss (by show sh.length + 1 ≤ sizeLine; omega) ⟨sh ++ oneS b, _, _, rfl, ?_, ?_, ?_⟩)
        · rw [app_len, hi]; rfl
        · intro x hx
          rw [show (sh ++ oneS b).cps.toList = sh.cps.toList ++ [b] from tl_append _ _] at hx
          rcases List.mem_append.mp hx with h | h
          · exact hsub x h
          · rw [List.mem_singleton.mp h]; exact (hmem b).mp hb1
        · rw [show (sh ++ oneS b).cps.toList = sh.cps.toList ++ [b] from tl_append _ _]
          exact List.nodup_append.mpr ⟨hnd, by simp, fun x hx y hy e => hb2 (by rw [List.mem_singleton.mp hy] at e; rw [← e]; exact hx)⟩
  · subst e
    rw [List.length_map] at hi
    exact wd_one <| w_ret <| nc 2 rfl rfl rfl <| h sh (signErr_ok (by omega) (by omega) (fun c hc => isSg_iff.mpr (hsub c hc)) hnd) hi
end
end Lw

namespace Lw
open PySem L2 DL TL
theorem in4_strs {x : Str} : ∀ {l : List Str}, in4 (.str x) (l.map D.str) = decide (x ∈ l)
  | [] => by simp [in4]
  | y :: r => by
    have e : in4 (.str x) ((y :: r).map D.str) = (eq4 (.str y) (.str x) || in4 (.str x) (r.map D.str)) := by rw [List.map_cons]; unfold in4; rw [List.any_cons]
    rw [e, in4_strs]
    have e2 : eq4 (.str y) (.str x) = decide (x = y) := by
      show (y == x) = _
      by_cases h : x = y
      · rw [decide_eq_true h, h]; simp
      · rw [decide_eq_false h]; simpa using fun z : y = x => h z.symm
    rw [e2]
    by_cases h : x = y
    · simp [h]
    · simp [h]
theorem flat_strs (l : List Str) : (l.map D.str).all flat4 = true := by
  rw [List.all_map, List.all_eq_true]; intro _ _; rfl
theorem badRow_snoc {ps : List Str} {rows : List Row} {r : Row} {n : Nat} (h : badRow ps n rows = none) (hr : okRow (ps ++ rows.map fun r => r.1 ++ r.2) r = true) : badRow ps n (rows ++ [r]) = none := by
  have := badRow_take (rows := rows ++ [r]) (ps := ps) (n := n) (i := rows.length) (r := r) (by rw [List.take_left']; exact h; rfl) (by rw [List.getElem?_append_right (Nat.le_refl _), Nat.sub_self]; rfl) (by rw [List.take_left' rfl]; exact hr)
  rwa [List.take_of_length_le (by rw [List.length_append]; exact Nat.le_refl _)] at this
theorem tabErr_ok {s : Str} {rows : List Row} (h1 : signErr s = none) (h2 : rows.length ≤ 24) (h3 : badRow (signs s) 0 rows = none) : tabErr s rows = none := by
  unfold tabErr
  rw [h1]
  dsimp only
  rw [if_pos h2, h3]; rfl
theorem pcs_snoc (s : Str) (rows : List Row) (r : Row) : pcs s (rows ++ [r]) = pcs s rows ++ [r.1 ++ r.2] := by
  unfold pcs; rw [List.map_append, List.append_assoc]; rfl
section
variable {P : Program} {w : World} {K : PySem.W.Frag} {mg : Str → Option Value} {base : Heap}
def phLawRows : Ph := fun ds rt _ => ∃ (s : Str) (ns : List Int), ds = [.str s, .lst (ns.map D.int)] ∧ signErr s = none ∧ ns.length ≤ 1000 ∧ (∀ n ∈ ns, 0 ≤ n) ∧ ∀ rows : List Row, tabErr s rows = none → rows.length ≤ ns.length / 2 → rt true (.lst (rows.map rowD))
theorem p__law_rows (T : Txt K mg) : FnD P w K mg base 1 (He.fAd K ("_law_rows", none)) 2 phLawRows := mk_law_rows T fun cdv A outer s H E hr ds rt xs hφ hl => by
  obtain ⟨z, ns, rfl, hS, hn, hns, h⟩ := hφ
  have nd := sc_law_rows.nd
  have big : (2000 : Nat) ≤ sizeLine := by decide
  obtain ⟨q1, q2, _, _⟩ := signErr_none hS
  refine wd_cons <| asg 2 nd rfl rfl <| listT T.zlist <| nl 0 rfl rfl rfl ⟨z, rfl, by omega, ?_⟩
  refine wd_cons <| asg 3 nd rfl rfl <| ed_lst <| ea_nil ⟨by decide, ?_⟩
  have hhalf : (((ns.map D.int).length : Nat) : Int) / 2 = ((ns.length / 2 : Nat) : Int) := by rw [List.length_map]; omega
  refine wd_cons <| w_for rfl <| rg1 T.zrange <| ed_bin <| len_ T.zlen <| nl 1 rfl rfl rfl ⟨_, rfl, ed_int <| fdiv_ii ⟨by decide, by decide +kernel⟩ ⟨_, rfl, by rw [hhalf]; omega, by rw [hhalf]; omega, fun i Γ => ∃ (rows : List Row) (o4 o5 o6 : Option (Bool × D)),
    Γ = [some (false, .str z), some (false, .lst (ns.map D.int)), some (true, .lst ((pcs z rows).map D.str)), some (true, .lst (rows.map rowD)), o4, o5, o6] ∧ tabErr z rows = none ∧ rows.length ≤ i,
    ⟨[], none, none, none, (by unfold pcs; rw [List.map_nil, List.append_nil]; rfl), tabErr_ok hS (by decide) rfl, Nat.le_refl _⟩, fun i d Γ' hd ⟨rows, o4, o5, o6, e, hT, hri⟩ => ?_, fun Γ' ⟨rows, o4, o5, o6, e, hT, hri⟩ => ?_⟩⟩
  · subst e
    obtain ⟨hi, rfl⟩ := rangeD_get hd
    rw [hhalf] at hi
    rw [Int.zero_add]
    have hi2 : i < ns.length / 2 := by omega
    obtain ⟨t1, t2, t3⟩ := tab_small hT
    have hplen := pcs_length z rows
    have hpl := pcs_len hT
    obtain ⟨d1, hd1⟩ : ∃ x, ns[2 * i]? = some x := ⟨_, List.getElem?_eq_getElem (by omega)⟩
    obtain ⟨d2, hd2⟩ : ∃ x, ns[2 * i + 1]? = some x := ⟨_, List.getElem?_eq_getElem (by omega)⟩
    have a1 : L2.atI (ns.map D.int) (2 * (i : Int)) = some (.int d1) := by
      have e1 : (2 * (i : Int)) = ((2 * i : Nat) : Int) := by omega
      rw [e1]; exact atI_map D.int (at_nat hd1)
    have a2 : L2.atI (ns.map D.int) (2 * (i : Int) + 1) = some (.int d2) := by
      have e1 : (2 * (i : Int) + 1) = ((2 * i + 1 : Nat) : Int) := by omega
      rw [e1]; exact atI_map D.int (at_nat hd2)
    have pick : ∀ x : Int, 0 ≤ x → ∃ p, L2.atI ((pcs z rows).map D.str) (x % (((pcs z rows).map D.str).length : Nat)) = some (.str p) ∧ p ∈ pcs z rows := fun x hx => by
      rw [List.length_map]
      have hpos : (0 : Int) < ((pcs z rows).length : Nat) := by omega
      obtain ⟨p, hp⟩ := atI_ex (xs := pcs z rows) (Int.emod_nonneg x (by omega)) (Int.emod_lt_of_pos x hpos)
      refine ⟨p, atI_map D.str hp, ?_⟩
      unfold L2.atI at hp
      obtain ⟨j, _, e⟩ := Option.bind_eq_some_iff.mp hp
      exact List.mem_of_getElem? e
    obtain ⟨p, hp, hpm⟩ := pick d1 (hns d1 (List.mem_of_getElem? hd1))
    obtain ⟨r, hr', hrm⟩ := pick d2 (hns d2 (List.mem_of_getElem? hd2))
    have lp := hpl p hpm
    have lr := hpl r hrm
    have hpos : (0 : Int) < (((pcs z rows).map D.str).length : Nat) := by rw [List.length_map]; omega
    refine td_name (i := 4) nd rfl (.inl rfl) ?_
    refine wd_cons <| asg 5 nd rfl rfl <| ed_flat <| ed_ix <| nl 2 rfl rfl rfl <| ed_bin <| ed_ix <| nl 1 rfl rfl rfl <| ed_bin <| ed_int <| nl 4 rfl rfl rfl <| mul_ii (.inl ⟨by decide, by decide⟩) <| ix_lst a1 <| len_ T.zlen <| nl 2 rfl rfl rfl ⟨_, rfl, mod_ii hpos <| ix_lst hp ⟨rfl, ?_⟩⟩
    refine wd_cons <| asg 6 nd rfl rfl <| ed_flat <| ed_ix <| nl 2 rfl rfl rfl <| ed_bin <| ed_ix <| nl 1 rfl rfl rfl <| ed_bin <| ed_bin <| ed_int <| nl 4 rfl rfl rfl <| mul_ii (.inl ⟨by decide, by decide⟩) <| ed_int <| add_ii <| ix_lst a2 <| len_ T.zlen <| nl 2 rfl rfl rfl ⟨_, rfl, mod_ii hpos <| ix_lst hr' ⟨rfl, ?_⟩⟩
    have skip : ∃ (rows' : List Row) (o4 o5 o6 : Option (Bool × D)), [some (false, D.str z), some (false, .lst (ns.map D.int)), some (true, .lst ((pcs z rows).map D.str)), some (true, .lst (rows.map rowD)), some (false, .int (i : Int)), some (false, .str p), some (false, .str r)] =
        [some (false, .str z), some (false, .lst (ns.map D.int)), some (true, .lst ((pcs z rows').map D.str)), some (true, .lst (rows'.map rowD)), o4, o5, o6] ∧ tabErr z rows' = none ∧ rows'.length ≤ i + 1 := ⟨rows, _, _, _, rfl, hT, by omega⟩
    have hal := app_len p r
    refine wd_one <| w_if <| et_w <| ew_and <| et_cmp <| len_ T.zlen <| ed_bin <| nl 5 rfl rfl rfl <| nl 6 rfl rfl rfl <| add_ss (by omega) ⟨_, len_str (by omega), ed_int <| le_ii ⟨fun e1 => ?_, fun e1 => ⟨fun e => (nomatch e), fun _ => wd_nil skip⟩⟩⟩
    refine ew_and <| et_cmp <| ed_bin <| nl 5 rfl rfl rfl <| nl 6 rfl rfl rfl <| add_ss (by omega) <| nl 2 rfl rfl rfl <| nin_dl rfl (flat_strs _) ?_
    rw [in4_strs]
    refine ⟨fun e2 => ?_, fun e2 => ⟨fun e => (nomatch e), fun _ => wd_nil skip⟩⟩
    refine ew_and1 <| et_cmp <| len_ T.zlen <| nl 3 rfl rfl rfl ⟨_, rfl, ed_int <| lt_ii ⟨fun e3 => ?_, fun e3 => wd_nil skip⟩⟩
    have l16 : p.length + r.length ≤ 16 := by
      have : ((p ++ r).length : Int) ≤ 16 := of_decide_eq_true e1
      omega
    have hnew : p ++ r ∉ pcs z rows := by simpa using e2
    have l24 : rows.length < 24 := by
      have : (((rows.map rowD).length : Nat) : Int) < 24 := of_decide_eq_true e3
      rw [List.length_map] at this
      omega
    have hT' : tabErr z (rows ++ [(p, r)]) = none := by
      refine tabErr_ok hS (by rw [List.length_append]; simp only [List.length_cons, List.length_nil]; omega) (badRow_snoc (tabErr_none hT).2.2 ?_)
      unfold okRow
      show (decide (p ∈ pcs z rows) && (decide (r ∈ pcs z rows) && (decide (p.length + r.length ≤ 16) && !decide (p ++ r ∈ pcs z rows)))) = true
      rw [decide_eq_true hpm, decide_eq_true hrm, decide_eq_true l16, decide_eq_false hnew]; rfl
    refine wd_cons <| app 3 rfl (.inl rfl) rfl <| ed_tup <| ea_cons <| nl 5 rfl rfl rfl <| ea_cons <| nl 6 rfl rfl rfl <| ea_nil ⟨(by show 2 ≤ sizeLine; decide), by rw [List.length_map]; omega, ?_⟩
    refine wd_one <| app 2 rfl (.inl rfl) rfl <| ed_bin <| nl 5 rfl rfl rfl <| nl 6 rfl rfl rfl <| add_ss (by omega) ⟨by rw [List.length_map]; omega, rows ++ [(p, r)], some (false, .int (i : Int)), some (false, .str p), some (false, .str r), ?_, hT', by rw [List.length_append]; simp only [List.length_cons, List.length_nil]; omega⟩
    rw [pcs_snoc, List.map_append, List.map_append]; rfl
  · subst e
    rw [rangeD_length, hhalf] at hri
    exact wd_one <| w_retO (i := 3) rfl (.inl rfl) rfl rfl <| h rows hT (by omega)
end
end Lw

namespace Lw
open PySem L2 DL TL
theorem cutD_map {α β : Type} (f : α → β) (xs : List α) (lo hi : Option Int) : cutD (xs.map f) lo hi = (cutD xs lo hi).map f := by
  unfold cutD
  rw [List.length_map, List.map_take, List.map_drop]
theorem cutD_nat {α : Type} (xs : List α) (a b : Nat) (h : b ≤ xs.length) (hab : a ≤ b) : cutD xs (some (a : Int)) (some (b : Int)) = (xs.drop a).take (b - a) := by
  unfold cutD
  rw [HT.sIx_nat, HT.sIx_nat, Nat.min_eq_left h, Nat.min_eq_left (Nat.le_trans hab h)]
theorem cutD_from {α : Type} (xs : List α) (a : Nat) (h : a ≤ xs.length) : cutD xs (some (a : Int)) none = xs.drop a := by
  unfold cutD
  rw [HT.sIx_nat, Nat.min_eq_left h]
  show (xs.drop a).take (xs.length - a) = _
  rw [List.take_of_length_le (by rw [List.length_drop]; exact Nat.le_refl _)]
theorem cutD_to {α : Type} (xs : List α) (b : Nat) : cutD xs none (some (b : Int)) = xs.take b := by
  unfold cutD
  rw [HT.sIx_nat]
  show (xs.drop 0).take (min b xs.length - 0) = _
  rw [List.drop_zero, Nat.sub_zero]
  by_cases h : b ≤ xs.length
  · rw [Nat.min_eq_left h]
  · rw [Nat.min_eq_right (by omega), List.take_length, List.take_of_length_le (by omega)]
theorem badRow_prefix {rows : List Row} : ∀ {ps : List Str} {n i : Nat}, badRow ps n rows = none → badRow ps n (rows.take i) = none := by
  induction rows with
  | nil => intro ps n i h; rw [List.take_nil]; exact h
  | cons q t ih =>
    intro ps n i h
    cases i with
    | zero => rfl
    | succ i =>
      have h' : (if okRow ps q = true then badRow (ps ++ [q.1 ++ q.2]) (n + 1) t else some n) = none := h
      show (if okRow ps q = true then badRow (ps ++ [q.1 ++ q.2]) (n + 1) (t.take i) else some n) = none
      by_cases e : okRow ps q = true
      · rw [if_pos e] at h' ⊢; exact ih h'
      · rw [if_neg e] at h'; cases h'
theorem tabErr_take {s : Str} {rows : List Row} (i : Nat) (h : tabErr s rows = none) : tabErr s (rows.take i) = none := by
  obtain ⟨a, b, c⟩ := tabErr_none h
  exact tabErr_ok a (by rw [List.length_take]; omega) (badRow_prefix c)
theorem sl_lst {R : Bool → D → Prop} {xs : List D} {lo hi : Option Int} (h : R true (.lst (cutD xs lo hi))) : SlD R lo hi (.lst xs) := h
end Lw

namespace Lw
open PySem L2 DL TL
/-! ### texts of a table -/
/-- the first sign, from n on, that is not among s -/
def badAt (s : List Nat) (n : Nat) : List Nat → Option Nat
  | [] => none
  | c :: r => if c ∈ s then badAt s (n + 1) r else some n
def errT (s : Str) : D → Option D
  | .str z => (badAt s.cps.toList 0 z.cps.toList).map fun n => .int (n : Nat)
  | _ => some .non
theorem badAt_none {s : List Nat} : ∀ {l : List Nat} {n : Nat}, badAt s n l = none ↔ ∀ c ∈ l, c ∈ s
  | [], n => by simp [badAt]
  | c :: r, n => by
    unfold badAt
    by_cases h : c ∈ s
    · rw [if_pos h, badAt_none]; simp [h]
    · rw [if_neg h]; simp [h]
theorem badAt_at {s : List Nat} {l : List Nat} : ∀ {n i c : Nat}, (∀ x ∈ l.take i, x ∈ s) → l[i]? = some c → c ∉ s → badAt s n l = some (n + i) := by
  induction l with
  | nil => intro n i c _ h; simp at h
  | cons q t ih =>
    intro n i c h1 h2 h3
    cases i with
    | zero =>
      have : q = c := by simpa using h2
      subst this
      unfold badAt
      rw [if_neg h3]; rfl
    | succ i =>
      have hq : q ∈ s := h1 q (by simp)
      unfold badAt
      rw [if_pos hq, ih (fun x hx => h1 x (by rw [List.take_succ_cons]; exact List.mem_cons_of_mem _ hx)) (by simpa using h2) h3]
      congr 1; omega
/-- a thing as text: its kind is known -/
def TxK (d : D) : Prop := isiD "str" d = some (isStr d) ∧ ∀ z, d = .str z → z.length ≤ 100000
def whichD (ps : List Str) : D → D
  | .str p => ((idx p ps).map fun i => D.int (i : Nat)).getD .non
  | _ => .non
theorem join_sum {ys : List Str} {n : Nat} (hn : ys.length ≤ 100000) (h : ∀ y ∈ ys, y.length ≤ 100) : (ys.map (·.length)).sum + ys.length * ("" : Str).length ≤ 16777216 := by
  have e1 : ("" : Str).length = 0 := by decide +kernel
  have h1 := sum_le (l := ys.map (·.length)) (b := 100) fun x hx => by
    obtain ⟨z, hz, rfl⟩ := List.mem_map.mp hx
    exact h z hz
  rw [List.length_map] at h1
  rw [e1]
  omega
def isLst : D → Bool
  | .lst _ => true
  | _ => false
/-- a thing as a list: its kind is known, and that of its things -/
def LsK (d : D) : Prop := isiD "list" d = some (isLst d) ∧ ∀ xs, d = .lst xs → xs.length ≤ 100000 ∧ ∀ x ∈ xs, isiD "str" x = some (isStr x)
theorem flatTs_strs (ys : List Str) : flatTs (ys.map D.str) = true := by
  induction ys with
  | nil => simp [flatTs]
  | cons y r ih => rw [List.map_cons]; unfold flatTs; rw [ih]; simp [flatT, flat]
def isPc (ps : List Str) : D → Bool
  | .str p => decide (p ∈ ps)
  | _ => false
theorem which_non {ps : List Str} {d : D} : DL.isNon (whichD ps d) = !isPc ps d := by
  cases d with
  | str p =>
    show DL.isNon (((idx p ps).map fun i => D.int (i : Nat)).getD .non) = !decide (p ∈ ps)
    cases e : idx p ps with
    | none => rw [decide_eq_false (idx_none.mp e)]; rfl
    | some i => rw [decide_eq_true (List.mem_of_getElem? (idx_some e))]; rfl
  | _ => rfl
end Lw

namespace Lw
open PySem L2 DL TL
section
variable {P : Program} {w : World} {K : PySem.W.Frag} {mg : Str → Option Value} {base : Heap}
def phTwA (K : PySem.W.Frag) : Ph := fun ds rt _ => ∃ (s : Str) (rows : List Row) (d : D), ds = [tabD K s rows, d] ∧ isiD "str" d = some (isStr d) ∧ rt false (whichD (pcs s rows) d)
theorem p_Table_whichA (T : Txt K mg) : FnD P w K mg base 1 (He.fAd K ("Table", some "which")) 2 (phTwA K) := mkTable_which T fun cdv A outer s H E hr ds rt xs hφ hl => by
  obtain ⟨z, rows, d, rfl, hi, h⟩ := hφ
  refine wd_cons <| w_if <| et_not <| et_val <| isi_ "str" T.zisinstance T.zstr bt_str <| nl 1 rfl rfl rfl ⟨_, hi, _, rfl, ⟨fun e => ?_, fun e => ?_⟩⟩
  · refine wd_one <| w_ret <| ed_non ?_
    have : whichD (pcs z rows) d = .non := by cases d <;> first | rfl | cases e
    rw [this] at h; exact h
  · have e2 : isStr d = true := by simpa using e
    obtain ⟨p, rfl⟩ : ∃ z, d = .str z := by cases d <;> first | exact ⟨_, rfl⟩ | cases e2
    refine wd_nil <| wd_one <| w_ret <| ed_dget1 (fld T.kTable T.nTable_by_text <| nl 0 rfl rfl rfl ⟨rfl, rfl, rfl, nl 1 rfl rfl rfl ⟨_, .k (.inr p), ?_⟩⟩) (hu_of hr)
    rw [numbered_val]
    have e : ((idx p (pcs z rows)).map fun i => D.int ((0 + i : Nat) : Int)) = (idx p (pcs z rows)).map fun i => D.int (i : Nat) := by
      cases idx p (pcs z rows) with
      | none => rfl
      | some i => simp
    rw [e]
    exact h
end
end Lw

namespace Lw
open PySem L2 DL TL
/-! ### texts of signs, rows of such -/
/-- the signs that these texts have -/
def Lit (z : Str) : Prop := ∀ c ∈ z.cps.toList, isSg c = true ∨ c = 9 ∨ c = 10
theorem litC {z : Str} (h : z.cps.toList.all (fun c => isSg c || decide (c = 9) || decide (c = 10)) = true) : Lit z := fun c hc => by
  have := List.all_eq_true.mp h c hc
  simp only [Bool.or_eq_true, decide_eq_true_eq] at this
  rcases this with (h | h) | h
  · exact .inl h
  · exact .inr (.inl h)
  · exact .inr (.inr h)
theorem Lit.app {a b : Str} (ha : Lit a) (hb : Lit b) : Lit (a ++ b) := fun c hc => by
  rw [show (a ++ b).cps.toList = tl a ++ tl b from tl_append a b] at hc
  rcases List.mem_append.mp hc with h | h
  · exact ha c h
  · exact hb c h
theorem cutS_sub {z : Str} {lo hi : Option Int} {c : Nat} (h : c ∈ (cutS z lo hi).cps.toList) : c ∈ z.cps.toList := by
  have : c ∈ ((z.cps.toList.drop (HT.sIx z.length 0 lo)).take (HT.sIx z.length z.length hi - HT.sIx z.length 0 lo)).toArray.toList := h
  rw [List.toList_toArray] at this
  exact List.mem_of_mem_drop (List.mem_of_mem_take this)
theorem Lit.cut {a : Str} {lo hi : Option Int} (ha : Lit a) : Lit (cutS a lo hi) := fun c hc => ha c (cutS_sub hc)
theorem Lit.sub {a b : Str} (ha : Lit a) (h : ∀ c ∈ b.cps.toList, c ∈ a.cps.toList) : Lit b := fun c hc => ha c (h c hc)
theorem num_lit : ∀ k : Fin 120, (Str.ofString (toString (((k.val : Nat) : Int) - 20))).cps.toList.all (fun c => isSg c || decide (c = 9) || decide (c = 10)) = true ∧ (Str.ofString (toString (((k.val : Nat) : Int) - 20))).length ≤ 5 := by decide +kernel
theorem num_small {n : Int} (h0 : -20 ≤ n) (h1 : n < 100) : Lit (Str.ofString (toString n)) ∧ (Str.ofString (toString n)).length ≤ 5 := by
  have := num_lit ⟨(n + 20).toNat, by omega⟩
  have e : (((n + 20).toNat : Nat) : Int) - 20 = n := by omega
  rw [e] at this
  exact ⟨litC this.1, this.2⟩
theorem small_log' {n : Int} (h0 : -20 ≤ n) (h1 : n < 100) : n.natAbs.log2 < 1920 := log2_lt (k := 1920) (Nat.lt_of_lt_of_le (show n.natAbs < 128 by omega) (by decide +kernel)) (by decide)
/-- rows of short texts -/
def LsOk (n : Nat) (xs : List D) : Prop := xs.length ≤ n ∧ ∀ x ∈ xs, ∃ z : Str, x = .str z ∧ z.length ≤ 100 ∧ Lit z
theorem LsOk.app {n m : Nat} {xs ys : List D} (h : LsOk n xs) (h' : LsOk m ys) : LsOk (n + m) (xs ++ ys) :=
  ⟨by rw [List.length_append]; exact Nat.add_le_add h.1 h'.1, fun x hx => (List.mem_append.mp hx).elim (h.2 x) (h'.2 x)⟩
theorem LsOk.cut {n : Nat} {xs : List D} {lo hi : Option Int} (h : LsOk n xs) : LsOk n (cutD xs lo hi) :=
  ⟨Nat.le_trans (cutD_len _ _ _) h.1, fun x hx => h.2 x (List.mem_of_mem_drop (List.mem_of_mem_take hx))⟩
theorem LsOk.one {z : Str} (h : z.length ≤ 100) (h' : Lit z) : LsOk 1 [.str z] := ⟨Nat.le_refl _, fun x hx => ⟨z, List.mem_singleton.mp hx, h, h'⟩⟩
theorem LsOk.rev {n : Nat} {xs : List D} (h : LsOk n xs) : LsOk n xs.reverse := ⟨by rw [List.length_reverse]; exact h.1, fun x hx => h.2 x (List.mem_reverse.mp hx)⟩
theorem LsOk.more {n m : Nat} {xs : List D} (h : LsOk n xs) (hm : n ≤ m) : LsOk m xs := ⟨Nat.le_trans h.1 hm, h.2⟩
theorem LsOk.of {n : Nat} {ls : List Str} (h : ls.length ≤ n) (h' : ∀ z ∈ ls, z.length ≤ 100 ∧ Lit z) : LsOk n (ls.map D.str) :=
  ⟨by rw [List.length_map]; exact h, fun x hx => by obtain ⟨z, hz, rfl⟩ := List.mem_map.mp hx; exact ⟨z, rfl, h' z hz⟩⟩
theorem LsOk.strs {n : Nat} : ∀ {xs : List D}, LsOk n xs → ∃ ys : List Str, xs = ys.map D.str ∧ ys.length ≤ n ∧ ∀ z ∈ ys, z.length ≤ 100 ∧ Lit z := by
  have key : ∀ xs : List D, (∀ x ∈ xs, ∃ z : Str, x = .str z ∧ z.length ≤ 100 ∧ Lit z) → ∃ ys : List Str, xs = ys.map D.str ∧ ∀ z ∈ ys, z.length ≤ 100 ∧ Lit z := by
    intro xs
    induction xs with
    | nil => intro _; exact ⟨[], rfl, fun _ h => (nomatch h)⟩
    | cons x r ih =>
      intro h
      obtain ⟨z, rfl, h1, h2⟩ := h x List.mem_cons_self
      obtain ⟨ys, e, h3⟩ := ih fun y hy => h y (List.mem_cons_of_mem _ hy)
      refine ⟨z :: ys, by rw [e]; rfl, fun y hy => ?_⟩
      rcases List.mem_cons.mp hy with h | h
      · rw [h]; exact ⟨h1, h2⟩
      · exact h3 y h
  intro xs h
  obtain ⟨ys, e, h3⟩ := key xs h.2
  refine ⟨ys, e, ?_, h3⟩
  have := h.1
  rw [e, List.length_map] at this
  exact this
theorem lsz {n m : Nat} {xs ys : List D} (h : LsOk n xs) (h' : LsOk m ys) (hn : n + m ≤ 1000 := by decide) : xs.length + ys.length ≤ sizeLine :=
  Nat.le_trans (Nat.le_trans (Nat.add_le_add h.1 h'.1) hn) (by decide)
theorem isSg_ge {c : Nat} (h : isSg c = true) : 32 ≤ c ∧ c < 127 := by
  have hm := isSg_iff.mp h
  have : ∀ c ∈ allS, 32 ≤ c ∧ c < 127 := by decide +kernel
  exact this c hm
theorem Lit.strOk {z : Str} (h : Lit z) : PyData.strOk z = true := by
  unfold PyData.strOk
  rw [← Array.all_toList, List.all_eq_true]
  intro c hc
  refine decide_eq_true ?_
  rcases h c hc with h | h | h
  · have := (isSg_ge h).2; omega
  · omega
  · omega
theorem badRow_rows_at {rows : List Row} : ∀ {ps : List Str} {n i : Nat} {r : Row}, badRow ps n rows = none → rows[i]? = some r → okRow (ps ++ (rows.take i).map fun r => r.1 ++ r.2) r = true := by
  induction rows with
  | nil => intro _ _ _ _ _ h; simp at h
  | cons q t ih =>
    intro ps n i r h hr
    have h' : (if okRow ps q = true then badRow (ps ++ [q.1 ++ q.2]) (n + 1) t else some n) = none := h
    by_cases e : okRow ps q = true
    · rw [if_pos e] at h'
      cases i with
      | zero =>
        have : q = r := by simpa using hr
        subst this
        simpa using e
      | succ i =>
        have := ih h' (by simpa using hr)
        simpa using this
    · rw [if_neg e] at h'; cases h'
/-- pieces are made of signs -/
theorem pcs_signs {s : Str} {rows : List Row} (hT : tabErr s rows = none) : ∀ p ∈ pcs s rows, ∀ c ∈ p.cps.toList, c ∈ s.cps.toList := by
  have key : ∀ k, k ≤ rows.length → ∀ p ∈ pcs s (rows.take k), ∀ c ∈ p.cps.toList, c ∈ s.cps.toList := by
    intro k
    induction k with
    | zero =>
      intro _ p hp c hc
      unfold pcs at hp
      rw [List.take_zero, List.map_nil, List.append_nil] at hp
      unfold signs at hp
      obtain ⟨x, hx, rfl⟩ := List.mem_map.mp hp
      have : c = x := by simpa using hc
      rw [this]; exact hx
    | succ k ih =>
      intro hk p hp c hc
      have hr := List.getElem?_eq_getElem (show k < rows.length by omega)
      rw [pcs_take s rows hr] at hp
      rcases List.mem_append.mp hp with h | h
      · exact ih (by omega) p h c hc
      · rw [List.mem_singleton.mp h, show (rows[k].1 ++ rows[k].2).cps.toList = tl rows[k].1 ++ tl rows[k].2 from tl_append _ _] at hc
        have ok := badRow_rows_at (tabErr_none hT).2.2 hr
        unfold okRow at ok
        simp only [Bool.and_eq_true, decide_eq_true_eq] at ok
        rcases List.mem_append.mp hc with h | h
        · exact ih (by omega) _ ok.1 c h
        · exact ih (by omega) _ ok.2.1 c h
  have := key rows.length (Nat.le_refl _)
  rwa [List.take_length] at this
theorem sg_lit {s : Str} (hS : signErr s = none) {z : Str} (h : ∀ c ∈ z.cps.toList, c ∈ s.cps.toList) : Lit z := fun c hc => .inl ((signErr_none hS).2.2.2 c (h c hc))
theorem pcs_ls {s : Str} {rows : List Row} (hT : tabErr s rows = none) : ∀ p ∈ pcs s rows, p.length ≤ 16 ∧ Lit p := fun p hp => ⟨pcs_len hT p hp, sg_lit (tabErr_none hT).1 (pcs_signs hT p hp)⟩
theorem pcs_pos {s : Str} {rows : List Row} (hT : tabErr s rows = none) : ∀ p ∈ pcs s rows, 1 ≤ p.length := by
  have key : ∀ k, k ≤ rows.length → ∀ p ∈ pcs s (rows.take k), 1 ≤ p.length := by
    intro k
    induction k with
    | zero =>
      intro _ p hp
      unfold pcs at hp
      rw [List.take_zero, List.map_nil, List.append_nil] at hp
      unfold signs at hp
      obtain ⟨x, hx, rfl⟩ := List.mem_map.mp hp
      exact Nat.le_refl 1
    | succ k ih =>
      intro hk p hp
      have hr := List.getElem?_eq_getElem (show k < rows.length by omega)
      rw [pcs_take s rows hr] at hp
      rcases List.mem_append.mp hp with h | h
      · exact ih (by omega) p h
      · rw [List.mem_singleton.mp h, app_len]
        have ok := badRow_rows_at (tabErr_none hT).2.2 hr
        unfold okRow at ok
        simp only [Bool.and_eq_true, decide_eq_true_eq] at ok
        have := ih (by omega) _ ok.1
        omega
  have := key rows.length (Nat.le_refl _)
  rwa [List.take_length] at this
theorem join_empty (qs : List Str) : tl (Txt.join "" qs) = (qs.map tl).flatten := by
  rw [join_eq, tl_join, show tl ("" : Str) = [] from by decide +kernel]
  generalize qs.map tl = l
  induction l with
  | nil => rfl
  | cons p r ih =>
    cases r with
    | nil => show p = _; simp
    | cons q t => show p ++ ([] ++ joinL [] (q :: t)) = _; rw [ih, List.nil_append]; rfl
/-- a text of a table, as its law makes it -/
def TxOf (s z : Str) : Prop := ∀ c ∈ z.cps.toList, c ∈ s.cps.toList
theorem TxOf.err {s z : Str} (h : TxOf s z) : errT s (.str z) = none := by
  show (badAt _ 0 _).map _ = none
  rw [badAt_none.mpr h]; rfl
theorem one_pc {s z : Str} (rows : List Row) (h : TxOf s z) {c : Nat} (hc : c ∈ z.cps.toList) : (⟨#[c]⟩ : Str) ∈ pcs s rows := by
  unfold pcs signs
  exact List.mem_append_left _ (List.mem_map.mpr ⟨c, h c hc, rfl⟩)
end Lw

namespace Lw
open PySem L2 DL TL
/-! ### stretches of a text that are pieces -/
def subT (z : Str) (b e : Nat) : Str := cutS z (some (b : Int)) (some (e : Int))
theorem tl_sub (z : Str) (b e : Nat) : tl (subT z b e) = ((tl z).take e).drop b := by
  show (((z.cps.toList.drop _).take _).toArray).toList = _
  rw [HT.sIx_nat, HT.sIx_nat, List.toList_toArray]
  have hl : z.length = z.cps.toList.length := len_tl z
  rw [hl]
  show ((z.cps.toList.drop (min b z.cps.toList.length)).take (min e z.cps.toList.length - min b z.cps.toList.length)) = (z.cps.toList.take e).drop b
  generalize z.cps.toList = l
  rw [List.drop_take]
  by_cases ha : b ≤ l.length
  · rw [Nat.min_eq_left ha]
    by_cases hb : e ≤ l.length
    · rw [Nat.min_eq_left hb]
    · rw [Nat.min_eq_right (by omega)]
      rw [List.take_of_length_le (by rw [List.length_drop]; exact Nat.le_refl _), List.take_of_length_le (by rw [List.length_drop]; omega)]
  · rw [Nat.min_eq_right (show l.length ≤ b by omega), List.drop_length, List.take_nil, List.drop_eq_nil_of_le (by omega), List.take_nil]
theorem sub_len {z : Str} {b e : Nat} (he : e ≤ z.length) : (subT z b e).length = e - b := by
  rw [len_tl, tl_sub, List.length_drop, List.length_take, ← len_tl]; omega
def begs (ps : List Str) (z : Str) (e : Nat) : List Nat := (List.range e).filter fun b => decide (subT z b e ∈ ps)
theorem begs_mem {ps : List Str} {z : Str} {b e : Nat} : b ∈ begs ps z e ↔ b < e ∧ subT z b e ∈ ps := by
  unfold begs
  rw [List.mem_filter, List.mem_range, decide_eq_true_iff]
def intD (n : Nat) : D := .int (n : Nat)
end Lw

namespace Lw
open PySem L2 DL TL
/-! ### what heights are -/
def Climb (ps : List Str) (z : Str) (ts : List Int) : Prop := ∀ (b e : Nat) (tb te : Int), b < e → e ≤ z.length → subT z b e ∈ ps → ts[b]? = some tb → ts[e]? = some te → te ≤ tb + 1
/-- it is heights for a text -/
def IsH (ps : List Str) (z : Str) (d : D) : Prop := ∃ ts : List Int, d = .lst (ts.map D.int) ∧ ts.length = z.length + 1 ∧ ts[0]? = some 0 ∧ Climb ps z ts
theorem ints_inj {ts us : List Int} (h : ts.map D.int = us.map D.int) : ts = us := by
  induction ts generalizing us with
  | nil => cases us with
    | nil => rfl
    | cons _ _ => cases h
  | cons t r ih => cases us with
    | nil => cases h
    | cons u v =>
      rw [List.map_cons, List.map_cons] at h
      injection h with h1 h2
      injection h1 with h1
      rw [h1, ih h2]
theorem IsH.of {ps : List Str} {z : Str} {ts : List Int} (h : IsH ps z (.lst (ts.map D.int))) : ts.length = z.length + 1 ∧ ts[0]? = some 0 ∧ Climb ps z ts := by
  obtain ⟨us, e, h⟩ := h
  injection e with e
  rw [ints_inj e]; exact h
end Lw

namespace Lw
open PySem L2 DL TL
/-! ### the plain sweeping -/
def joinRow (l r : Str) : List Str → List Str
  | [] => []
  | [a] => [a]
  | a :: b :: t => if a = l ∧ b = r then (l ++ r) :: joinRow l r t else a :: joinRow l r (b :: t)
def sweepR (rows : List Row) (row : List Str) : List Str := rows.foldl (fun acc q => joinRow q.1 q.2 acc) row
def cutting (rows : List Row) (z : Str) : List Str := sweepR rows (signs z)
theorem joinRow_len {l r : Str} : ∀ xs : List Str, (joinRow l r xs).length ≤ xs.length
  | [] => Nat.le_refl _
  | [a] => Nat.le_refl _
  | a :: b :: t => by
    unfold joinRow
    split
    · have := joinRow_len (l := l) (r := r) t
      simp only [List.length_cons]; omega
    · have := joinRow_len (l := l) (r := r) (b :: t)
      simp only [List.length_cons] at *; omega
theorem joinRow_mem {l r : Str} {ps : List Str} (h : l ++ r ∈ ps) : ∀ xs : List Str, (∀ x ∈ xs, x ∈ ps) → ∀ x ∈ joinRow l r xs, x ∈ ps
  | [], _, x, hx => nomatch hx
  | [a], hx, x, h => hx x h
  | a :: b :: t, hx, x, hm => by
    unfold joinRow at hm
    split at hm
    · rcases List.mem_cons.mp hm with e | e
      · rw [e]; exact h
      · exact joinRow_mem h t (fun y hy => hx y (List.mem_cons_of_mem _ (List.mem_cons_of_mem _ hy))) x e
    · rcases List.mem_cons.mp hm with e | e
      · rw [e]; exact hx a List.mem_cons_self
      · exact joinRow_mem h (b :: t) (fun y hy => hx y (List.mem_cons_of_mem _ hy)) x e
theorem joinRow_flat {l r : Str} : ∀ xs : List Str, ((joinRow l r xs).map tl).flatten = (xs.map tl).flatten
  | [] => rfl
  | [a] => rfl
  | a :: b :: t => by
    unfold joinRow
    split
    · rename_i h
      rw [List.map_cons, List.flatten_cons, joinRow_flat t, h.1, h.2, tl_append, List.map_cons, List.map_cons, List.flatten_cons, List.flatten_cons, List.append_assoc]
    · rw [List.map_cons, List.flatten_cons, joinRow_flat (b :: t)]; rfl
theorem sweepR_len : ∀ (rows : List Row) (row : List Str), (sweepR rows row).length ≤ row.length
  | [], _ => Nat.le_refl _
  | q :: t, row => Nat.le_trans (sweepR_len t _) (joinRow_len row)
theorem sweepR_flat : ∀ (rows : List Row) (row : List Str), ((sweepR rows row).map tl).flatten = (row.map tl).flatten
  | [], _ => rfl
  | q :: t, row => (sweepR_flat t _).trans (joinRow_flat row)
theorem sweepR_mem {ps : List Str} : ∀ (rows : List Row) (row : List Str), (∀ q ∈ rows, q.1 ++ q.2 ∈ ps) → (∀ x ∈ row, x ∈ ps) → ∀ x ∈ sweepR rows row, x ∈ ps
  | [], _, _, h => h
  | q :: t, row, h1, h2 => sweepR_mem t _ (fun y hy => h1 y (List.mem_cons_of_mem _ hy)) (joinRow_mem (h1 q List.mem_cons_self) row h2)
theorem signs_flat (z : Str) : ((signs z).map tl).flatten = tl z := by
  unfold signs
  rw [List.map_map]
  show (z.cps.toList.map fun c => [c]).flatten = z.cps.toList
  induction z.cps.toList with
  | nil => rfl
  | cons c r ih => rw [List.map_cons, List.flatten_cons, ih]; rfl
theorem cutting_join (rows : List Row) (z : Str) : Txt.join "" (cutting rows z) = z := ext_tl (by rw [join_empty]; exact (sweepR_flat rows (signs z)).trans (signs_flat z))
theorem cutting_len (rows : List Row) (z : Str) : (cutting rows z).length ≤ z.length := by
  have := sweepR_len rows (signs z)
  rw [signs_length] at this; exact this
theorem cutting_mem {s z : Str} (rows : List Row) (h : TxOf s z) : ∀ c ∈ cutting rows z, c ∈ pcs s rows :=
  sweepR_mem rows (signs z) (fun q hq => List.mem_append_right _ (List.mem_map.mpr ⟨q, hq, rfl⟩)) fun x hx => by
    unfold signs at hx
    obtain ⟨c, hc, rfl⟩ := List.mem_map.mp hx
    exact one_pc rows h hc
/-- the first thing that is no piece, from n on -/
def badPc (ps : List Str) (n : Nat) : List D → Option Nat
  | [] => none
  | x :: r => if isPc ps x = true then badPc ps (n + 1) r else some n
def rowErr (ps : List Str) : D → Option D
  | .lst xs => (badPc ps 0 xs).map fun n => .int (n : Nat)
  | _ => some .non
theorem badPc_none {ps : List Str} : ∀ {xs : List D} {n : Nat}, badPc ps n xs = none ↔ xs.all (isPc ps) = true
  | [], n => by simp [badPc]
  | x :: r, n => by
    unfold badPc
    rw [List.all_cons]
    by_cases h : isPc ps x = true
    · rw [if_pos h, badPc_none, h]; simp
    · rw [if_neg h]; simp [h]
theorem badPc_at {ps : List Str} {l : List D} : ∀ {n i : Nat} {x : D}, (l.take i).all (isPc ps) = true → l[i]? = some x → isPc ps x = false → badPc ps n l = some (n + i) := by
  induction l with
  | nil => intro n i x _ h; simp at h
  | cons q t ih =>
    intro n i x h1 h2 h3
    cases i with
    | zero =>
      have : q = x := by simpa using h2
      subst this
      unfold badPc
      rw [if_neg (by rw [h3]; exact Bool.false_ne_true)]; rfl
    | succ i =>
      rw [List.take_succ_cons, List.all_cons, Bool.and_eq_true] at h1
      unfold badPc
      rw [if_pos h1.1, ih h1.2 (by simpa using h2) h3]
      congr 1; omega
theorem LsK.strs {ys : List Str} (h : ys.length ≤ 100000) : LsK (.lst (ys.map D.str)) := ⟨rfl, fun xs e => by
  cases e
  exact ⟨by rw [List.length_map]; exact h, fun x hx => by obtain ⟨y, _, rfl⟩ := List.mem_map.mp hx; rfl⟩⟩
theorem rowErr_strs {ps ys : List Str} (h : ∀ y ∈ ys, y ∈ ps) : rowErr ps (.lst (ys.map D.str)) = none := by
  show (badPc ps 0 _).map _ = none
  rw [badPc_none.mpr]
  · rfl
  · rw [List.all_map, List.all_eq_true]
    exact fun y hy => decide_eq_true (h y hy)
end Lw

namespace Lw
open PySem L2 DL TL
/-! ### borders: where two cuttings meet -/
/-- the signs of a row -/
def flatL (xs : List Str) : List Nat := (xs.map tl).flatten
theorem flatL_append (xs ys : List Str) : flatL (xs ++ ys) = flatL xs ++ flatL ys := by
  unfold flatL; rw [List.map_append, List.flatten_append]
theorem flatL_cons (x : Str) (ys : List Str) : flatL (x :: ys) = tl x ++ flatL ys := rfl
theorem joinRow_ne {l r : Str} : ∀ {xs : List Str}, xs ≠ [] → joinRow l r xs ≠ []
  | [], h => absurd rfl h
  | [a], _ => by unfold joinRow; exact List.cons_ne_nil _ _
  | a :: b :: t, _ => by
    unfold joinRow
    split <;> exact List.cons_ne_nil _ _
theorem app_ne_left {l r : Str} (hr : 1 ≤ r.length) : l ++ r ≠ l := fun e => by
  have := congrArg Str.length e
  rw [app_len] at this
  omega
/-- a pass over two rows side by side -/
theorem joinRow_append {l r : Str} (hr : 1 ≤ r.length) (Y : List Str) : ∀ X : List Str, joinRow l r (X ++ Y) = if (joinRow l r X).getLast? = some l ∧ Y.head? = some r then (joinRow l r X).dropLast ++ (l ++ r) :: joinRow l r Y.tail else joinRow l r X ++ joinRow l r Y
  | [] => by
    rw [if_neg (fun h => by have := h.1; unfold joinRow at this; cases this)]
    rfl
  | [a] => by
    have e : joinRow l r [a] = [a] := by unfold joinRow; rfl
    rw [e]
    cases Y with
    | nil => rw [if_neg (fun h => (nomatch h.2))]; rfl
    | cons b t =>
      show joinRow l r (a :: b :: t) = _
      by_cases h : a = l ∧ b = r
      · rw [if_pos ⟨by rw [h.1]; rfl, by rw [h.2]; rfl⟩]
        conv => lhs; unfold joinRow
        rw [if_pos h]; rfl
      · rw [if_neg (fun z => h ⟨by have := z.1; injection this, by have := z.2; injection this⟩)]
        conv => lhs; unfold joinRow
        rw [if_neg h]; rfl
  | a :: b :: t => by
    by_cases h : a = l ∧ b = r
    · have e : ∀ u, joinRow l r (a :: b :: u) = (l ++ r) :: joinRow l r u := fun u => by
        conv => lhs; unfold joinRow
        rw [if_pos h]
      show joinRow l r (a :: b :: (t ++ Y)) = _
      rw [e, e, joinRow_append hr Y t]
      by_cases ht : t = []
      · subst ht
        have e0 : joinRow l r [] = [] := by unfold joinRow; rfl
        rw [e0, if_neg (fun z => (nomatch z.1)), if_neg (fun z => by have := z.1; injection this with this; exact app_ne_left hr this)]
        rfl
      · have hn := joinRow_ne (l := l) (r := r) ht
        have el : ((l ++ r) :: joinRow l r t).getLast? = (joinRow l r t).getLast? := by
          rw [List.getLast?_cons]
          cases hq : (joinRow l r t).getLast? with
          | none => exact absurd (List.getLast?_eq_none_iff.mp hq) hn
          | some q => rfl
        rw [el, List.dropLast_cons_of_ne_nil hn]
        split <;> rfl
    · have e : ∀ u, joinRow l r (a :: b :: u) = a :: joinRow l r (b :: u) := fun u => by
        conv => lhs; unfold joinRow
        rw [if_neg h]
      show joinRow l r (a :: b :: (t ++ Y)) = _
      rw [e, e, show b :: (t ++ Y) = (b :: t) ++ Y from rfl, joinRow_append hr Y (b :: t)]
      have hn := joinRow_ne (l := l) (r := r) (List.cons_ne_nil b t)
      have el : (a :: joinRow l r (b :: t)).getLast? = (joinRow l r (b :: t)).getLast? := by
        rw [List.getLast?_cons]
        cases hq : (joinRow l r (b :: t)).getLast? with
        | none => exact absurd (List.getLast?_eq_none_iff.mp hq) hn
        | some q => rfl
      rw [el, List.dropLast_cons_of_ne_nil hn]
      split <;> rfl
/-- a border of a row: so many signs ahead of it -/
def Bord (xs : List Str) (n : Nat) : Prop := ∃ A B, xs = A ++ B ∧ (flatL A).length = n
theorem Bord.cons {x : Str} {xs : List Str} {n : Nat} : Bord (x :: xs) n ↔ n = 0 ∨ ∃ m, n = x.length + m ∧ Bord xs m := by
  refine ⟨fun ⟨A, B, e, h⟩ => ?_, fun h => ?_⟩
  · cases A with
    | nil => exact .inl h.symm
    | cons a A =>
      injection e with e1 e2
      subst e1
      rw [flatL_cons, List.length_append, ← len_tl] at h
      exact .inr ⟨_, h.symm, A, B, e2, rfl⟩
  · rcases h with h | ⟨m, h, A, B, e, hm⟩
    · exact ⟨[], _, rfl, h.symm⟩
    · exact ⟨x :: A, B, by rw [e]; rfl, by rw [flatL_cons, List.length_append, ← len_tl, h, hm]⟩
theorem joinRow_bord {l r : Str} : ∀ {X : List Str} {n : Nat}, Bord (joinRow l r X) n → Bord X n
  | [], _, h => h
  | [a], _, h => h
  | a :: b :: t, n, h => by
    unfold joinRow at h
    split at h
    · rename_i e
      rcases Bord.cons.mp h with h | ⟨m, h, hb⟩
      · exact Bord.cons.mpr (.inl h)
      · refine Bord.cons.mpr (.inr ⟨b.length + m, ?_, Bord.cons.mpr (.inr ⟨m, rfl, joinRow_bord hb⟩)⟩)
        rw [h, app_len, e.1, e.2]; omega
    · rcases Bord.cons.mp h with h | ⟨m, h, hb⟩
      · exact Bord.cons.mpr (.inl h)
      · exact Bord.cons.mpr (.inr ⟨m, h, joinRow_bord hb⟩)
theorem sweepR_bord : ∀ (rows : List Row) {X : List Str} {n : Nat}, Bord (sweepR rows X) n → Bord X n
  | [], _, _, h => h
  | q :: t, X, n, h => joinRow_bord (sweepR_bord t h)
theorem no_bord {D E : List Str} {m : Str} {n : Nat} (h1 : (flatL D).length < n) (h2 : n < (flatL D).length + m.length) : ¬ Bord (D ++ m :: E) n := fun h => by
  induction D generalizing n with
  | nil =>
    rcases Bord.cons.mp h with h | ⟨k, h, _⟩
    · omega
    · have : (flatL []).length = 0 := rfl
      omega
  | cons d D ih =>
    rw [flatL_cons, List.length_append, ← len_tl] at h1 h2
    rcases Bord.cons.mp h with h | ⟨k, h, hb⟩
    · omega
    · exact ih (n := k) (by omega) (by omega) hb
/-! ### stages -/
def stage (rows : List Row) (k : Nat) (z : Str) : List Str := sweepR (rows.take k) (signs z)
theorem sweepR_append (a b : List Row) (X : List Str) : sweepR (a ++ b) X = sweepR b (sweepR a X) := by
  unfold sweepR; rw [List.foldl_append]
theorem stage_succ {rows : List Row} {k : Nat} {q : Row} (h : rows[k]? = some q) (z : Str) : stage rows (k + 1) z = joinRow q.1 q.2 (stage rows k z) := by
  unfold stage
  rw [take_succ h, sweepR_append]; rfl
theorem stage_end (rows : List Row) (z : Str) : stage rows rows.length z = cutting rows z := by
  unfold stage cutting; rw [List.take_length]
theorem stage_flat (rows : List Row) (k : Nat) (z : Str) : flatL (stage rows k z) = tl z := (sweepR_flat _ _).trans (signs_flat z)
theorem stage_bord {rows : List Row} {k : Nat} {z : Str} {n : Nat} (h : Bord (cutting rows z) n) : Bord (stage rows k z) n := by
  have e : cutting rows z = sweepR (rows.drop k) (stage rows k z) := by
    unfold stage cutting
    rw [← sweepR_append, List.take_append_drop]
  rw [e] at h
  exact sweepR_bord _ h
/-- the pair of row k stands across the border of u and v -/
def Cross (rows : List Row) (u v : Str) (k : Nat) : Prop := ∃ q, rows[k]? = some q ∧ (stage rows (k + 1) u).getLast? = some q.1 ∧ (stage rows k v).head? = some q.2
theorem signs_append (u v : Str) : signs (u ++ v) = signs u ++ signs v := by
  unfold signs
  rw [show (u ++ v).cps.toList = tl u ++ tl v from tl_append u v, List.map_append]
theorem stage_append {rows : List Row} (hr : ∀ q ∈ rows, 1 ≤ q.1.length ∧ 1 ≤ q.2.length) {u v : Str} : ∀ {k : Nat}, (∀ j, j < k → ¬ Cross rows u v j) → stage rows k (u ++ v) = stage rows k u ++ stage rows k v
  | 0, _ => by
    unfold stage
    rw [List.take_zero]
    exact signs_append u v
  | k + 1, h => by
    have ih := stage_append hr (k := k) fun j hj => h j (Nat.lt_succ_of_lt hj)
    cases hq : rows[k]? with
    | none =>
      have hk : rows.length ≤ k := List.getElem?_eq_none_iff.mp hq
      unfold stage at ih ⊢
      rw [List.take_of_length_le (by omega)] at ih ⊢
      exact ih
    | some q =>
      rw [stage_succ hq, stage_succ hq, stage_succ hq, ih, joinRow_append (hr q (List.mem_of_getElem? hq)).2, if_neg]
      intro hc
      exact h k (Nat.lt_succ_self k) ⟨q, hq, by rw [stage_succ hq]; exact hc.1, hc.2⟩
/-- where the pair stands across, the border is lost -/
theorem cross_lost {rows : List Row} (hr : ∀ q ∈ rows, 1 ≤ q.1.length ∧ 1 ≤ q.2.length) {u v : Str} {k : Nat} (hc : Cross rows u v k) (h : ∀ j, j < k → ¬ Cross rows u v j) : ¬ Bord (cutting rows (u ++ v)) u.length := fun hb => by
  obtain ⟨q, hq, h1, h2⟩ := hc
  have hqr := hr q (List.mem_of_getElem? hq)
  have hb := stage_bord (k := k + 1) hb
  rw [stage_succ hq, stage_append hr h, joinRow_append hqr.2, if_pos ⟨by rw [← stage_succ hq]; exact h1, h2⟩, ← stage_succ hq] at hb
  have e : stage rows (k + 1) u = (stage rows (k + 1) u).dropLast ++ [q.1] := by
    have hne : stage rows (k + 1) u ≠ [] := fun e => by rw [e] at h1; cases h1
    have := List.dropLast_concat_getLast hne
    rw [List.getLast?_eq_some_getLast hne] at h1
    injection h1 with h1
    rw [h1] at this
    exact this.symm
  have hl := congrArg List.length (stage_flat rows (k + 1) u)
  rw [e, flatL_append, List.length_append, ← len_tl] at hl
  have e1 : (flatL [q.1]).length = q.1.length := by rw [flatL_cons]; show (tl q.1 ++ []).length = _; rw [List.append_nil, ← len_tl]
  rw [e1] at hl
  refine no_bord (by omega) ?_ hb
  rw [app_len]; omega
theorem least_of {p : Nat → Prop} : ∀ {n : Nat}, p n → ∃ m, m ≤ n ∧ p m ∧ ∀ j, j < m → ¬ p j := by
  intro n
  induction n using Nat.strongRecOn with
  | ind n ih =>
    intro h
    by_cases hx : ∃ j, j < n ∧ p j
    · obtain ⟨j, hj, hp⟩ := hx
      obtain ⟨m, hm, r⟩ := ih j hj hp
      exact ⟨m, by omega, r⟩
    · exact ⟨n, Nat.le_refl _, h, fun j hj hp => hx ⟨j, hj, hp⟩⟩
/-- a border that stays: no pair stands across -/
theorem no_cross {rows : List Row} (hr : ∀ q ∈ rows, 1 ≤ q.1.length ∧ 1 ≤ q.2.length) {u v : Str} (hb : Bord (cutting rows (u ++ v)) u.length) (k : Nat) : ¬ Cross rows u v k := fun hc => by
  obtain ⟨m, _, h1, h2⟩ := least_of hc
  exact cross_lost hr h1 h2 hb
theorem cutting_append {rows : List Row} (hr : ∀ q ∈ rows, 1 ≤ q.1.length ∧ 1 ≤ q.2.length) {u v : Str} (h : ∀ k, ¬ Cross rows u v k) : cutting rows (u ++ v) = cutting rows u ++ cutting rows v := by
  have := stage_append hr (u := u) (v := v) (k := rows.length) fun j _ => h j
  rw [stage_end, stage_end, stage_end] at this
  exact this
/-! ### pieces that stand alone -/
def Fits (rows : List Row) (p q : Str) : Prop := ∀ k, ¬ Cross rows p q k
def Alone (rows : List Row) (p : Str) : Prop := cutting rows p = [p]
theorem Bord.of_append {A B : List Str} : Bord (A ++ B) (flatL A).length := ⟨A, B, rfl, rfl⟩
/-- two ways to part a row at one border -/
theorem parted : ∀ {A A' B B' : List Str}, (∀ x ∈ A, 1 ≤ x.length) → (∀ x ∈ A', 1 ≤ x.length) → A ++ B = A' ++ B' → (flatL A).length = (flatL A').length → A = A' ∧ B = B'
  | [], [], _, _, _, _, e, _ => ⟨rfl, e⟩
  | [], a :: A', _, _, _, h, _, hl => by
    rw [flatL_cons, List.length_append, ← len_tl] at hl
    have := h a List.mem_cons_self
    have : (flatL []).length = 0 := rfl
    omega
  | a :: A, [], _, _, h, _, _, hl => by
    rw [flatL_cons, List.length_append, ← len_tl] at hl
    have := h a List.mem_cons_self
    have : (flatL []).length = 0 := rfl
    omega
  | a :: A, b :: A', B, B', h, h', e, hl => by
    injection e with e1 e2
    subst e1
    rw [flatL_cons, flatL_cons, List.length_append, List.length_append] at hl
    obtain ⟨i1, i2⟩ := parted (fun x hx => h x (List.mem_cons_of_mem _ hx)) (fun x hx => h' x (List.mem_cons_of_mem _ hx)) e2 (by omega)
    exact ⟨by rw [i1], i2⟩
theorem joinRow_pos {l r : Str} (hr : 1 ≤ l.length) : ∀ {X : List Str}, (∀ x ∈ X, 1 ≤ x.length) → ∀ x ∈ joinRow l r X, 1 ≤ x.length
  | [], _, x, hx => nomatch hx
  | [a], h, x, hx => h x hx
  | a :: b :: t, h, x, hx => by
    unfold joinRow at hx
    split at hx
    · rcases List.mem_cons.mp hx with e | e
      · rw [e, app_len]; omega
      · exact joinRow_pos hr (fun y hy => h y (List.mem_cons_of_mem _ (List.mem_cons_of_mem _ hy))) x e
    · rcases List.mem_cons.mp hx with e | e
      · rw [e]; exact h a List.mem_cons_self
      · exact joinRow_pos hr (fun y hy => h y (List.mem_cons_of_mem _ hy)) x e
theorem sweepR_pos : ∀ {rows : List Row}, (∀ q ∈ rows, 1 ≤ q.1.length ∧ 1 ≤ q.2.length) → ∀ {X : List Str}, (∀ x ∈ X, 1 ≤ x.length) → ∀ x ∈ sweepR rows X, 1 ≤ x.length
  | [], _, _, h => h
  | q :: t, hr, _, h => sweepR_pos (rows := t) (fun y hy => hr y (List.mem_cons_of_mem _ hy)) (joinRow_pos (hr q List.mem_cons_self).1 h)
theorem cutting_pos {rows : List Row} (hr : ∀ q ∈ rows, 1 ≤ q.1.length ∧ 1 ≤ q.2.length) (z : Str) : ∀ x ∈ cutting rows z, 1 ≤ x.length :=
  sweepR_pos hr fun x hx => by
    unfold signs at hx
    obtain ⟨c, _, rfl⟩ := List.mem_map.mp hx
    exact Nat.le_refl _
/-- a cutting parted at a border: the cuttings of both sides -/
theorem cutting_parts {rows : List Row} (hr : ∀ q ∈ rows, 1 ≤ q.1.length ∧ 1 ≤ q.2.length) {u v : Str} {A B : List Str} (h : cutting rows (u ++ v) = A ++ B) (hA : (flatL A).length = u.length) : cutting rows u = A ∧ cutting rows v = B ∧ Fits rows u v := by
  have hf : Fits rows u v := no_cross hr (by rw [h, ← hA]; exact Bord.of_append)
  have e := (cutting_append hr hf).symm.trans h
  have hp : ∀ x ∈ A, 1 ≤ x.length := fun x hx => cutting_pos hr (u ++ v) x (by rw [h]; exact List.mem_append_left _ hx)
  obtain ⟨e1, e2⟩ := parted (cutting_pos hr u) hp e (by
    rw [hA, show flatL (cutting rows u) = tl u from (sweepR_flat rows (signs u)).trans (signs_flat u), ← len_tl])
  exact ⟨e1, e2, hf⟩
/-! ### rows that are cuttings -/
def Chn (rows : List Row) : List Str → Prop
  | [] => True
  | [_] => True
  | a :: b :: t => Fits rows a b ∧ Chn rows (b :: t)
theorem joinT_cons (q : Str) (r : List Str) : Txt.join "" (q :: r) = q ++ Txt.join "" r := ext_tl (by rw [join_empty, tl_append, join_empty]; rfl)
theorem cutting_nil (rows : List Row) (z : Str) (h : z.length = 0) : cutting rows z = [] := by
  have := cutting_len rows z
  exact List.length_eq_zero_iff.mp (by omega)
theorem stage_ne {rows : List Row} {k : Nat} {z : Str} (h : 1 ≤ z.length) : stage rows k z ≠ [] := fun e => by
  have := congrArg List.length (stage_flat rows k z)
  rw [e, ← len_tl] at this
  have h0 : (flatL []).length = 0 := rfl
  omega
theorem fits_head {rows : List Row} (hr : ∀ q ∈ rows, 1 ≤ q.1.length ∧ 1 ≤ q.2.length) {p q v : Str} (hq : 1 ≤ q.length) (h : Fits rows q v) : Fits rows p (q ++ v) ↔ Fits rows p q := by
  have key : ∀ k, Cross rows p (q ++ v) k ↔ Cross rows p q k := fun k => by
    unfold Cross
    rw [stage_append hr (u := q) (v := v) (k := k) fun j _ => h j]
    have hn := stage_ne (rows := rows) (k := k) hq
    cases hs : stage rows k q with
    | nil => exact absurd hs hn
    | cons a t => rfl
  exact ⟨fun f k c => f k ((key k).mpr c), fun f k c => f k ((key k).mp c)⟩
theorem flat_one (q : Str) : (flatL [q]).length = q.length := by
  rw [flatL_cons]; show (tl q ++ []).length = _; rw [List.append_nil, ← len_tl]
theorem row_cut {rows : List Row} (hr : ∀ q ∈ rows, 1 ≤ q.1.length ∧ 1 ≤ q.2.length) : ∀ {qs : List Str}, (∀ q ∈ qs, 1 ≤ q.length) → (cutting rows (Txt.join "" qs) = qs ↔ (∀ q ∈ qs, Alone rows q) ∧ Chn rows qs)
  | [], _ => by
    refine ⟨fun _ => ⟨fun _ h => (nomatch h), trivial⟩, fun _ => cutting_nil rows _ ?_⟩
    rw [len_tl, join_empty]; rfl
  | [a], _ => by
    have e : Txt.join "" [a] = a := ext_tl (by rw [join_empty]; show tl a ++ [] = _; rw [List.append_nil])
    rw [e]
    exact ⟨fun h => ⟨fun q hq => by rw [List.mem_singleton.mp hq]; exact h, trivial⟩, fun h => h.1 a List.mem_cons_self⟩
  | a :: b :: t, h => by
    have hb : 1 ≤ b.length := h b (List.mem_cons_of_mem _ List.mem_cons_self)
    have ih := row_cut hr (qs := b :: t) fun q hq => h q (List.mem_cons_of_mem _ hq)
    have fb : cutting rows (Txt.join "" (b :: t)) = b :: t → Fits rows b (Txt.join "" t) := fun hc => by
      rw [joinT_cons] at hc
      exact (cutting_parts hr (A := [b]) (B := t) hc (flat_one b)).2.2
    rw [joinT_cons]
    refine ⟨fun hc => ?_, fun ⟨h1, h2, h3⟩ => ?_⟩
    · obtain ⟨c1, c2, c3⟩ := cutting_parts hr (A := [a]) (B := b :: t) hc (flat_one a)
      obtain ⟨i1, i2⟩ := ih.mp c2
      rw [joinT_cons] at c3
      refine ⟨fun q hq => ?_, (fits_head hr hb (fb c2)).mp c3, i2⟩
      rcases List.mem_cons.mp hq with e | e
      · rw [e]; exact c1
      · exact i1 q e
    · have hc := ih.mpr ⟨fun q hq => h1 q (List.mem_cons_of_mem _ hq), h3⟩
      have hf : Fits rows a (Txt.join "" (b :: t)) := by
        rw [joinT_cons]
        exact (fits_head hr hb (fb hc)).mpr h2
      rw [cutting_append hr hf, hc, show cutting rows a = [a] from h1 a List.mem_cons_self]; rfl
end Lw

namespace Lw
open PySem L2 DL TL
/-! ### when a joined piece stands alone -/
theorem sweepR_one : ∀ (rows : List Row) (p : Str), sweepR rows [p] = [p]
  | [], _ => rfl
  | q :: t, p => sweepR_one t p
theorem stage_keep {rows : List Row} {k : Nat} {p : Str} (h : stage rows k p = [p]) : cutting rows p = [p] := by
  have e : cutting rows p = sweepR (rows.drop k) (stage rows k p) := by
    unfold stage cutting
    rw [← sweepR_append, List.take_append_drop]
  rw [e, h, sweepR_one]
theorem joinRow_one {l r p : Str} {X : List Str} (h : joinRow l r X = [p]) (hX : X ≠ [p]) : X = [l, r] ∧ p = l ++ r := by
  match X, h, hX with
  | [], h, _ => cases h
  | [a], h, hX => exact absurd h hX
  | a :: b :: t, h, _ =>
    unfold joinRow at h
    split at h
    · rename_i e
      injection h with h1 h2
      cases t with
      | nil => exact ⟨by rw [e.1, e.2], h1.symm⟩
      | cons c u => exact absurd h2 (joinRow_ne (List.cons_ne_nil c u))
    · injection h with _ h2
      exact absurd h2 (joinRow_ne (List.cons_ne_nil b t))
theorem stage_take {rows : List Row} {k j : Nat} (h : j ≤ k) (z : Str) : stage (rows.take k) j z = stage rows j z := by
  unfold stage
  rw [List.take_take, Nat.min_eq_left h]
theorem cross_take {rows : List Row} {k j : Nat} (h : j < k) (u v : Str) : Cross (rows.take k) u v j ↔ Cross rows u v j := by
  unfold Cross
  rw [stage_take (by omega), stage_take (by omega), List.getElem?_take_of_lt h]
/-- the first row whose pair stands across -/
def First (rows : List Row) (u v : Str) (k : Nat) : Prop := Cross rows u v k ∧ ∀ j, j < k → ¬ Cross rows u v j
theorem whole_of {xs : List Str} {p : Str} (h : flatL xs = tl p) (hl : xs.getLast? = some p) (hp : ∀ x ∈ xs, 1 ≤ x.length) : xs = [p] := by
  have hne : xs ≠ [] := fun e => by rw [e] at hl; cases hl
  have e := List.dropLast_concat_getLast hne
  rw [List.getLast?_eq_some_getLast hne] at hl
  injection hl with hl
  rw [hl] at e
  have h2 := congrArg List.length h
  rw [← e, flatL_append, List.length_append, flat_one, ← len_tl] at h2
  cases hd : xs.dropLast with
  | nil => rw [← e, hd]; rfl
  | cons a t =>
    rw [hd, flatL_cons, List.length_append, ← len_tl] at h2
    have := hp a ((List.dropLast_sublist xs).subset (by rw [hd]; exact List.mem_cons_self))
    omega
theorem whole_of' {xs : List Str} {p : Str} (h : flatL xs = tl p) (hl : xs.head? = some p) (hp : ∀ x ∈ xs, 1 ≤ x.length) : xs = [p] := by
  cases xs with
  | nil => cases hl
  | cons a t =>
    injection hl with hl
    subst hl
    cases t with
    | nil => rfl
    | cons b u =>
      have h2 := congrArg List.length h
      rw [flatL_cons, flatL_cons, List.length_append, List.length_append, ← len_tl, ← len_tl] at h2
      have := hp b (List.mem_cons_of_mem _ List.mem_cons_self)
      omega
theorem stage_pos {rows : List Row} (hr : ∀ q ∈ rows, 1 ≤ q.1.length ∧ 1 ≤ q.2.length) (k : Nat) (z : Str) : ∀ x ∈ stage rows k z, 1 ≤ x.length :=
  cutting_pos (rows := rows.take k) (fun q hq => hr q (List.mem_of_mem_take hq)) z
theorem alone_iff {rows : List Row} (hr : ∀ q ∈ rows, 1 ≤ q.1.length ∧ 1 ≤ q.2.length) (hd : ∀ (i j : Nat) (p q : Row), rows[i]? = some p → rows[j]? = some q → p.1 ++ p.2 = q.1 ++ q.2 → i = j) {k : Nat} {q : Row} (hq : rows[k]? = some q) : Alone rows (q.1 ++ q.2) ↔ First rows q.1 q.2 k := by
  have hqr := hr q (List.mem_of_getElem? hq)
  refine ⟨fun h => ?_, fun ⟨hc, hno⟩ => ?_⟩
  · -- the pass that makes it
    obtain ⟨m, hm, hs, hmin⟩ := least_of (p := fun m => stage rows m (q.1 ++ q.2) = [q.1 ++ q.2]) (n := rows.length) (by rw [stage_end]; exact h)
    cases m with
    | zero =>
      have := congrArg List.length (show signs (q.1 ++ q.2) = [q.1 ++ q.2] from hs)
      rw [signs_length, show (q.1 ++ q.2).cps.size = (q.1 ++ q.2).length from rfl, app_len] at this
      simp only [List.length_cons, List.length_nil] at this
      omega
    | succ m =>
      obtain ⟨r, hr1⟩ : ∃ r, rows[m]? = some r := ⟨_, List.getElem?_eq_getElem (by omega)⟩
      rw [stage_succ hr1] at hs
      obtain ⟨e1, e2⟩ := joinRow_one hs (hmin m (by omega))
      obtain rfl : k = m := hd k m q r hq hr1 e2
      rw [hq] at hr1; cases hr1
      have hr' : ∀ x ∈ rows.take k, 1 ≤ x.1.length ∧ 1 ≤ x.2.length := fun x hx => hr x (List.mem_of_mem_take hx)
      obtain ⟨c1, c2, c3⟩ := cutting_parts hr' (u := q.1) (v := q.2) (A := [q.1]) (B := [q.2]) e1 (flat_one _)
      have s1 : stage rows k q.1 = [q.1] := c1
      have s2 : stage rows k q.2 = [q.2] := c2
      refine ⟨⟨q, hq, ?_, ?_⟩, fun j hj hc => c3 j ((cross_take hj _ _).mpr hc)⟩
      · rw [stage_succ hq, s1]; rfl
      · rw [s2]; rfl
  · obtain ⟨q', hq', h1, h2⟩ := hc
    rw [hq] at hq'; cases hq'
    have w1 := whole_of (stage_flat rows (k + 1) q.1) h1 (stage_pos hr _ _)
    have w2 := whole_of' (stage_flat rows k q.2) h2 (stage_pos hr _ _)
    refine stage_keep (k := k + 1) ?_
    rw [stage_succ hq, stage_append hr hno, joinRow_append hqr.2, if_pos ⟨by rw [← stage_succ hq]; exact h1, h2⟩, ← stage_succ hq, w1, w2]
    rfl
end Lw

namespace Lw
open PySem L2 DL TL
/-! ### the stages of an alone piece -/
section
variable {rows : List Row} (hr : ∀ q ∈ rows, 1 ≤ q.1.length ∧ 1 ≤ q.2.length) (hd : ∀ (i j : Nat) (p q : Row), rows[i]? = some p → rows[j]? = some q → p.1 ++ p.2 = q.1 ++ q.2 → i = j)
include hr hd
theorem alone_parts {k : Nat} {q : Row} (hq : rows[k]? = some q) (h : Alone rows (q.1 ++ q.2)) : Alone rows q.1 ∧ Alone rows q.2 ∧ stage rows (k + 1) q.1 = [q.1] ∧ stage rows k q.2 = [q.2] := by
  obtain ⟨⟨q', hq', h1, h2⟩, _⟩ := (alone_iff hr hd hq).mp h
  rw [hq] at hq'; cases hq'
  have w1 := whole_of (stage_flat rows (k + 1) q.1) h1 (stage_pos hr _ _)
  have w2 := whole_of' (stage_flat rows k q.2) h2 (stage_pos hr _ _)
  exact ⟨stage_keep w1, stage_keep w2, w1, w2⟩
theorem stage_low {k : Nat} {q : Row} (hq : rows[k]? = some q) (h : Alone rows (q.1 ++ q.2)) {j : Nat} (hj : j ≤ k) : stage rows j (q.1 ++ q.2) = stage rows j q.1 ++ stage rows j q.2 :=
  stage_append hr fun i hi => ((alone_iff hr hd hq).mp h).2 i (by omega)
theorem stage_high {k : Nat} {q : Row} (hq : rows[k]? = some q) (h : Alone rows (q.1 ++ q.2)) {j : Nat} (hj : k < j) : stage rows j (q.1 ++ q.2) = [q.1 ++ q.2] := by
  obtain ⟨⟨q', hq', h1, h2⟩, hno⟩ := (alone_iff hr hd hq).mp h
  rw [hq] at hq'; cases hq'
  have w1 := whole_of (stage_flat rows (k + 1) q.1) h1 (stage_pos hr _ _)
  have w2 := whole_of' (stage_flat rows k q.2) h2 (stage_pos hr _ _)
  have s1 : stage rows (k + 1) (q.1 ++ q.2) = [q.1 ++ q.2] := by
    rw [stage_succ hq, stage_append hr hno, joinRow_append (hr q (List.mem_of_getElem? hq)).2, if_pos ⟨by rw [← stage_succ hq]; exact h1, h2⟩, ← stage_succ hq, w1, w2]
    rfl
  obtain ⟨d, rfl⟩ : ∃ d, j = (k + 1) + d := ⟨j - (k + 1), by omega⟩
  have e : stage rows (k + 1 + d) (q.1 ++ q.2) = sweepR ((rows.drop (k + 1)).take d) (stage rows (k + 1) (q.1 ++ q.2)) := by
    unfold stage
    rw [← sweepR_append, List.take_add]
  rw [e, s1, sweepR_one]
theorem last_low {k : Nat} {q : Row} (hq : rows[k]? = some q) (h : Alone rows (q.1 ++ q.2)) {j : Nat} (hj : j ≤ k) : (stage rows j (q.1 ++ q.2)).getLast? = (stage rows j q.2).getLast? := by
  rw [stage_low hr hd hq h hj]
  have hn := stage_ne (rows := rows) (k := j) (hr q (List.mem_of_getElem? hq)).2
  rw [List.getLast?_append]
  cases hs : (stage rows j q.2).getLast? with
  | none => exact absurd (List.getLast?_eq_none_iff.mp hs) hn
  | some x => rfl
theorem head_low {k : Nat} {q : Row} (hq : rows[k]? = some q) (h : Alone rows (q.1 ++ q.2)) {j : Nat} (hj : j ≤ k) : (stage rows j (q.1 ++ q.2)).head? = (stage rows j q.1).head? := by
  rw [stage_low hr hd hq h hj]
  have hn := stage_ne (rows := rows) (k := j) (hr q (List.mem_of_getElem? hq)).1
  cases hs : stage rows j q.1 with
  | nil => exact absurd hs hn
  | cons a t => rfl
end
theorem stage_sign {rows : List Row} {p : Str} (h : p.length = 1) (k : Nat) : stage rows k p = [p] := by
  have e : signs p = [p] := by
    have hl : (tl p).length = 1 := by rw [← len_tl]; exact h
    obtain ⟨c, hc⟩ : ∃ c, tl p = [c] := by
      match ht : tl p, hl with
      | [c], _ => exact ⟨c, rfl⟩
    have : p = ⟨#[c]⟩ := ext_tl hc
    rw [this]; rfl
  unfold stage
  rw [e, sweepR_one]
/-! ### edges of a piece -/
def ownK (rows : List Row) (p : Str) : Option Nat := rows.findIdx? fun q => decide (q.1 ++ q.2 = p)
def partsK (rows : List Row) (p : Str) : Option Row := (ownK rows p).bind fun k => rows[k]?
def sideR (b : Bool) (q : Row) : Str := if b then q.2 else q.1
def edgeF (rows : List Row) (b : Bool) : Nat → Str → List Str
  | 0, p => [p]
  | n + 1, p => match partsK rows p with
    | none => [p]
    | some q => p :: edgeF rows b n (sideR b q)
/-- its own rank is below k (a sign's always) -/
def belowK (rows : List Row) (k : Nat) (x : Str) : Bool := match ownK rows x with
  | none => true
  | some j => decide (j < k)
theorem ownK_some {rows : List Row} {p : Str} {k : Nat} (h : ownK rows p = some k) : ∃ q, rows[k]? = some q ∧ q.1 ++ q.2 = p := by
  unfold ownK at h
  obtain ⟨hk, h1, _⟩ := List.findIdx?_eq_some_iff_getElem.mp h
  exact ⟨_, List.getElem?_eq_getElem hk, of_decide_eq_true h1⟩
theorem ownK_of {rows : List Row} (hd : ∀ (i j : Nat) (p q : Row), rows[i]? = some p → rows[j]? = some q → p.1 ++ p.2 = q.1 ++ q.2 → i = j) {k : Nat} {q : Row} (hq : rows[k]? = some q) : ownK rows (q.1 ++ q.2) = some k := by
  cases h : ownK rows (q.1 ++ q.2) with
  | none =>
    unfold ownK at h
    have := List.findIdx?_eq_none_iff.mp h q (List.mem_of_getElem? hq)
    rw [decide_eq_true rfl] at this; cases this
  | some j =>
    obtain ⟨r, h1, h2⟩ := ownK_some h
    rw [hd j k r q h1 hq h2]
def Pc (rows : List Row) (p : Str) : Prop := p.length = 1 ∨ ∃ (k : Nat) (q : Row), rows[k]? = some q ∧ q.1 ++ q.2 = p
theorem ownK_sign {rows : List Row} (hr : ∀ q ∈ rows, 1 ≤ q.1.length ∧ 1 ≤ q.2.length) {p : Str} (h : p.length = 1) : ownK rows p = none := by
  cases e : ownK rows p with
  | none => rfl
  | some k =>
    obtain ⟨q, hq, e2⟩ := ownK_some e
    have := hr q (List.mem_of_getElem? hq)
    rw [← e2, app_len] at h
    omega
/-- the last (first) of a stage: the first of the edge whose own rank is below -/
theorem edge_stage {rows : List Row} (hr : ∀ q ∈ rows, 1 ≤ q.1.length ∧ 1 ≤ q.2.length) (hd : ∀ (i j : Nat) (p q : Row), rows[i]? = some p → rows[j]? = some q → p.1 ++ p.2 = q.1 ++ q.2 → i = j) (hv : ∀ q ∈ rows, Pc rows q.1 ∧ Pc rows q.2) (k : Nat) :
    ∀ (n : Nat) (p : Str), p.length ≤ n → Pc rows p → Alone rows p → (stage rows k p).getLast? = (edgeF rows true n p).find? (belowK rows k) ∧ (stage rows k p).head? = (edgeF rows false n p).find? (belowK rows k) := by
  intro n
  induction n with
  | zero =>
    intro p hp hpc _
    rcases hpc with h | ⟨k, q, hq, e⟩
    · omega
    · have := hr q (List.mem_of_getElem? hq)
      rw [← e, app_len] at hp
      omega
  | succ n ih =>
    intro p hp hpc hA
    rcases hpc with h | ⟨j, q, hq, rfl⟩
    · have e : partsK rows p = none := by unfold partsK; rw [ownK_sign hr h]; rfl
      have b : belowK rows k p = true := by unfold belowK; rw [ownK_sign hr h]
      rw [stage_sign h]
      unfold edgeF
      rw [e]
      simp [b]
    · have ho := ownK_of hd hq
      have hqr := hr q (List.mem_of_getElem? hq)
      have hqv := hv q (List.mem_of_getElem? hq)
      have e : partsK rows (q.1 ++ q.2) = some q := by unfold partsK; rw [ho]; exact hq
      have b : belowK rows k (q.1 ++ q.2) = decide (j < k) := by unfold belowK; rw [ho]
      obtain ⟨a1, a2, _, _⟩ := alone_parts hr hd hq hA
      rw [app_len] at hp
      unfold edgeF
      rw [e]
      show _ = ((q.1 ++ q.2) :: edgeF rows true n q.2).find? _ ∧ _ = ((q.1 ++ q.2) :: edgeF rows false n q.1).find? _
      by_cases hjk : j < k
      · rw [stage_high hr hd hq hA hjk]
        simp [b, hjk]
      · rw [last_low hr hd hq hA (by omega), head_low hr hd hq hA (by omega), (ih q.2 (by omega) hqv.2 a2).1, (ih q.1 (by omega) hqv.1 a1).2]
        simp [b, hjk]
end Lw

namespace Lw
open PySem L2 DL TL
/-! ### what joined_over goes through -/
/-- each part comes ahead of its row -/
def Ordered (rows : List Row) : Prop := ∀ (k : Nat) (q : Row), rows[k]? = some q → belowK rows k q.1 = true ∧ belowK rows k q.2 = true
theorem belowK_more {rows : List Row} {j k : Nat} {x : Str} (h : j ≤ k) (hb : belowK rows j x = true) : belowK rows k x = true := by
  unfold belowK at hb ⊢
  cases ho : ownK rows x with
  | none => rfl
  | some i =>
    rw [ho] at hb
    exact decide_eq_true (Nat.lt_of_lt_of_le (of_decide_eq_true hb) h)
theorem edge_below {rows : List Row} (ho : Ordered rows) (b : Bool) (k : Nat) : ∀ (n : Nat) (p : Str), belowK rows k p = true → ∀ x ∈ edgeF rows b n p, belowK rows k x = true := by
  intro n
  induction n with
  | zero =>
    intro p hp x hx
    unfold edgeF at hx
    rw [List.mem_singleton.mp hx]; exact hp
  | succ n ih =>
    intro p hp x hx
    unfold edgeF at hx
    cases hq : partsK rows p with
    | none =>
      rw [hq] at hx
      rw [List.mem_singleton.mp hx]; exact hp
    | some q =>
      rw [hq] at hx
      rcases List.mem_cons.mp hx with e | e
      · rw [e]; exact hp
      · refine ih (sideR b q) ?_ x e
        unfold partsK at hq
        cases hw : ownK rows p with
        | none => rw [hw] at hq; cases hq
        | some j =>
          rw [hw] at hq
          have hj : j < k := by
            unfold belowK at hp
            rw [hw] at hp
            exact of_decide_eq_true hp
          have := ho j q hq
          unfold sideR
          cases b with
          | true => exact belowK_more (Nat.le_of_lt hj) this.2
          | false => exact belowK_more (Nat.le_of_lt hj) this.1
theorem edge_pairs {rows : List Row} (ho : Ordered rows) (b : Bool) : ∀ (n : Nat) (p : Str), (edgeF rows b n p).Pairwise fun x y => ∀ k, belowK rows k x = true → belowK rows k y = true := by
  intro n
  induction n with
  | zero => intro p; unfold edgeF; exact List.pairwise_singleton _ _
  | succ n ih =>
    intro p
    unfold edgeF
    cases hq : partsK rows p with
    | none => exact List.pairwise_singleton _ _
    | some q =>
      refine List.pairwise_cons.mpr ⟨fun y hy k hk => ?_, ih _⟩
      have : y ∈ edgeF rows b (n + 1) p := by unfold edgeF; rw [hq]; exact List.mem_cons_of_mem _ hy
      exact edge_below ho b k (n + 1) p hk y this
/-- the first of an edge that is below: at its place, the one ahead is not -/
theorem edge_find {rows : List Row} (ho : Ordered rows) {b : Bool} {n : Nat} {p x : Str} {k i : Nat} (hx : (edgeF rows b n p)[i]? = some x) (hb : belowK rows k x = true) (ha : i = 0 ∨ ∃ y, (edgeF rows b n p)[i - 1]? = some y ∧ belowK rows k y = false) : (edgeF rows b n p).find? (belowK rows k) = some x := by
  obtain ⟨hi, hxi⟩ := List.getElem?_eq_some_iff.mp hx
  refine List.find?_eq_some_iff_getElem.mpr ⟨hb, i, hi, hxi, fun j hj => ?_⟩
  rcases ha with h0 | ⟨y, hy, hyb⟩
  · omega
  · obtain ⟨hi1, hy1⟩ := List.getElem?_eq_some_iff.mp hy
    by_cases e : j = i - 1
    · subst e
      rw [hy1, hyb]; rfl
    · have := List.pairwise_iff_getElem.mp (edge_pairs ho b n p) j (i - 1) (by omega) hi1 (by omega) k
      rw [hy1] at this
      cases hj2 : belowK rows k (edgeF rows b n p)[j] with
      | false => rfl
      | true => rw [this hj2] at hyb; cases hyb
theorem find_edge {rows : List Row} {b : Bool} {n : Nat} {p x : Str} {k : Nat} (h : (edgeF rows b n p).find? (belowK rows k) = some x) : ∃ i, (edgeF rows b n p)[i]? = some x ∧ (i = 0 ∨ ∃ y, (edgeF rows b n p)[i - 1]? = some y ∧ belowK rows k y = false) := by
  obtain ⟨_, i, hi, hxi, hno⟩ := List.find?_eq_some_iff_getElem.mp h
  refine ⟨i, List.getElem?_eq_some_iff.mpr ⟨hi, hxi⟩, ?_⟩
  by_cases h0 : i = 0
  · exact .inl h0
  · have := hno (i - 1) (by omega)
    exact .inr ⟨_, List.getElem?_eq_getElem (by omega), by simpa using this⟩
/-- a pair of the edges that joined_over takes up -/
def Cand (rows : List Row) (E F : List Str) (i j k : Nat) : Prop := ∃ q : Row, rows[k]? = some q ∧ E[i]? = some q.1 ∧ F[j]? = some q.2 ∧ (i = 0 ∨ ∃ y, E[i - 1]? = some y ∧ belowK rows (k + 1) y = false) ∧ (j = 0 ∨ ∃ y, F[j - 1]? = some y ∧ belowK rows k y = false)
theorem cross_cand {rows : List Row} (hr : ∀ q ∈ rows, 1 ≤ q.1.length ∧ 1 ≤ q.2.length) (hd : ∀ (i j : Nat) (p q : Row), rows[i]? = some p → rows[j]? = some q → p.1 ++ p.2 = q.1 ++ q.2 → i = j) (hv : ∀ q ∈ rows, Pc rows q.1 ∧ Pc rows q.2) (ho : Ordered rows)
    {u v : Str} {n m : Nat} (hn : u.length ≤ n) (hm : v.length ≤ m) (pu : Pc rows u) (pv : Pc rows v) (au : Alone rows u) (av : Alone rows v) (k : Nat) : Cross rows u v k ↔ ∃ i j, Cand rows (edgeF rows true n u) (edgeF rows false m v) i j k := by
  have e1 := (edge_stage hr hd hv (k + 1) n u hn pu au).1
  have e2 := (edge_stage hr hd hv k m v hm pv av).2
  unfold Cross
  rw [e1, e2]
  refine ⟨fun ⟨q, hq, h1, h2⟩ => ?_, fun ⟨i, j, q, hq, h1, h2, h3, h4⟩ => ?_⟩
  · obtain ⟨i, i1, i2⟩ := find_edge h1
    obtain ⟨j, j1, j2⟩ := find_edge h2
    exact ⟨i, j, q, hq, i1, j1, i2, j2⟩
  · obtain ⟨o1, o2⟩ := ho k q hq
    exact ⟨q, hq, edge_find ho h1 (belowK_more (Nat.le_succ k) o1) h3, edge_find ho h2 o2 h4⟩
end Lw

namespace Lw
open PySem L2 DL TL
theorem pcs_nodup {s : Str} {rows : List Row} (h : tabErr s rows = none) : (pcs s rows).Nodup := by
  obtain ⟨a, _, c⟩ := tabErr_none h
  obtain ⟨_, _, nd, _⟩ := signErr_none a
  have key : ∀ (rows : List Row) (ps : List Str) (n : Nat), badRow ps n rows = none → ps.Nodup → (ps ++ rows.map fun r => r.1 ++ r.2).Nodup := by
    intro rows
    induction rows with
    | nil => intro ps n _ h; simpa using h
    | cons r t ih =>
      intro ps n h nd
      have h' : (if okRow ps r = true then badRow (ps ++ [r.1 ++ r.2]) (n + 1) t else some n) = none := h
      by_cases e : okRow ps r = true
      · rw [if_pos e] at h'
        have := ih (ps ++ [r.1 ++ r.2]) (n + 1) h' (by
          rw [List.nodup_append]
          exact ⟨nd, by simp, fun x hx y hy e2 => (okRow_len e).2 (by rw [List.mem_singleton.mp hy] at e2; rw [← e2]; exact hx)⟩)
        rw [List.map_cons]
        simpa using this
      · rw [if_neg e] at h'; cases h'
  exact key rows _ _ c nd
end Lw

namespace Lw
open PySem L2 DL TL
/-! ### a table's rows, for the theory of cuttings -/
theorem badRow_part : ∀ {rows : List Row} {ps : List Str} {n k : Nat} {q : Row}, badRow ps n rows = none → rows[k]? = some q → q.1 ∈ ps ++ (rows.take k).map (fun r => r.1 ++ r.2) ∧ q.2 ∈ ps ++ (rows.take k).map (fun r => r.1 ++ r.2) := by
  intro rows
  induction rows with
  | nil => intro ps n k q _ h; simp at h
  | cons r t ih =>
    intro ps n k q h hq
    have h' : (if okRow ps r = true then badRow (ps ++ [r.1 ++ r.2]) (n + 1) t else some n) = none := h
    by_cases e : okRow ps r = true
    · rw [if_pos e] at h'
      cases k with
      | zero =>
        have : r = q := by simpa using hq
        subst this
        unfold okRow at e
        rw [Bool.and_eq_true, Bool.and_eq_true] at e
        exact ⟨List.mem_append_left _ (of_decide_eq_true e.1), List.mem_append_left _ (of_decide_eq_true e.2.1)⟩
      | succ k =>
        have := ih h' (k := k) (q := q) (by simpa using hq)
        rw [List.take_succ_cons, List.map_cons]
        simpa using this
    · rw [if_neg e] at h'; cases h'
theorem tab_pos {s : Str} {rows : List Row} (h : tabErr s rows = none) : ∀ q ∈ rows, 1 ≤ q.1.length ∧ 1 ≤ q.2.length := fun q hq => ⟨pcs_pos h _ (tab_rows h q hq).1, pcs_pos h _ (tab_rows h q hq).2.1⟩
theorem tab_dist {s : Str} {rows : List Row} (h : tabErr s rows = none) (i j : Nat) (p q : Row) (hp : rows[i]? = some p) (hq : rows[j]? = some q) (e : p.1 ++ p.2 = q.1 ++ q.2) : i = j := by
  have nd := (List.nodup_append.mp (show (signs s ++ rows.map fun r => r.1 ++ r.2).Nodup from pcs_nodup h)).2.1
  have hi : (rows.map fun r => r.1 ++ r.2)[i]? = some (p.1 ++ p.2) := by rw [List.getElem?_map, hp]; rfl
  have hj : (rows.map fun r => r.1 ++ r.2)[j]? = some (p.1 ++ p.2) := by rw [List.getElem?_map, hq, e]; rfl
  obtain ⟨i1, i2⟩ := List.getElem?_eq_some_iff.mp hi
  obtain ⟨j1, j2⟩ := List.getElem?_eq_some_iff.mp hj
  exact (List.getElem_inj nd).mp (i2.trans j2.symm)
theorem pc_of {s : Str} {rows : List Row} {p : Str} (h : p ∈ pcs s rows) : Pc rows p := by
  rcases List.mem_append.mp h with h | h
  · unfold signs at h
    obtain ⟨c, _, rfl⟩ := List.mem_map.mp h
    exact .inl rfl
  · obtain ⟨q, hq, rfl⟩ := List.mem_map.mp h
    obtain ⟨k, hk⟩ := List.getElem?_of_mem hq
    exact .inr ⟨k, q, hk, rfl⟩
theorem tab_parts {s : Str} {rows : List Row} (h : tabErr s rows = none) : ∀ q ∈ rows, Pc rows q.1 ∧ Pc rows q.2 := fun q hq => ⟨pc_of (tab_rows h q hq).1, pc_of (tab_rows h q hq).2.1⟩
theorem tab_ordered {s : Str} {rows : List Row} (h : tabErr s rows = none) : Ordered rows := fun k q hq => by
  obtain ⟨m1, m2⟩ := badRow_part (tabErr_none h).2.2 hq
  have key : ∀ x, x ∈ signs s ++ (rows.take k).map (fun r => r.1 ++ r.2) → belowK rows k x = true := fun x hx => by
    rcases List.mem_append.mp hx with hx | hx
    · unfold signs at hx
      obtain ⟨c, _, rfl⟩ := List.mem_map.mp hx
      unfold belowK
      rw [ownK_sign (tab_pos h) rfl]
    · obtain ⟨r, hr, rfl⟩ := List.mem_map.mp hx
      obtain ⟨j, hj⟩ := List.getElem?_of_mem hr
      have hjl := (List.getElem?_eq_some_iff.mp hj).1
      rw [List.length_take] at hjl
      rw [List.getElem?_take_of_lt (by omega)] at hj
      unfold belowK
      rw [ownK_of (tab_dist h) hj]
      exact decide_eq_true (by omega)
  exact ⟨key _ m1, key _ m2⟩
end Lw

namespace Lw
open PySem L2 DL TL
section
variable {P : Program} {w : World} {K : PySem.W.Frag} {mg : Str → Option Value} {base : Heap}
/-! ### the script's cells -/
def phCell : Ph := fun ds rt _ => ∃ (ns : List Int) (k : Int), ds = [.scr ns, .int k] ∧ 0 ≤ k ∧ ∀ n : Int, rt false (.int n)
theorem p__law_cell_at (T : Txt K mg) : FnD P w K mg base 1 (He.fAd K ("_law_cell_at", none)) 2 phCell := mk_law_cell_at T fun cdv A outer s H E hr ds rt xs hφ hl => by
  obtain ⟨ns, k, rfl, hk, h⟩ := hφ
  refine wd_cons <| w_if <| et_cmp <| nl 1 rfl rfl rfl <| len_ T.zlen <| nl 0 rfl rfl rfl ⟨_, rfl, lt_ii ⟨fun e => ?_, fun e => ?_⟩⟩
  · have e' : k < (ns.length : Nat) := of_decide_eq_true e
    obtain ⟨n, hn⟩ := atI_ex hk e'
    exact wd_one <| w_ret <| ed_ix <| nl 0 rfl rfl rfl <| nl 1 rfl rfl rfl <| ix_scr hn <| h n
  · exact wd_nil <| wd_one <| w_ret <| ed_int <| h 0
end
end Lw

namespace Lw
open PySem L2 DL TL
/-! ### parts, ranks, edges -/
def rankK (rows : List Row) (x y : Str) : Option Nat := rows.findIdx? fun q => decide (q = (x, y))
theorem pairD_val (x y : Str) : ∀ (rows : List Row) (n : Nat), valD (pairD n rows) [.inr x, .inr y] = (rankK rows x y).map fun i => .int ((n + i : Nat) : Int)
  | [], _ => rfl
  | q :: t, n => by
    have ih := pairD_val x y t (n + 1)
    unfold valD at ih ⊢
    unfold rankK at ih ⊢
    show (List.find? _ (([Sum.inr q.1, Sum.inr q.2], D.int ((n : Nat) : Int)) :: pairD (n + 1) t)).map _ = _
    rw [List.findIdx?_cons]
    by_cases e : q = (x, y)
    · have ek : ([Sum.inr q.1, Sum.inr q.2] : List Key) = [.inr x, .inr y] := by rw [e]
      rw [List.find?_cons_of_pos (by simpa using ek)]
      simp [e]
    · have ek : ¬ ([Sum.inr q.1, Sum.inr q.2] : List Key) = [.inr x, .inr y] := fun z => e (by
        injection z with z1 z2
        injection z2 with z2 _
        injection z1 with z1
        injection z2 with z2
        exact Prod.ext z1 z2)
      rw [List.find?_cons_of_neg (by simpa using ek), ih]
      simp only [e, decide_false, Bool.false_eq_true, if_false]
      cases t.findIdx? (fun q => decide (q = (x, y))) with
      | none => rfl
      | some i =>
        show some (D.int ((n + 1 + i : Nat) : Int)) = some (D.int ((n + (i + 1) : Nat) : Int))
        rw [show n + 1 + i = n + (i + 1) from by omega]
theorem rankK_some {rows : List Row} {x y : Str} {k : Nat} (h : rankK rows x y = some k) : rows[k]? = some (x, y) := by
  unfold rankK at h
  obtain ⟨hk, h1, _⟩ := List.findIdx?_eq_some_iff_getElem.mp h
  rw [List.getElem?_eq_getElem hk, of_decide_eq_true h1]
theorem rankK_of {s : Str} {rows : List Row} (hT : tabErr s rows = none) {x y : Str} {k : Nat} (h : rows[k]? = some (x, y)) : rankK rows x y = some k := by
  cases e : rankK rows x y with
  | none =>
    unfold rankK at e
    have := List.findIdx?_eq_none_iff.mp e _ (List.mem_of_getElem? h)
    simp at this
  | some j => rw [tab_dist hT j k _ _ (rankK_some e) h rfl]
/-- a piece's number: a sign, or a row's -/
theorem own_idx {s : Str} {rows : List Row} (hT : tabErr s rows = none) {p : Str} (hp : p ∈ pcs s rows) : (ownK rows p = none ∧ p.length = 1 ∧ ∃ i, i < s.length ∧ idx p (pcs s rows) = some i) ∨ ∃ (k : Nat) (q : Row), ownK rows p = some k ∧ rows[k]? = some q ∧ q.1 ++ q.2 = p ∧ idx p (pcs s rows) = some (s.length + k) := by
  have nd := pcs_nodup hT
  rcases List.mem_append.mp hp with h | h
  · refine .inl ?_
    have h1 : p.length = 1 := by
      unfold signs at h
      obtain ⟨c, _, rfl⟩ := List.mem_map.mp h
      rfl
    obtain ⟨i, hi⟩ := List.getElem?_of_mem h
    have hl := (List.getElem?_eq_some_iff.mp hi).1
    rw [signs_length] at hl
    refine ⟨ownK_sign (tab_pos hT) h1, h1, i, hl, idx_at nd ?_⟩
    unfold pcs
    rw [List.getElem?_append_left (by rw [signs_length]; exact hl)]; exact hi
  · refine .inr ?_
    obtain ⟨q, hq, rfl⟩ := List.mem_map.mp h
    obtain ⟨k, hk⟩ := List.getElem?_of_mem hq
    refine ⟨k, q, ownK_of (tab_dist hT) hk, hk, rfl, idx_at nd ?_⟩
    unfold pcs
    rw [List.getElem?_append_right (by rw [signs_length]; show s.length ≤ _; omega), signs_length, show s.cps.size = s.length from rfl, Nat.add_sub_cancel_left, List.getElem?_map, hk]; rfl
def partsD (rows : List Row) (p : Str) : D := match partsK rows p with
  | none => .non
  | some q => rowD q
theorem side_pc {s : Str} {rows : List Row} (hT : tabErr s rows = none) {p : Str} {q : Row} (h : partsK rows p = some q) (b : Bool) : sideR b q ∈ pcs s rows ∧ (sideR b q).length < p.length := by
  unfold partsK at h
  cases ho : ownK rows p with
  | none => rw [ho] at h; cases h
  | some k =>
    obtain ⟨q', hq', e⟩ := ownK_some ho
    rw [ho] at h
    have : rows[k]? = some q := h
    rw [hq'] at this; cases this
    have m := tab_rows hT q (List.mem_of_getElem? hq')
    have ps := tab_pos hT q (List.mem_of_getElem? hq')
    rw [← e, app_len]
    unfold sideR
    cases b with
    | true => exact ⟨m.2.1, by simp; omega⟩
    | false => exact ⟨m.1, by simp; omega⟩
def edgeOf (rows : List Row) (b : Bool) (p : Str) : List Str := edgeF rows b p.length p
theorem edgeF_len {s : Str} {rows : List Row} (hT : tabErr s rows = none) (b : Bool) : ∀ (n : Nat) (p : Str), p ∈ pcs s rows → p.length ≤ n → (edgeF rows b n p).length ≤ p.length ∧ ∀ x ∈ edgeF rows b n p, x ∈ pcs s rows := by
  intro n
  induction n with
  | zero =>
    intro p hp hl
    have := pcs_pos hT p hp
    omega
  | succ n ih =>
    intro p hp hl
    have h1 := pcs_pos hT p hp
    unfold edgeF
    cases hq : partsK rows p with
    | none => exact ⟨h1, fun x hx => by rw [List.mem_singleton.mp hx]; exact hp⟩
    | some q =>
      obtain ⟨m, l⟩ := side_pc hT hq b
      obtain ⟨i1, i2⟩ := ih (sideR b q) m (by omega)
      refine ⟨by show (edgeF rows b n (sideR b q)).length + 1 ≤ p.length; omega, fun x hx => ?_⟩
      rcases List.mem_cons.mp hx with e | e
      · rw [e]; exact hp
      · exact i2 x e
section
variable {P : Program} {w : World} {K : PySem.W.Frag} {mg : Str → Option Value} {base : Heap}
def phTrank (K : PySem.W.Frag) : Ph := fun ds rt _ => ∃ (s : Str) (rows : List Row) (x y : Str), ds = [tabD K s rows, .str x, .str y] ∧ rt false (((rankK rows x y).map fun i => D.int (i : Nat)).getD .non)
theorem p_Table_rank (T : Txt K mg) : FnD P w K mg base 1 (He.fAd K ("Table", some "rank")) 3 (phTrank K) := mkTable_rank T fun cdv A outer s H E hr ds rt xs hφ hl => by
  obtain ⟨z, rows, x, y, rfl, h⟩ := hφ
  refine wd_cons <| w_if <| et_w <| ew_or <| et_not <| et_val <| isi_ "str" T.zisinstance T.zstr bt_str <| nl 1 rfl rfl rfl ⟨_, rfl, _, rfl, ⟨fun _ => ?_, fun e => absurd e (by decide +kernel)⟩⟩
  refine ew_or1 <| et_not <| et_val <| isi_ "str" T.zisinstance T.zstr bt_str <| nl 2 rfl rfl rfl ⟨_, rfl, _, rfl, ⟨fun e => absurd e (by decide +kernel), fun _ => ?_⟩⟩
  refine wd_nil <| wd_one <| w_ret <| ed_dget1 (fld T.kTable T.nTable_by_pair <| nl 0 rfl rfl rfl ⟨rfl, rfl, rfl, ed_tup <| ea_cons <| nl 1 rfl rfl rfl <| ea_cons <| nl 2 rfl rfl rfl <| ea_nil ⟨(by show 2 ≤ sizeLine; decide), _, .t [.inr x, .inr y], ?_⟩⟩) (hu_of hr)
  rw [pairD_val]
  have e : ((rankK rows x y).map fun i => D.int ((0 + i : Nat) : Int)) = (rankK rows x y).map fun i => D.int (i : Nat) := by
    cases rankK rows x y with
    | none => rfl
    | some i => simp
  rw [e]
  exact h
def phTpt (K : PySem.W.Frag) : Ph := fun ds rt _ => ∃ (s : Str) (rows : List Row) (p : Str), ds = [tabD K s rows, .str p] ∧ tabErr s rows = none ∧ p ∈ pcs s rows ∧ rt false (partsD rows p)
theorem p_Table_parts (T : Txt K mg) : FnD P w K mg base 3 (He.fAd K ("Table", some "parts")) 2 (phTpt K) := mkTable_parts T fun cdv A outer s H E hr ds rt xs hφ hl => by
  obtain ⟨z, rows, p, rfl, hT, hp, h⟩ := hφ
  have nd := scTable_parts.nd
  have hz : z.length ≤ sizeLine := Nat.le_trans (tab_small hT).1 (by decide)
  obtain ⟨i, hi, hil⟩ := idx_lt hp
  refine wd_cons <| asg 2 nd rfl rfl <| meth T.kTable T.mTable_which (p_Table_which T) (hr.mono (by decide)) <| nl 0 rfl rfl rfl ⟨rfl, rfl, ea_cons <| nl 1 rfl rfl rfl <| ea_nil ⟨rfl, z, rows, p, rfl, ?_⟩⟩
  rw [hi]
  refine wd_cons <| w_if <| et_cmp <| nl 2 rfl rfl rfl <| ed_non <| is_non ⟨fun e => (nomatch e), fun _ => ?_⟩
  refine wd_nil <| wd_cons <| w_if <| et_cmp <| nl 2 rfl rfl rfl <| len_ T.zlen <| fld T.kTable T.nTable_kept_signs <| nl 0 rfl rfl rfl ⟨rfl, rfl, _, len_str hz, lt_ii ?_⟩
  have o := own_idx hT hp
  rw [hi] at o
  rcases o with ⟨o1, _, j, hj, e⟩ | ⟨k, q, o1, hq, e1, e⟩
  · have e := Option.some.inj e
    subst e
    have hP : partsD rows p = .non := by unfold partsD partsK; rw [o1]; rfl
    rw [hP] at h
    refine ⟨fun _ => wd_one <| w_ret <| ed_non h, fun e => ?_⟩
    have := of_decide_eq_false e
    omega
  · have e := Option.some.inj e
    subst e
    have hP : partsD rows p = rowD q := by unfold partsD partsK; rw [o1]; show (match rows[k]? with | none => _ | some q => _) = _; rw [hq]
    rw [hP] at h
    refine ⟨fun e => ?_, fun _ => ?_⟩
    · have := of_decide_eq_true e
      omega
    · refine wd_nil <| wd_one <| w_ret <| ed_ix <| fld T.kTable T.nTable_kept_rows <| nl 0 rfl rfl rfl ⟨rfl, rfl, ed_bin <| nl 2 rfl rfl rfl <| len_ T.zlen <| fld T.kTable T.nTable_kept_signs <| nl 0 rfl rfl rfl ⟨rfl, rfl, _, len_str hz, sub_ii ?_⟩⟩
      rw [show ((z.length + k : Nat) : Int) - ((z.length : Nat) : Int) = ((k : Nat) : Int) by omega]
      exact ix_lst (atI_map rowD (at_nat hq)) h
def phLookPc (K : PySem.W.Frag) : Ph := fun ds rt xs => ∃ (s : Str) (rows : List Row) (d : D), ds = [tabD K s rows, d] ∧ isiD "str" d = some (isStr d) ∧ (isPc (pcs s rows) d = true → rt false .non) ∧ (isPc (pcs s rows) d = false → xs ⟨He.ga K "NoPiece", [("place", .non)]⟩)
theorem p_look_at_piece (T : Txt K mg) : FnD P w K mg base 3 (He.fAd K ("look_at_piece", none)) 2 (phLookPc K) := mklook_at_piece T fun cdv A outer s H E hr ds rt xs hφ hl => by
  obtain ⟨sg, rows, d, rfl, hi, h1, h2⟩ := hφ
  have nd := sclook_at_piece.nd
  refine wd_one <| w_if <| et_cmp <| meth T.kTable T.mTable_which (p_Table_whichA T) (hr.mono (by decide)) <| nl 0 rfl rfl rfl ⟨rfl, rfl, ea_cons <| nl 1 rfl rfl rfl <| ea_nil ⟨rfl, sg, rows, d, rfl, hi, ed_non <| is_non ?_⟩⟩
  rw [which_non]
  refine ⟨fun e => ?_, fun e => ?_⟩
  · have e' : isPc (pcs sg rows) d = false := by simpa using e
    exact wd_one <| w_raise (errNoPiece T) rfl hr rfl (ea_cons <| ed_non <| ea_nil ⟨rfl, rfl, h2 e'⟩) (by decide)
  · have e' : isPc (pcs sg rows) d = true := by simpa using e
    exact wd_nil (h1 e')
def phEdge (K : PySem.W.Frag) : Ph := fun ds rt _ => ∃ (s : Str) (rows : List Row) (p : Str) (b : Bool), ds = [tabD K s rows, .str p, .int (if b then 1 else 0)] ∧ tabErr s rows = none ∧ p ∈ pcs s rows ∧ rt true (.lst ((edgeOf rows b p).map D.str))
theorem p_edge (T : Txt K mg) : FnD P w K mg base 4 (He.fAd K ("edge", none)) 3 (phEdge K) := mkedge T fun cdv A outer s H E hr ds rt xs hφ hl => by
  obtain ⟨sg, rows, p, b, rfl, hT, hp, h⟩ := hφ
  have nd := scedge.nd
  have big : (2000 : Nat) ≤ sizeLine := by decide
  have h16 := pcs_len hT p hp
  refine wd_cons <| asg 3 nd rfl rfl <| ed_lst <| ea_cons <| nl 1 rfl rfl rfl <| ea_nil ⟨(by show 1 ≤ sizeLine; decide), ?_⟩
  refine wd_cons <| asg 4 nd rfl rfl <| meth T.kTable T.mTable_parts (p_Table_parts T) hr <| nl 0 rfl rfl rfl ⟨rfl, rfl, ea_cons <| nl 1 rfl rfl rfl <| ea_nil ⟨rfl, sg, rows, p, rfl, hT, hp, ?_⟩⟩
  refine wd_cons <| w_while ⟨fun m Γ => ∃ (fs : List Str) (n : Nat) (x : Str), Γ = [some (false, tabD K sg rows), some (false, .str p), some (false, .int (if b then 1 else 0)), some (true, .lst ((fs ++ [x]).map D.str)), some (false, partsD rows x)] ∧ m = x.length ∧ x ∈ pcs sg rows ∧ x.length ≤ n ∧ fs.length + x.length ≤ p.length ∧ fs ++ edgeF rows b n x = edgeOf rows b p,
    ⟨_, [], p.length, p, rfl, rfl, hp, Nat.le_refl _, by simp, rfl⟩, fun m Γ' ⟨fs, n, x, e, hm, hx, hn, hf, he⟩ => ?_⟩
  subst e
  have hx1 := pcs_pos hT x hx
  obtain ⟨n, rfl⟩ : ∃ n', n = n' + 1 := ⟨n - 1, by omega⟩
  refine et_cmp <| nl 4 rfl rfl rfl <| ed_non <| not_non ?_
  unfold edgeF at he
  cases hq : partsK rows x with
  | none =>
    have hP : partsD rows x = .non := by unfold partsD; rw [hq]
    rw [hq] at he
    rw [hP]
    refine ⟨fun e => (nomatch e), fun _ => ?_⟩
    have he : fs ++ [x] = edgeOf rows b p := he
    rw [he]
    exact wd_one <| w_retO (i := 3) rfl (.inl rfl) rfl rfl h
  | some q =>
    have hP : partsD rows x = rowD q := by unfold partsD; rw [hq]
    rw [hq] at he
    rw [hP]
    obtain ⟨m1, l1⟩ := side_pc hT hq b
    refine ⟨fun _ => ?_, fun e => (nomatch e)⟩
    have hat : L2.atI [D.str q.1, D.str q.2] (if b then (1 : Int) else 0) = some (.str (sideR b q)) := by cases b <;> rfl
    refine wd_cons <| app 3 rfl (.inl rfl) rfl <| ed_ix <| nl 4 rfl rfl rfl <| nl 2 rfl rfl rfl <| ix_tup hat ⟨by rw [List.length_map, List.length_append]; show fs.length + 1 < sizeLine; omega, ?_⟩
    refine wd_one <| asg 4 nd rfl rfl <| meth T.kTable T.mTable_parts (p_Table_parts T) hr <| nl 0 rfl rfl rfl ⟨rfl, rfl, ea_cons <| ed_ix <| nl 4 rfl rfl rfl <| nl 2 rfl rfl rfl <| ix_tup hat <| ea_nil ⟨rfl, sg, rows, _, rfl, hT, m1, (sideR b q).length, by omega, fs ++ [x], n, sideR b q, ?_, rfl, m1, by omega, by rw [List.length_append]; show fs.length + 1 + _ ≤ _; omega, ?_⟩⟩
    · rw [List.map_append (l₁ := fs ++ [x])]; rfl
    · rw [List.append_assoc]; exact he
/-- a piece's own rank, as a number -/
def ownI (s : Str) (rows : List Row) (p : Str) : Int := ((idx p (pcs s rows)).getD 0 : Nat) - (s.length : Int)
def phOwn (K : PySem.W.Frag) : Ph := fun ds rt _ => ∃ (s : Str) (rows : List Row) (p : Str), ds = [tabD K s rows, .str p] ∧ tabErr s rows = none ∧ p ∈ pcs s rows ∧ rt false (.int (ownI s rows p))
theorem p_own_rank (T : Txt K mg) : FnD P w K mg base 2 (He.fAd K ("own_rank", none)) 2 (phOwn K) := mkown_rank T fun cdv A outer s H E hr ds rt xs hφ hl => by
  obtain ⟨z, rows, p, rfl, hT, hp, h⟩ := hφ
  have hz : z.length ≤ sizeLine := Nat.le_trans (tab_small hT).1 (by decide)
  obtain ⟨i, hi, hil⟩ := idx_lt hp
  unfold ownI at h
  rw [hi] at h
  refine wd_one <| w_ret <| ed_bin <| meth T.kTable T.mTable_which (p_Table_which T) (hr.mono (by decide)) <| nl 0 rfl rfl rfl ⟨rfl, rfl, ea_cons <| nl 1 rfl rfl rfl <| ea_nil ⟨rfl, z, rows, p, rfl, ?_⟩⟩
  rw [hi]
  exact len_ T.zlen <| meth0 T.kTable T.mTable_signs (p_Table_signs T) (hr.mono (by decide)) <| nl 0 rfl rfl rfl ⟨rfl, rfl, z, rows, rfl, _, len_str hz, sub_ii h⟩
end
end Lw

namespace Lw
open PySem L2 DL TL
/-! ### joined_over, stands_alone -/
theorem below_own {s : Str} {rows : List Row} (hT : tabErr s rows = none) {y : Str} (hy : y ∈ pcs s rows) (k : Nat) : belowK rows k y = false ↔ (k : Int) ≤ ownI s rows y := by
  unfold belowK ownI
  rcases own_idx hT hy with ⟨o1, _, i, hi, e⟩ | ⟨j, q, o1, hq, e1, e⟩
  · rw [o1, e]
    refine ⟨fun h => (nomatch h), fun h => ?_⟩
    have h : (k : Int) ≤ ((i : Nat) : Int) - (s.length : Int) := h
    omega
  · rw [o1, e]
    show decide (j < k) = false ↔ (k : Int) ≤ ((s.length + j : Nat) : Int) - (s.length : Int)
    rw [decide_eq_false_iff_not]
    omega
/-- the best of the pairs taken up so far -/
def Best (rows : List Row) (E F : List Str) (S : Nat → Nat → Prop) : Option Nat → Prop
  | none => ∀ i j k, S i j → ¬ Cand rows E F i j k
  | some k => (∃ i j, S i j ∧ Cand rows E F i j k) ∧ ∀ i j k', S i j → Cand rows E F i j k' → k ≤ k'
def optI : Option Nat → D
  | none => .non
  | some k => .int (k : Nat)
/-- the own rank of the one ahead -/
def aheadD (s : Str) (rows : List Row) (E : List Str) : Nat → D
  | 0 => .non
  | i + 1 => match E[i]? with
    | none => .non
    | some y => .int (ownI s rows y)
theorem ahead_succ {s : Str} {rows : List Row} {E : List Str} {i : Nat} {z : Str} (h : E[i]? = some z) : aheadD s rows E (i + 1) = .int (ownI s rows z) := by
  show (match E[i]? with | none => D.non | some y => D.int (ownI s rows y)) = _
  rw [h]
def upO : Option Nat → Nat → Nat
  | none, k => k
  | some m, k => min m k
theorem Best.skip {rows : List Row} {E F : List Str} {S S' : Nat → Nat → Prop} {o : Option Nat} (h : Best rows E F S o) (h1 : ∀ i j, S i j → S' i j) (h2 : ∀ i j, S' i j → S i j ∨ ∀ k, ¬ Cand rows E F i j k) : Best rows E F S' o := by
  cases o with
  | none =>
    intro i j k hs hc
    rcases h2 i j hs with q | q
    · exact h i j k q hc
    · exact q k hc
  | some k =>
    obtain ⟨⟨i, j, a, b⟩, c⟩ := h
    refine ⟨⟨i, j, h1 i j a, b⟩, fun i j k' hs hc => ?_⟩
    rcases h2 i j hs with q | q
    · exact c i j k' q hc
    · exact (q k' hc).elim
/-- one more is taken up, with the rank k -/
theorem Best.more {rows : List Row} {E F : List Str} {S S' : Nat → Nat → Prop} {o : Option Nat} {a b k : Nat} (h : Best rows E F S o) (h0 : S' a b) (h1 : ∀ i j, S i j → S' i j) (h2 : ∀ i j, S' i j → S i j ∨ (i = a ∧ j = b)) (hk : ∀ k', Cand rows E F a b k' ↔ k' = k) : Best rows E F S' (some (upO o k)) := by
  cases o with
  | none =>
    refine ⟨⟨a, b, h0, (hk k).mpr rfl⟩, fun i j k' hs hc => ?_⟩
    rcases h2 i j hs with q | ⟨rfl, rfl⟩
    · exact (h i j k' q hc).elim
    · rw [(hk k').mp hc]; exact Nat.le_refl _
  | some m =>
    obtain ⟨⟨i, j, a1, b1⟩, c⟩ := h
    show (∃ i j, S' i j ∧ Cand rows E F i j (min m k)) ∧ ∀ i j k', S' i j → Cand rows E F i j k' → min m k ≤ k'
    refine ⟨?_, fun i j k' hs hc => ?_⟩
    · by_cases hm : m ≤ k
      · rw [Nat.min_eq_left hm]; exact ⟨i, j, h1 i j a1, b1⟩
      · rw [Nat.min_eq_right (by omega)]; exact ⟨a, b, h0, (hk k).mpr rfl⟩
    · rcases h2 i j hs with q | ⟨rfl, rfl⟩
      · have := c i j k' q hc
        omega
      · rw [(hk k').mp hc]; omega
theorem cand_iff {s : Str} {rows : List Row} (hT : tabErr s rows = none) {E F : List Str} (hE : ∀ x ∈ E, x ∈ pcs s rows) (hF : ∀ x ∈ F, x ∈ pcs s rows) {i j : Nat} {x y : Str} (hx : E[i]? = some x) (hy : F[j]? = some y) (k : Nat) :
    Cand rows E F i j k ↔ rankK rows x y = some k ∧ (aheadD s rows E i = .non ∨ ∃ o, aheadD s rows E i = .int o ∧ (k : Int) < o) ∧ (aheadD s rows F j = .non ∨ ∃ o, aheadD s rows F j = .int o ∧ (k : Int) ≤ o) := by
  have key1 : (i = 0 ∨ ∃ z, E[i - 1]? = some z ∧ belowK rows (k + 1) z = false) ↔ (aheadD s rows E i = .non ∨ ∃ o, aheadD s rows E i = .int o ∧ (k : Int) < o) := by
    cases i with
    | zero => exact ⟨fun _ => .inl rfl, fun _ => .inl rfl⟩
    | succ i =>
      obtain ⟨z, hz⟩ : ∃ z, E[i]? = some z := ⟨E[i]'(by have := (List.getElem?_eq_some_iff.mp hx).1; omega), List.getElem?_eq_getElem _⟩
      have hb := below_own hT (hE z (List.mem_of_getElem? hz)) (k + 1)
      have ha : aheadD s rows E (i + 1) = .int (ownI s rows z) := ahead_succ hz
      rw [ha, Nat.add_sub_cancel, hz]
      refine ⟨fun h => ?_, fun h => ?_⟩
      · rcases h with h | ⟨z', e, h⟩
        · omega
        · cases e
          have := hb.mp h
          exact .inr ⟨_, rfl, by omega⟩
      · rcases h with h | ⟨o, e, h⟩
        · cases h
        · injection e with e
          exact .inr ⟨z, rfl, hb.mpr (by omega)⟩
  have key2 : (j = 0 ∨ ∃ z, F[j - 1]? = some z ∧ belowK rows k z = false) ↔ (aheadD s rows F j = .non ∨ ∃ o, aheadD s rows F j = .int o ∧ (k : Int) ≤ o) := by
    cases j with
    | zero => exact ⟨fun _ => .inl rfl, fun _ => .inl rfl⟩
    | succ i =>
      obtain ⟨z, hz⟩ : ∃ z, F[i]? = some z := ⟨F[i]'(by have := (List.getElem?_eq_some_iff.mp hy).1; omega), List.getElem?_eq_getElem _⟩
      have hb := below_own hT (hF z (List.mem_of_getElem? hz)) k
      have ha : aheadD s rows F (i + 1) = .int (ownI s rows z) := ahead_succ hz
      rw [ha, Nat.add_sub_cancel, hz]
      refine ⟨fun h => ?_, fun h => ?_⟩
      · rcases h with h | ⟨z', e, h⟩
        · omega
        · cases e
          exact .inr ⟨_, rfl, hb.mp h⟩
      · rcases h with h | ⟨o, e, h⟩
        · cases h
        · injection e with e
          exact .inr ⟨z, rfl, hb.mpr (by omega)⟩
  unfold Cand
  rw [hx, hy]
  refine ⟨fun ⟨q, hq, h1, h2, h3, h4⟩ => ⟨?_, key1.mp h3, key2.mp h4⟩, fun ⟨h0, h3, h4⟩ => ⟨(x, y), rankK_some h0, rfl, rfl, key1.mpr h3, key2.mpr h4⟩⟩
  have e : q = (x, y) := Prod.ext (Option.some.inj h1).symm (Option.some.inj h2).symm
  rw [e] at hq
  exact rankK_of hT hq
theorem ahead_kind (s : Str) (rows : List Row) (E : List Str) (i : Nat) : aheadD s rows E i = .non ∨ ∃ o, aheadD s rows E i = .int o := by
  cases i with
  | zero => exact .inl rfl
  | succ i =>
    cases h : E[i]? with
    | none => exact .inl (by show (match E[i]? with | none => D.non | some y => D.int (ownI s rows y)) = _; rw [h])
    | some y => exact .inr ⟨_, ahead_succ h⟩
theorem best_end {s : Str} {rows : List Row} (hT : tabErr s rows = none) {u v : Str} (pu : u ∈ pcs s rows) (pv : v ∈ pcs s rows) (au : Alone rows u) (av : Alone rows v) {o : Option Nat} (h : Best rows (edgeOf rows true u) (edgeOf rows false v) (fun i _ => i < (edgeOf rows true u).length) o) :
    (o = none → Fits rows u v) ∧ ∀ k, o = some k → First rows u v k := by
  have cc := cross_cand (tab_pos hT) (tab_dist hT) (tab_parts hT) (tab_ordered hT) (Nat.le_refl u.length) (Nat.le_refl v.length) (pc_of pu) (pc_of pv) au av
  have inS : ∀ i j k, Cand rows (edgeOf rows true u) (edgeOf rows false v) i j k → i < (edgeOf rows true u).length := fun i j k ⟨q, _, h1, _⟩ => (List.getElem?_eq_some_iff.mp h1).1
  refine ⟨fun e => ?_, fun k e => ?_⟩
  · subst e
    intro k hc
    obtain ⟨i, j, hc⟩ := (cc k).mp hc
    exact h i j k (inS i j k hc) hc
  · subst e
    obtain ⟨⟨i, j, _, h1⟩, h2⟩ := h
    refine ⟨(cc k).mpr ⟨i, j, h1⟩, fun k' hk hc => ?_⟩
    obtain ⟨i', j', hc⟩ := (cc k').mp hc
    have := h2 i' j' k' (inS _ _ _ hc) hc
    omega
section
variable {X : Cx} {ex : Exn → Prop} {Γ : En} {p1 p2 p3 p4 p5 : Pos}
/-- a is None or k < a -/
theorem et_nl {a a2 r : Expr} {j : Nat} {bD : D} {k : Int} {R : Bool → Prop} (hb : bD = .non ∨ ∃ o, bD = .int o) (h1 : ED X ex a Γ fun _ d => d = bD) (h2 : ED X ex a2 Γ fun _ d => d = bD) (h3 : ED X ex r Γ fun _ d => d = .int k)
    (h : ∀ b : Bool, (b = true ↔ (bD = .non ∨ ∃ o, bD = .int o ∧ k < o)) → R b) (hm : behindInMarks .Lt a2 = false := by first | exact nomark _ | rfl) : ET X ex (.BoolOp .Or [.Compare a [.Is] [.Constant .none j p1] p2, .Compare r [.Lt] [a2] p3] p4) Γ R := by
  refine et_w <| ew_or <| et_cmp <| h1.imp fun _ d e => ?_
  subst e
  refine ed_non <| is_non ?_
  rcases hb with rfl | ⟨o, rfl⟩
  · exact ⟨fun e => (nomatch e), fun _ => h true (by simp)⟩
  · refine ⟨fun _ => ew_or1 <| et_cmp (h3.imp fun _ d e => ?_) hm, fun e => (nomatch e)⟩
    subst e
    refine h2.imp fun _ d e => ?_
    subst e
    refine lt_ii (h _ ?_)
    rw [decide_eq_true_iff]
    exact ⟨fun e => .inr ⟨o, rfl, e⟩, fun e => by
      rcases e with e | ⟨o', e, e2⟩
      · cases e
      · injection e with e; omega⟩
theorem et_nle {a a2 r : Expr} {j : Nat} {bD : D} {k : Int} {R : Bool → Prop} (hb : bD = .non ∨ ∃ o, bD = .int o) (h1 : ED X ex a Γ fun _ d => d = bD) (h2 : ED X ex a2 Γ fun _ d => d = bD) (h3 : ED X ex r Γ fun _ d => d = .int k)
    (h : ∀ b : Bool, (b = true ↔ (bD = .non ∨ ∃ o, bD = .int o ∧ k ≤ o)) → R b) (hm : behindInMarks .LtE a2 = false := by first | exact nomark _ | rfl) : ET X ex (.BoolOp .Or [.Compare a [.Is] [.Constant .none j p1] p2, .Compare r [.LtE] [a2] p3] p4) Γ R := by
  refine et_w <| ew_or <| et_cmp <| h1.imp fun _ d e => ?_
  subst e
  refine ed_non <| is_non ?_
  rcases hb with rfl | ⟨o, rfl⟩
  · exact ⟨fun e => (nomatch e), fun _ => h true (by simp)⟩
  · refine ⟨fun _ => ew_or1 <| et_cmp (h3.imp fun _ d e => ?_) hm, fun e => (nomatch e)⟩
    subst e
    refine h2.imp fun _ d e => ?_
    subst e
    refine le_ii (h _ ?_)
    rw [decide_eq_true_iff]
    exact ⟨fun e => .inr ⟨o, rfl, e⟩, fun e => by
      rcases e with e | ⟨o', e, e2⟩
      · cases e
      · injection e with e; omega⟩
end
section
variable {P : Program} {w : World} {K : PySem.W.Frag} {mg : Str → Option Value} {base : Heap}
def phJo (K : PySem.W.Frag) : Ph := fun ds rt _ => ∃ (s : Str) (rows : List Row) (u v : Str), ds = [tabD K s rows, .str u, .str v] ∧ tabErr s rows = none ∧ u ∈ pcs s rows ∧ v ∈ pcs s rows ∧ Alone rows u ∧ Alone rows v ∧ (Fits rows u v → rt false .non) ∧ ∀ k, First rows u v k → rt false (.int (k : Nat))
theorem p_joined_over (T : Txt K mg) : FnD P w K mg base 5 (He.fAd K ("joined_over", none)) 3 (phJo K) := mkjoined_over T fun cdv A outer s H E hr ds rt xs hφ hl => by
  obtain ⟨sg, rows, u, v, rfl, hT, pu, pv, au, av, hn, hk⟩ := hφ
  have nd := scjoined_over.nd
  have hE : ∀ x ∈ edgeOf rows true u, x ∈ pcs sg rows := (edgeF_len hT true u.length u pu (Nat.le_refl _)).2
  have hF : ∀ x ∈ edgeOf rows false v, x ∈ pcs sg rows := (edgeF_len hT false v.length v pv (Nat.le_refl _)).2
  refine wd_cons <| asg 3 nd rfl rfl <| ed_non ?_
  refine wd_cons <| asg 4 nd rfl rfl <| ed_non ?_
  refine wd_cons <| w_for rfl <| ei_list <| call_ (p_edge T) hr T.gedge <| ea_cons <| nl 0 rfl rfl rfl <| ea_cons <| nl 1 rfl rfl rfl <| ea_cons <| ed_int <| ea_nil ⟨rfl, sg, rows, u, true, rfl, hT, pu, .inl ⟨_, rfl, fun i Γ => ∃ (o : Option Nat) (o5 o6 o7 o8 : Option (Bool × D)), Γ = [some (false, tabD K sg rows), some (false, .str u), some (false, .str v), some (false, optI o), some (false, aheadD sg rows (edgeOf rows true u) i), o5, o6, o7, o8] ∧ Best rows (edgeOf rows true u) (edgeOf rows false v) (fun i' _ => i' < i) o,
    ⟨none, none, none, none, none, rfl, fun i j k h => by omega⟩, fun i d Γ' hd ⟨o, o5, o6, o7, o8, eΓ, hB⟩ => ?_, fun Γ' ⟨o, o5, o6, o7, o8, eΓ, hB⟩ => ?_⟩⟩
  · subst eΓ
    obtain ⟨x, hx, rfl⟩ := map_get hd
    have hxp := hE x (List.mem_of_getElem? hx)
    refine td_name (i := 5) nd rfl (.inl rfl) ?_
    refine wd_cons <| asg 6 nd rfl rfl <| ed_non ?_
    refine wd_cons <| w_for rfl <| ei_list <| call_ (p_edge T) hr T.gedge <| ea_cons <| nl 0 rfl rfl rfl <| ea_cons <| nl 2 rfl rfl rfl <| ea_cons <| ed_int <| ea_nil ⟨rfl, sg, rows, v, false, rfl, hT, pv, .inl ⟨_, rfl, fun j Γ => ∃ (o : Option Nat) (o7 o8 : Option (Bool × D)), Γ = [some (false, tabD K sg rows), some (false, .str u), some (false, .str v), some (false, optI o), some (false, aheadD sg rows (edgeOf rows true u) i), some (false, .str x), some (false, aheadD sg rows (edgeOf rows false v) j), o7, o8] ∧ Best rows (edgeOf rows true u) (edgeOf rows false v) (fun i' j' => i' < i ∨ (i' = i ∧ j' < j)) o,
      ⟨o, o7, o8, rfl, hB.skip (fun i' j' h => .inl h) (fun i' j' h => .inl (by omega))⟩, fun j d Γ' hd ⟨o, o7, o8, eΓ, hB⟩ => ?_, fun Γ' ⟨o, o7, o8, eΓ, hB⟩ => ?_⟩⟩
    · subst eΓ
      obtain ⟨y, hy, rfl⟩ := map_get hd
      have hyp := hF y (List.mem_of_getElem? hy)
      have ci := fun k => cand_iff hT hE hF hx hy k
      refine td_name (i := 7) nd rfl (.inl rfl) ?_
      refine wd_cons <| asg 8 nd rfl rfl <| meth T.kTable T.mTable_rank (p_Table_rank T) (hr.mono (by decide)) <| nl 0 rfl rfl rfl ⟨rfl, rfl, ea_cons <| nl 5 rfl rfl rfl <| ea_cons <| nl 7 rfl rfl rfl <| ea_nil ⟨rfl, sg, rows, x, y, rfl, ?_⟩⟩
      have hrk : (((rankK rows x y).map fun i => D.int (i : Nat)).getD .non) = optI (rankK rows x y) := by cases rankK rows x y <;> rfl
      rw [hrk]
      have no : (∀ k, ¬ Cand rows (edgeOf rows true u) (edgeOf rows false v) i j k) → Best rows (edgeOf rows true u) (edgeOf rows false v) (fun i' j' => i' < i ∨ (i' = i ∧ j' < j + 1)) o := fun hno => hB.skip (fun i' j' h => by omega) fun i' j' h => by
        by_cases q : i' = i ∧ j' = j
        · exact .inr (by rw [q.1, q.2]; exact hno)
        · exact .inl (by omega)
      have yes : ∀ k, (∀ k', Cand rows (edgeOf rows true u) (edgeOf rows false v) i j k' ↔ k' = k) → Best rows (edgeOf rows true u) (edgeOf rows false v) (fun i' j' => i' < i ∨ (i' = i ∧ j' < j + 1)) (some (upO o k)) := fun k hk => hB.more (.inr ⟨rfl, Nat.lt_succ_self j⟩) (fun i' j' h => by omega) (fun i' j' h => by omega) hk
      have bd := ahead_kind sg rows (edgeOf rows true u) i
      have hd := ahead_kind sg rows (edgeOf rows false v) j
      generalize aheadD sg rows (edgeOf rows true u) i = bD at *
      generalize aheadD sg rows (edgeOf rows false v) j = hD at *
      refine wd_seq (fun Γ' => ∃ o' : Option Nat, Γ' = [some (false, tabD K sg rows), some (false, .str u), some (false, .str v), some (false, optI o'), some (false, bD), some (false, .str x), some (false, hD), some (false, .str y), some (false, optI (rankK rows x y))] ∧ Best rows (edgeOf rows true u) (edgeOf rows false v) (fun i' j' => i' < i ∨ (i' = i ∧ j' < j + 1)) o') ?_ (fun Γ' ⟨o', eΓ, hB'⟩ => ?_)
      · cases hr0 : rankK rows x y with
        | none =>
          rw [hr0] at ci
          refine w_if <| et_w <| ew_and <| et_cmp <| nl 8 rfl rfl rfl <| ed_non <| not_non ⟨fun e => (nomatch e), fun _ => ⟨fun e => (nomatch e), fun _ => wd_nil ⟨o, rfl, no fun k hc => ?_⟩⟩⟩
          have := ((ci k).mp hc).1
          cases this
        | some k =>
          rw [hr0] at ci
          -- the pair is taken up, or not
          have take : (bD = .non ∨ ∃ o, bD = .int o ∧ (k : Int) < o) → (hD = .non ∨ ∃ o, hD = .int o ∧ (k : Int) ≤ o) → ∀ k', Cand rows (edgeOf rows true u) (edgeOf rows false v) i j k' ↔ k' = k := fun h1 h2 k' => (ci k').trans ⟨fun h => (Option.some.inj h.1).symm, fun e => by rw [e]; exact ⟨rfl, h1, h2⟩⟩
          have drop : ¬ ((bD = .non ∨ ∃ o, bD = .int o ∧ (k : Int) < o) ∧ (hD = .non ∨ ∃ o, hD = .int o ∧ (k : Int) ≤ o)) → ∀ k', ¬ Cand rows (edgeOf rows true u) (edgeOf rows false v) i j k' := fun h k' hc => by
            obtain ⟨h0, h1, h2⟩ := (ci k').mp hc
            rw [← Option.some.inj h0] at h1 h2
            exact h ⟨h1, h2⟩
          have els : ¬ ((bD = .non ∨ ∃ o, bD = .int o ∧ (k : Int) < o) ∧ (hD = .non ∨ ∃ o, hD = .int o ∧ (k : Int) ≤ o)) → ∃ o' : Option Nat, optI o = optI o' ∧ Best rows (edgeOf rows true u) (edgeOf rows false v) (fun i' j' => i' < i ∨ (i' = i ∧ j' < j + 1)) o' := fun h => ⟨o, rfl, no (drop h)⟩
          refine w_if <| et_w <| ew_and <| et_cmp <| nl 8 rfl rfl rfl <| ed_non <| not_non ⟨fun _ => ew_and <| et_nl bd (nl 4 rfl rfl rfl rfl) (nl 4 rfl rfl rfl rfl) (nl 8 rfl rfl rfl rfl) fun b1 h1 => ⟨fun e1 => ew_and1 <| et_nle hd (nl 6 rfl rfl rfl rfl) (nl 6 rfl rfl rfl rfl) (nl 8 rfl rfl rfl rfl) fun b2 h2 => ⟨fun e2 => ?_, fun e2 => ?_⟩, fun e1 => ⟨fun e => (nomatch e), fun _ => ?_⟩⟩, fun e => (nomatch e)⟩
          · have hB' := yes k (take (h1.mp e1) (h2.mp e2))
            have ok : optI o = .non ∨ ∃ m : Int, optI o = .int m := by cases o <;> first | exact .inl rfl | exact .inr ⟨_, rfl⟩
            refine wd_one <| w_if <| et_nl ok (nl 3 rfl rfl rfl rfl) (nl 3 rfl rfl rfl rfl) (nl 8 rfl rfl rfl rfl) fun b3 h3 => ⟨fun e3 => ?_, fun e3 => ?_⟩
            · have e4 : upO o k = k := by
                rcases h3.mp e3 with q | ⟨m, q, q2⟩
                · cases o with
                  | none => rfl
                  | some m => cases q
                · cases o with
                  | none => cases q
                  | some m' =>
                    injection q with q
                    show min m' k = k
                    omega
              rw [e4] at hB'
              exact wd_one <| asg 3 nd rfl rfl <| nl 8 rfl rfl rfl ⟨some k, rfl, hB'⟩
            · have e4 : some (upO o k) = o := by
                cases o with
                | none => rw [h3.mpr (.inl rfl)] at e3; cases e3
                | some m' =>
                  show some (min m' k) = some m'
                  congr 1
                  by_cases q : (k : Int) < (m' : Int)
                  · rw [h3.mpr (.inr ⟨_, rfl, q⟩)] at e3; cases e3
                  · omega
              rw [e4] at hB'
              exact wd_nil ⟨o, rfl, hB'⟩
          · obtain ⟨o', e, hB'⟩ := els fun h => by rw [h2.mpr h.2] at e2; cases e2
            rw [e]
            exact wd_nil ⟨o', rfl, hB'⟩
          · obtain ⟨o', e, hB'⟩ := els fun h => by rw [h1.mpr h.1] at e1; cases e1
            rw [e]
            exact wd_nil ⟨o', rfl, hB'⟩
      · subst eΓ
        refine wd_one <| asg 6 nd rfl rfl <| call_ (p_own_rank T) (hr.mono (by decide)) T.gown_rank <| ea_cons <| nl 0 rfl rfl rfl <| ea_cons <| nl 7 rfl rfl rfl <| ea_nil ⟨rfl, sg, rows, y, rfl, hT, hyp, ?_⟩
        exact ⟨o', some (false, .str y), some (false, optI (rankK rows x y)), by rw [ahead_succ hy]; rfl, hB'⟩
    · subst eΓ
      refine wd_one <| asg 4 nd rfl rfl <| call_ (p_own_rank T) (hr.mono (by decide)) T.gown_rank <| ea_cons <| nl 0 rfl rfl rfl <| ea_cons <| nl 5 rfl rfl rfl <| ea_nil ⟨rfl, sg, rows, x, rfl, hT, hxp, ?_⟩
      refine ⟨o, _, _, _, _, by rw [ahead_succ hx]; rfl, hB.skip (fun i' j' h => by omega) fun i' j' h => ?_⟩
      by_cases q : i' = i
      · subst q
        by_cases q2 : j' < (edgeOf rows false v).length
        · exact .inl (.inr ⟨rfl, by rw [List.length_map]; exact q2⟩)
        · exact .inr fun k ⟨_, _, _, h2, _⟩ => q2 (List.getElem?_eq_some_iff.mp h2).1
      · exact .inl (.inl (by omega))
  · subst eΓ
    rw [List.length_map] at hB
    obtain ⟨f1, f2⟩ := best_end hT pu pv au av hB
    cases o with
    | none => exact wd_one <| w_ret <| nl 3 rfl rfl rfl (hn (f1 rfl))
    | some k => exact wd_one <| w_ret <| nl 3 rfl rfl rfl (hk k (f2 k rfl))
def phSa (K : PySem.W.Frag) (n : Nat) : Ph := fun ds rt _ => ∃ (s : Str) (rows : List Row) (p : Str), ds = [tabD K s rows, .str p] ∧ tabErr s rows = none ∧ p ∈ pcs s rows ∧ p.length ≤ n ∧ ∀ b, (b = true ↔ Alone rows p) → rt false (.bl b)
theorem alone_sign {rows : List Row} {p : Str} (h : p.length = 1) : Alone rows p := by
  have := stage_sign h (rows := rows) rows.length
  rw [stage_end] at this; exact this
theorem p_stands_n (T : Txt K mg) : ∀ n : Nat, FnD P w K mg base (6 + n) (He.fAd K ("stands_alone", none)) 2 (phSa K n) := by
  intro n
  induction n with
  | zero =>
    refine mkstands_alone T fun cdv A outer s H E hr ds rt xs hφ hl => ?_
    obtain ⟨sg, rows, p, rfl, hT, hp, hn, h⟩ := hφ
    have := pcs_pos hT p hp
    omega
  | succ n ih =>
    refine mkstands_alone T fun cdv A outer s H E hr ds rt xs hφ hl => ?_
    obtain ⟨sg, rows, p, rfl, hT, hp, hn, h⟩ := hφ
    have nd := scstands_alone.nd
    refine wd_cons <| w_expr <| call_ (p_look_at_piece T) (hr.mono (by show _ ≤ 6 + n; omega)) T.glook_at_piece <| ea_cons <| nl 0 rfl rfl rfl <| ea_cons <| nl 1 rfl rfl rfl <| ea_nil ⟨rfl, sg, rows, _, rfl, rfl, fun _ => ?_, fun e => by rw [show isPc (pcs sg rows) (.str p) = true from decide_eq_true hp] at e; cases e⟩
    refine wd_cons <| asg 2 nd rfl rfl <| meth T.kTable T.mTable_parts (p_Table_parts T) (hr.mono (by show _ ≤ 6 + n; omega)) <| nl 0 rfl rfl rfl ⟨rfl, rfl, ea_cons <| nl 1 rfl rfl rfl <| ea_nil ⟨rfl, sg, rows, p, rfl, hT, hp, ?_⟩⟩
    cases hq : partsK rows p with
    | none =>
      have hP : partsD rows p = .non := by unfold partsD; rw [hq]
      rw [hP]
      refine wd_cons <| w_if <| et_cmp <| nl 2 rfl rfl rfl <| ed_non <| is_non ⟨fun _ => wd_one <| w_ret <| ed_bl <| h true ⟨fun _ => ?_, fun _ => rfl⟩, fun e => (nomatch e)⟩
      rcases own_idx hT hp with ⟨o1, h1, _⟩ | ⟨k, q, o1, hq2, _⟩
      · exact alone_sign h1
      · unfold partsK at hq
        rw [o1] at hq
        have : rows[k]? = none := hq
        rw [hq2] at this; cases this
    | some q =>
      have hP : partsD rows p = rowD q := by unfold partsD; rw [hq]
      rw [hP]
      obtain ⟨m1, l1⟩ := side_pc hT hq false
      obtain ⟨m2, l2⟩ := side_pc hT hq true
      have m1 : q.1 ∈ pcs sg rows := m1
      have m2 : q.2 ∈ pcs sg rows := m2
      have l1 : q.1.length < p.length := l1
      have l2 : q.2.length < p.length := l2
      obtain ⟨k, hk, rfl⟩ : ∃ k, rows[k]? = some q ∧ q.1 ++ q.2 = p := by
        unfold partsK at hq
        cases ho : ownK rows p with
        | none => rw [ho] at hq; cases hq
        | some k =>
          obtain ⟨q', hq', e⟩ := ownK_some ho
          rw [ho] at hq
          have : rows[k]? = some q := hq
          rw [hq'] at this; cases this
          exact ⟨k, hq', e⟩
      have hparts := alone_parts (tab_pos hT) (tab_dist hT) hk
      refine wd_cons <| w_if <| et_cmp <| nl 2 rfl rfl rfl <| ed_non <| is_non ⟨fun e => (nomatch e), fun _ => ?_⟩
      refine wd_nil <| wd_cons <| w_if <| et_w <| ew_or <| et_not <| et_val <| call_ ih (hr.mono (by show _ ≤ 6 + n; omega)) T.gstands_alone <| ea_cons <| nl 0 rfl rfl rfl <| ea_cons <| ed_ix <| nl 2 rfl rfl rfl <| ed_int <| ix_tup rfl <| ea_nil ⟨rfl, sg, rows, q.1, rfl, hT, m1, by omega, fun b1 hb1 => ⟨b1, rfl, ⟨fun e1 => ?_, fun e1 => ⟨fun _ => ?_, fun e => (nomatch e)⟩⟩⟩⟩
      · have e1 : b1 = true := by simpa using e1
        have a1 := hb1.mp e1
        refine ew_or1 <| et_not <| et_val <| call_ ih (hr.mono (by show _ ≤ 6 + n; omega)) T.gstands_alone <| ea_cons <| nl 0 rfl rfl rfl <| ea_cons <| ed_ix <| nl 2 rfl rfl rfl <| ed_int <| ix_tup rfl <| ea_nil ⟨rfl, sg, rows, q.2, rfl, hT, m2, by omega, fun b2 hb2 => ⟨b2, rfl, ⟨fun e2 => ?_, fun e2 => ?_⟩⟩⟩
        · have e2 : b2 = false := by simpa using e2
          exact wd_one <| w_ret <| ed_bl <| h false ⟨fun e => (nomatch e), fun a => by rw [hb2.mpr (hparts a).2.1] at e2; cases e2⟩
        · have e2 : b2 = true := by simpa using e2
          have a2 := hb2.mp e2
          have own : ownI sg rows (q.1 ++ q.2) = (k : Int) := by
            rcases own_idx hT hp with ⟨o1, _⟩ | ⟨j, q', o1, hq', e', e⟩
            · rw [ownK_of (tab_dist hT) hk] at o1; cases o1
            · rw [ownK_of (tab_dist hT) hk] at o1
              injection o1 with o1
              unfold ownI
              rw [e]
              show ((sg.length + j : Nat) : Int) - (sg.length : Int) = _
              omega
          have iff := alone_iff (tab_pos hT) (tab_dist hT) hk
          refine wd_nil <| wd_one <| w_ret <| ed_cmp <| call_ (p_joined_over T) (hr.mono (by show _ ≤ 6 + n; omega)) T.gjoined_over <| ea_cons <| nl 0 rfl rfl rfl <| ea_cons <| ed_ix <| nl 2 rfl rfl rfl <| ed_int <| ix_tup rfl <| ea_cons <| ed_ix <| nl 2 rfl rfl rfl <| ed_int <| ix_tup rfl <| ea_nil ⟨rfl, sg, rows, q.1, q.2, rfl, hT, m1, m2, a1, a2, fun hf => ?_, fun j hj => ?_⟩
          · refine call_ (p_own_rank T) (hr.mono (by show _ ≤ 6 + n; omega)) T.gown_rank <| ea_cons <| nl 0 rfl rfl rfl <| ea_cons <| nl 1 rfl rfl rfl <| ea_nil ⟨rfl, sg, rows, _, rfl, hT, hp, eq_dd hr.units rfl rfl ?_⟩
            exact h _ ⟨fun e => (nomatch e), fun a => (hf k (iff.mp a).1).elim⟩
          · refine call_ (p_own_rank T) (hr.mono (by show _ ≤ 6 + n; omega)) T.gown_rank <| ea_cons <| nl 0 rfl rfl rfl <| ea_cons <| nl 1 rfl rfl rfl <| ea_nil ⟨rfl, sg, rows, _, rfl, hT, hp, eq_ii ?_⟩
            rw [own]
            refine h _ ?_
            rw [decide_eq_true_iff]
            refine ⟨fun e => iff.mpr (by rw [show k = j by omega]; exact hj), fun a => ?_⟩
            have hf := iff.mp a
            have h1 : ¬ k < j := fun q => hj.2 k q hf.1
            have h2 : ¬ j < k := fun q => hf.2 j q hj.1
            omega
      · have e1 : b1 = false := by simpa using e1
        exact wd_one <| w_ret <| ed_bl <| h false ⟨fun e => (nomatch e), fun a => by rw [hb1.mpr (hparts a).1] at e1; cases e1⟩
/-- stands_alone, of any piece -/
def phAlone (K : PySem.W.Frag) : Ph := fun ds rt _ => ∃ (s : Str) (rows : List Row) (p : Str), ds = [tabD K s rows, .str p] ∧ tabErr s rows = none ∧ p ∈ pcs s rows ∧ ∀ b, (b = true ↔ Alone rows p) → rt false (.bl b)
end
end Lw

namespace Lw
open PySem L2 DL TL
/-! ### Follows -/
def aloneB (rows : List Row) (p : Str) : Bool := decide (cutting rows p = [p])
theorem aloneB_iff {rows : List Row} {p : Str} : aloneB rows p = true ↔ Alone rows p := decide_eq_true_iff
def fitB (rows : List Row) (l r : Str) : Bool := decide (cutting rows (l ++ r) = [l, r])
theorem join_two (l r : Str) : Txt.join "" [l, r] = l ++ r := by
  rw [joinT_cons, joinT_cons]
  refine ext_tl ?_
  rw [tl_append, tl_append, tl_append, join_empty]
  show _ ++ (tl r ++ []) = _
  rw [List.append_nil]
theorem fit_iff {rows : List Row} (hr : ∀ q ∈ rows, 1 ≤ q.1.length ∧ 1 ≤ q.2.length) {l r : Str} (hl : 1 ≤ l.length) (hr2 : 1 ≤ r.length) : fitB rows l r = true ↔ Alone rows l ∧ Alone rows r ∧ Fits rows l r := by
  have h := row_cut hr (qs := [l, r]) fun q hq => by
    rcases List.mem_cons.mp hq with e | e
    · rw [e]; exact hl
    · rw [List.mem_singleton.mp e]; exact hr2
  rw [join_two] at h
  unfold fitB
  rw [decide_eq_true_iff, h]
  refine ⟨fun ⟨a, b, _⟩ => ⟨a l List.mem_cons_self, a r (List.mem_cons_of_mem _ List.mem_cons_self), b⟩, fun ⟨a, b, c⟩ => ⟨fun q hq => ?_, c, trivial⟩⟩
  rcases List.mem_cons.mp hq with e | e
  · rw [e]; exact a
  · rw [List.mem_singleton.mp e]; exact b
def aloneD (rows : List Row) (ps : List Str) : List (Key × D) := ps.map fun p => (.inr p, .bl (aloneB rows p))
theorem aloneD_val (rows : List Row) (p : Str) : ∀ ps : List Str, valD (aloneD rows ps) (.inr p) = if p ∈ ps then some (.bl (aloneB rows p)) else none
  | [] => rfl
  | q :: t => by
    have ih := aloneD_val rows p t
    unfold valD aloneD at ih ⊢
    rw [List.map_cons]
    by_cases e : q = p
    · subst e
      rw [List.find?_cons_of_pos (by simp)]
      simp
    · rw [List.find?_cons_of_neg (by simpa using e), ih]
      have e' : ¬ p = q := fun z => e z.symm
      simp [e']
theorem aloneD_snoc (rows : List Row) (ps : List Str) (p : Str) : aloneD rows (ps ++ [p]) = aloneD rows ps ++ [(.inr p, .bl (aloneB rows p))] := by unfold aloneD; rw [List.map_append]; rfl
theorem gK {kvs : List (Key × D)} {p : Str} {v : D} (h : valD kvs (.inr p) = some v) : GetD (.dK kvs) (.str p) (some v) := by
  rw [← h]; exact .k (.inr p)
def fitM (s : Str) (rows : List Row) : MemoF := ⟨pcs s rows, fitB rows⟩
def folF (K : PySem.W.Frag) (s : Str) (rows : List Row) : List (Str × D) := [("kept_table", tabD K s rows), ("kept_alone", .dK (aloneD rows (pcs s rows))), ("kept_truths", .memo (fitM s rows))]
def folD (K : PySem.W.Frag) (s : Str) (rows : List Row) : D := .ins (He.ga K "Follows") (folF K s rows)
section
variable {P : Program} {w : World} {K : PySem.W.Frag} {mg : Str → Option Value} {base : Heap}
def phFol (K : PySem.W.Frag) : PhI := fun ds rt xs => ∃ (s : Str) (rows : List Row), ds = [tabD K s rows] ∧ tabErr s rows = none ∧ rt (folF K s rows)
theorem p_Follows_init (T : Txt K mg) : FnI P w K mg base 23 (He.fAd K ("Follows", some "__init__")) (He.ga K "Follows") 1 (phFol K) := mkFollows_init T fun cdv A outer s H E hr x ds rt xs hφ hl => by
  obtain ⟨sg, rows, rfl, hT, h⟩ := hφ
  have nd := scFollows_init.nd
  have hu : (bodyX P w K mg base NFollows_init "Follows.__init__" sFollows_init (He.fAd K ("Follows", some "__init__")) cdv A outer s H E).A.units + 1 < cLine := hu_of hr
  have big : (2000 : Nat) ≤ sizeLine := by decide
  have h36 := (tab_small hT).2.2
  refine wd_cons <| w_fld 0 T.kFollows T.nFollows_kept_table rfl (.inl rfl) rfl (by decide) <| nl 1 rfl rfl rfl ?_
  refine wd_fldG 0 3 T.kFollows T.nFollows_kept_alone rfl (.inl rfl) rfl (by show 1 < 1000; decide) rfl (not_vis rfl) (by decide) rfl <| ed_dnewK ⟨rfl, fun q => ?_⟩
  refine wd_cons <| w_for rfl <| ei_list <| meth0 T.kTable T.mTable_pieces (p_Table_pieces T) (hr.mono (by decide)) <| nl 1 rfl rfl rfl ⟨rfl, rfl, sg, rows, rfl, .inl ⟨_, rfl, fun i Γ => ∃ o2 : Option (Bool × D), Γ = [some (true, .adr x (.ins (He.ga K "Follows") [("kept_table", tabD K sg rows), ("kept_alone", .ref q)])), some (false, tabD K sg rows), o2, some (true, .adr q (.dK (aloneD rows ((pcs sg rows).take i)))), none],
    ⟨none, rfl⟩, fun i d Γ' hd ⟨o2, e⟩ => ?_, fun Γ' ⟨o2, e⟩ => ?_⟩⟩
  · subst e
    obtain ⟨p, hp, rfl⟩ := map_get hd
    have hpm := List.mem_of_getElem? hp
    have hil := (List.getElem?_eq_some_iff.mp hp).1
    refine td_name (i := 2) nd rfl (.inl rfl) ?_
    have hnew : valD (aloneD rows ((pcs sg rows).take i)) (.inr p) = none := by
      rw [aloneD_val, if_neg]
      intro hm
      have nd2 : ((pcs sg rows).take (i + 1)).Nodup := (pcs_nodup hT).sublist (List.take_sublist _ _)
      rw [take_succ hp] at nd2
      exact (List.nodup_append.mp nd2).2.2 _ hm _ (List.mem_singleton.mpr rfl) rfl
    refine wd_one <| w_dputF 0 3 T.kFollows T.nFollows_kept_alone hu rfl (.inl rfl) rfl rfl rfl <| call_ (p_stands_n T 16) hr T.gstands_alone <| ea_cons <| nl 1 rfl rfl rfl <| ea_cons <| nl 2 rfl rfl rfl <| ea_nil ⟨rfl, sg, rows, p, rfl, hT, hpm, pcs_len hT p hpm, fun b hb => nl 2 rfl rfl rfl ⟨_, .k (.inr p) _ ?_, some (false, .str p), ?_⟩⟩
    · unfold aloneD; rw [List.length_map, List.length_take]; omega
    · have eb : b = aloneB rows p := by
        rw [Bool.eq_iff_iff, hb, aloneB_iff]
      rw [putD_new hnew, take_succ hp, aloneD_snoc, eb]; rfl
  · subst e
    rw [List.length_map, List.take_length]
    refine wd_fldG 0 4 T.kFollows T.nFollows_kept_truths rfl (.inl rfl) rfl (by show 2 < 1000; decide) rfl (not_vis rfl) (by decide) rfl <| ed_dnewT ⟨rfl, fun q2 => ?_⟩
    have hx : ∀ (Γ0 : En) (i : Nat), i ≠ 0 → (∃ e, Γ0[0]? = some (some (true, .adr x e))) → ∀ a ∈ [x], ∃ j e, j ≠ i ∧ Γ0[j]? = some (some (true, .adr a e)) := fun Γ0 i hi ⟨e, h⟩ a ha => by
      rw [List.mem_singleton.mp ha]; exact ⟨0, e, Ne.symm hi, h⟩
    refine wd_knowL 3 rfl ?_ (hx _ 3 (by decide) ⟨_, rfl⟩)
    refine wd_link 0 3 rfl rfl (f := "kept_alone") rfl ?_
    refine wd_knowM 4 (fitM sg rows) rfl ?_ (hx _ 4 (by decide) ⟨_, rfl⟩)
    refine wd_link 0 4 rfl rfl (f := "kept_truths") rfl ?_
    exact wd_nil ⟨_, rfl, h⟩
def phFtab (K : PySem.W.Frag) : Ph := fun ds rt _ => ∃ (s : Str) (rows : List Row), ds = [folD K s rows] ∧ rt false (tabD K s rows)
theorem p_Follows_table (T : Txt K mg) : FnD P w K mg base 1 (He.fAd K ("Follows", some "table")) 1 (phFtab K) := mkFollows_table T fun cdv A outer s H E hr ds rt xs hφ hl => by
  obtain ⟨z, rows, rfl, h⟩ := hφ
  exact wd_one <| w_ret <| fld T.kFollows T.nFollows_kept_table <| nl 0 rfl rfl rfl ⟨rfl, rfl, h⟩
def phFfits (K : PySem.W.Frag) : Ph := fun ds rt _ => ∃ (s : Str) (rows : List Row) (l r : Str), ds = [folD K s rows, .str l, .str r] ∧ tabErr s rows = none ∧ l ∈ pcs s rows ∧ r ∈ pcs s rows ∧ rt false (.bl (fitB rows l r))
theorem p_Follows_fits (T : Txt K mg) : FnD P w K mg base 6 (He.fAd K ("Follows", some "fits")) 3 (phFfits K) := mkFollows_fits T fun cdv A outer s H E hr ds rt xs hφ hl => by
  obtain ⟨z, rows, l, r, rfl, hT, ml, mr, h⟩ := hφ
  have hu : (bodyX P w K mg base NFollows_fits "Follows.fits" sFollows_fits (He.fAd K ("Follows", some "fits")) cdv A outer s H E).A.units + 1 < cLine := hu_of hr
  have fi := fit_iff (tab_pos hT) (pcs_pos hT l ml) (pcs_pos hT r mr)
  have vl : valD (aloneD rows (pcs z rows)) (.inr l) = some (.bl (aloneB rows l)) := by rw [aloneD_val, if_pos ml]
  have vr : valD (aloneD rows (pcs z rows)) (.inr r) = some (.bl (aloneB rows r)) := by rw [aloneD_val, if_pos mr]
  have no : ¬ (Alone rows l ∧ Alone rows r) → rt false (.bl false) := fun hno => by
    have : fitB rows l r = false := by
      cases e : fitB rows l r with
      | false => rfl
      | true => exact (hno ⟨(fi.mp e).1, (fi.mp e).2.1⟩).elim
    rw [this] at h; exact h
  refine wd_cons <| w_if <| et_w <| ew_or <| et_not <| et_val <| ed_dget (fld T.kFollows T.nFollows_kept_alone <| nl 0 rfl rfl rfl ⟨rfl, rfl, nl 1 rfl rfl rfl ⟨_, gK vl, _, rfl, ⟨fun e1 => ?_, fun e1 => ⟨fun _ => ?_, fun e => (nomatch e)⟩⟩⟩⟩) hu
  · have e1 : aloneB rows l = true := by simpa using e1
    refine ew_or1 <| et_not <| et_val <| ed_dget (fld T.kFollows T.nFollows_kept_alone <| nl 0 rfl rfl rfl ⟨rfl, rfl, nl 2 rfl rfl rfl ⟨_, gK vr, _, rfl, ⟨fun e2 => ?_, fun e2 => ?_⟩⟩⟩) hu
    · have e2 : aloneB rows r = false := by simpa using e2
      exact wd_one <| w_ret <| ed_bl <| no fun a => by rw [aloneB_iff.mpr a.2] at e2; cases e2
    · have e2 : aloneB rows r = true := by simpa using e2
      have al := aloneB_iff.mp e1
      have ar := aloneB_iff.mp e2
      refine wd_nil <| wd_memo (m := fitM z rows) ml mr ?_ (rdm_fld 0 T.kFollows T.nFollows_kept_truths rfl rfl rfl (.inl rfl)) (kyx2 1 2 rfl rfl rfl rfl (.inl rfl) (.inl rfl)) (kyx2 1 2 rfl rfl rfl rfl (.inl rfl) (.inl rfl)) (kyx2 1 2 rfl rfl rfl rfl (.inl rfl) (.inl rfl)) hu ?_ h
      · have := (tab_small hT).2.2
        show (pcs z rows).length * (pcs z rows).length < sizeLine
        have : (pcs z rows).length * (pcs z rows).length ≤ 36 * 36 := Nat.mul_le_mul this this
        exact Nat.lt_of_le_of_lt this (by decide)
      · refine ed_cmp <| call_ (p_joined_over T) (hr.mono (by decide)) T.gjoined_over <| ea_cons <| fld T.kFollows T.nFollows_kept_table <| nl 0 rfl rfl rfl ⟨rfl, rfl, ea_cons <| nl 1 rfl rfl rfl <| ea_cons <| nl 2 rfl rfl rfl <| ea_nil ⟨rfl, z, rows, l, r, rfl, hT, ml, mr, al, ar, fun hf => ?_, fun k hk => ?_⟩⟩
        · refine ed_non <| is_non ?_
          show D.bl true = .bl (fitB rows l r)
          rw [fi.mpr ⟨al, ar, hf⟩]
        · refine ed_non <| is_non ?_
          show D.bl false = .bl (fitB rows l r)
          have : fitB rows l r = false := by
            cases e : fitB rows l r with
            | false => rfl
            | true => exact ((fi.mp e).2.2 k hk.1).elim
          rw [this]
  · have e1 : aloneB rows l = false := by simpa using e1
    exact wd_one <| w_ret <| ed_bl <| no fun a => by rw [aloneB_iff.mpr a.1] at e1; cases e1
def phFalone (K : PySem.W.Frag) : Ph := fun ds rt _ => ∃ (s : Str) (rows : List Row), ds = [folD K s rows] ∧ tabErr s rows = none ∧ rt true (.lst (((pcs s rows).filter (aloneB rows)).map D.str))
theorem p_Follows_alone (T : Txt K mg) : FnD P w K mg base 2 (He.fAd K ("Follows", some "alone")) 1 (phFalone K) := mkFollows_alone T fun cdv A outer s H E hr ds rt xs hφ hl => by
  obtain ⟨z, rows, rfl, hT, h⟩ := hφ
  have nd := scFollows_alone.nd
  have big : (2000 : Nat) ≤ sizeLine := by decide
  have h36 := (tab_small hT).2.2
  refine wd_one <| w_ret <| ed_lc (own := [("piece", 1)]) rfl nd (blkOk_by rfl) <| ei_list <| meth0 T.kTable T.mTable_pieces (p_Table_pieces T) (hr.mono (by decide)) <| fld T.kFollows T.nFollows_kept_table <| nc 0 rfl rfl rfl ⟨rfl, rfl, rfl, rfl, z, rows, rfl, .inl ⟨_, rfl, fun j acc => acc = ((((pcs z rows).take j).filter (aloneB rows)).map D.str), rfl, fun j d acc hd hI s0 H0 C cl fp xe => ?_, fun acc hI => ?_⟩⟩
  · obtain ⟨p, hp, rfl⟩ := map_get hd
    have hpm := List.mem_of_getElem? hp
    have hlen : (((pcs z rows).take j).filter (aloneB rows)).length < sizeLine := by
      have := List.length_filter_le (aloneB rows) ((pcs z rows).take j)
      rw [List.length_take] at this
      omega
    refine tc_name (i := 1) nd rfl (.inl rfl) (by simp) <| ets_one <| et_val <| ed_dget (fld T.kFollows T.nFollows_kept_alone <| nc 0 rfl rfl rfl ⟨rfl, rfl, nl 1 rfl rfl rfl ⟨_, gK (by rw [aloneD_val, if_pos hpm]), _, rfl, ⟨fun e1 => ?_, fun e1 => ?_⟩⟩⟩) (hu_of hr)
    · refine nl 1 rfl rfl rfl ⟨by rw [hI, List.length_map]; exact hlen, ?_⟩
      dsimp only at hI ⊢
      rw [hI, take_succ hp, List.filter_append, List.filter_cons_of_pos e1, List.map_append]; rfl
    · dsimp only at hI ⊢
      rw [hI, take_succ hp, List.filter_append, List.filter_cons_of_neg (by rw [e1]; exact Bool.false_ne_true)]
      simp
  · rw [List.length_map, List.take_length] at hI
    rw [hI]; exact h
end
end Lw

namespace Lw
open PySem L2 DL TL
section
variable {P : Program} {w : World} {K : PySem.W.Frag} {mg : Str → Option Value} {base : Heap}
def phFafter (K : PySem.W.Frag) : Ph := fun ds rt _ => ∃ (s : Str) (rows : List Row) (p : Str), ds = [folD K s rows, .str p] ∧ tabErr s rows = none ∧ p ∈ pcs s rows ∧ rt true (.lst (((pcs s rows).filter (fitB rows p)).map D.str))
theorem p_Follows_after (T : Txt K mg) : FnD P w K mg base 7 (He.fAd K ("Follows", some "after")) 2 (phFafter K) := mkFollows_after T fun cdv A outer s H E hr ds rt xs hφ hl => by
  obtain ⟨z, rows, q, rfl, hT, hq, h⟩ := hφ
  have nd := scFollows_after.nd
  have big : (2000 : Nat) ≤ sizeLine := by decide
  have h36 := (tab_small hT).2.2
  refine wd_cons <| w_expr <| call_ (p_look_at_piece T) (hr.mono (by decide)) T.glook_at_piece <| ea_cons <| fld T.kFollows T.nFollows_kept_table <| nc 0 rfl rfl rfl ⟨rfl, rfl, ea_cons <| nc 1 rfl rfl rfl <| ea_nil ⟨rfl, z, rows, _, rfl, rfl, fun _ => ?_, fun e => by rw [show isPc (pcs z rows) (.str q) = true from decide_eq_true hq] at e; cases e⟩⟩
  refine wd_one <| w_ret <| ed_lc (own := [("other", 2)]) rfl nd (blkOk_by rfl) <| ei_list <| meth0 T.kTable T.mTable_pieces (p_Table_pieces T) (hr.mono (by decide)) <| fld T.kFollows T.nFollows_kept_table <| nc 0 rfl rfl rfl ⟨rfl, rfl, rfl, rfl, z, rows, rfl, .inl ⟨_, rfl, fun j acc => acc = ((((pcs z rows).take j).filter (fitB rows q)).map D.str), rfl, fun j d acc hd hI s0 H0 C cl fp xe => ?_, fun acc hI => ?_⟩⟩
  · obtain ⟨p, hp, rfl⟩ := map_get hd
    have hpm := List.mem_of_getElem? hp
    have hlen : (((pcs z rows).take j).filter (fitB rows q)).length < sizeLine := by
      have := List.length_filter_le (fitB rows q) ((pcs z rows).take j)
      rw [List.length_take] at this
      omega
    refine tc_name (i := 2) nd rfl (.inl rfl) (by simp) <| ets_one <| et_val <| meth T.kFollows T.mFollows_fits (p_Follows_fits T) (hr.mono (by decide)) <| nc 0 rfl rfl rfl ⟨rfl, rfl, ea_cons <| nc 1 rfl rfl rfl <| ea_cons <| nl 2 rfl rfl rfl <| ea_nil ⟨rfl, z, rows, q, p, rfl, hT, hq, hpm, _, rfl, ⟨fun e1 => ?_, fun e1 => ?_⟩⟩⟩
    · refine nl 2 rfl rfl rfl ⟨by rw [hI, List.length_map]; exact hlen, ?_⟩
      dsimp only at hI ⊢
      rw [hI, take_succ hp, List.filter_append, List.filter_cons_of_pos e1, List.map_append]; rfl
    · dsimp only at hI ⊢
      rw [hI, take_succ hp, List.filter_append, List.filter_cons_of_neg (by rw [e1]; exact Bool.false_ne_true)]
      simp
  · rw [List.length_map, List.take_length] at hI
    rw [hI]; exact h
end
end Lw

namespace Lw
open PySem L2 DL TL
section
variable {P : Program} {w : World} {K : PySem.W.Frag} {mg : Str → Option Value} {base : Heap}
def phFis (K : PySem.W.Frag) : Ph := fun ds rt _ => ∃ (s : Str) (rows : List Row) (p : Str), ds = [folD K s rows, .str p] ∧ rt false (.bl (decide (p ∈ pcs s rows) && aloneB rows p))
theorem p_Follows_is_alone (T : Txt K mg) : FnD P w K mg base 1 (He.fAd K ("Follows", some "is_alone")) 2 (phFis K) := mkFollows_is_alone T fun cdv A outer s H E hr ds rt xs hφ hl => by
  obtain ⟨z, rows, p, rfl, h⟩ := hφ
  refine wd_one <| w_ret <| ed_dget2 (fld T.kFollows T.nFollows_kept_alone <| nl 0 rfl rfl rfl ⟨rfl, rfl, rfl, nl 1 rfl rfl rfl <| ed_bl ⟨_, .k (.inr p), ?_⟩⟩) (hu_of hr)
  rw [aloneD_val]
  by_cases e : p ∈ pcs z rows
  · rw [if_pos e]
    rw [decide_eq_true e] at h
    exact h
  · rw [if_neg e]
    rw [decide_eq_false e] at h
    exact h
end
end Lw

namespace Lw
open PySem L2 DL TL
/-! ### whole numbers -/
def isIn : D → Bool
  | .int _ => true
  | .bl _ => true
  | _ => false
def isBo : D → Bool
  | .bl _ => true
  | _ => false
def isWh (d : D) : Bool := isIn d && !isBo d
theorem isWh_int {d : D} (h : isWh d = true) : ∃ n, d = .int n := by
  cases d <;> first | exact ⟨_, rfl⟩ | cases h
theorem all_wh : ∀ {xs : List D}, xs.all isWh = true → ∃ ts : List Int, xs = ts.map D.int
  | [], _ => ⟨[], rfl⟩
  | x :: r, h => by
    rw [List.all_cons, Bool.and_eq_true] at h
    obtain ⟨ts, e⟩ := all_wh h.2
    obtain ⟨n, rfl⟩ := isWh_int h.1
    exact ⟨n :: ts, by rw [e]; rfl⟩
theorem wh_all (ts : List Int) : (ts.map D.int).all isWh = true := by
  rw [List.all_map, List.all_eq_true]; intro _ _; rfl
/-- kinds of a thing's things are known -/
def ElH (x : D) : Prop := isiD "int" x = some (isIn x) ∧ isiD "bool" x = some (isBo x)
section
variable {P : Program} {w : World} {K : PySem.W.Frag} {mg : Str → Option Value} {base : Heap}
def phWhole : Ph := fun ds rt _ => ∃ d : D, ds = [d] ∧ ElH d ∧ rt false (.bl (isWh d))
theorem p_is_whole (T : Txt K mg) : FnD P w K mg base 1 (He.fAd K ("is_whole", none)) 1 phWhole := mkis_whole T fun cdv A outer s H E hr ds rt xs hφ hl => by
  obtain ⟨d, rfl, ⟨h1, h2⟩, h⟩ := hφ
  refine wd_one <| w_ret <| ed_and <| isi_ "int" T.zisinstance T.zint bt_int <| nl 0 rfl rfl rfl ⟨_, h1, _, rfl, fun e => ?_, fun e => ?_⟩
  · refine ed_one <| ed_not <| isi_ "bool" T.zisinstance T.zbool bt_bool <| nl 0 rfl rfl rfl ⟨_, h2, _, rfl, ?_⟩
    unfold isWh at h
    rw [e, Bool.true_and] at h; exact h
  · unfold isWh at h
    rw [e, Bool.false_and] at h; exact h
end
end Lw

namespace Lw
open PySem L2 DL TL
/-! ### grammars -/
abbrev Way := Nat × Nat × Nat
def wayD (q : Way) : D := .tup [.int (q.1 : Nat), .str (oneS q.2.1), .int (q.2.2 : Nat)]
structure Gram where
  many : Nat
  ways : List Way
  ends : List Nat
structure Gram.Ok (g : Gram) : Prop where
  m1 : 1 ≤ g.many
  m4 : g.many ≤ 4
  wl : g.ways.length ≤ 48
  wk : ∀ q ∈ g.ways, q.1 < g.many ∧ isSg q.2.1 = true ∧ q.2.2 < g.many
  wn : (g.ways.map fun q => (q.1, q.2.1)).Nodup
  ek : ∀ e ∈ g.ends, e < g.many
  en : g.ends.Nodup
def byD (ws : List Way) : List (List Key × D) := ws.map fun q => ([.inl (q.1 : Nat), .inr (oneS q.2.1)], .int (q.2.2 : Nat))
def stepK (ws : List Way) (s c : Nat) : Option Nat := (ws.find? fun q => decide (q.1 = s ∧ q.2.1 = c)).map fun q => q.2.2
def stepO (ws : List Way) (o : Option Nat) (c : Nat) : Option Nat := o.bind fun s => stepK ws s c
def leadsL (ws : List Way) (o : Option Nat) (l : List Nat) : Option Nat := l.foldl (stepO ws) o
theorem oneS_inj {a b : Nat} (h : oneS a = oneS b) : a = b := by
  have := congrArg tl h
  injection this
theorem byD_val (s c : Nat) : ∀ ws : List Way, valD (byD ws) [.inl (s : Nat), .inr (oneS c)] = (stepK ws s c).map intD
  | [] => rfl
  | q :: t => by
    have ih := byD_val s c t
    unfold valD byD at ih ⊢
    unfold stepK at ih ⊢
    rw [List.map_cons]
    by_cases e : q.1 = s ∧ q.2.1 = c
    · obtain ⟨e1, e2⟩ := e
      subst e1 e2
      rw [List.find?_cons_of_pos (by simp), List.find?_cons_of_pos (by simp)]; rfl
    · have ek : ¬ ([Sum.inl ((q.1 : Nat) : Int), Sum.inr (oneS q.2.1)] : List Key) = [.inl (s : Nat), .inr (oneS c)] := fun z => e (by
        injection z with z1 z2
        injection z2 with z2 _
        injection z1 with z1
        injection z2 with z2
        exact ⟨by omega, oneS_inj z2⟩)
      rw [List.find?_cons_of_neg (by simpa using ek), List.find?_cons_of_neg (by simpa using e), ih]
theorem stepK_lt {g : Gram} (hg : g.Ok) {s c t : Nat} (h : stepK g.ways s c = some t) : t < g.many := by
  unfold stepK at h
  obtain ⟨q, h1, h2⟩ := Option.map_eq_some_iff.mp h
  rw [← h2]
  exact (hg.wk q (List.mem_of_find?_eq_some h1)).2.2
theorem leadsL_lt {g : Gram} (hg : g.Ok) : ∀ {l : List Nat} {o : Option Nat} {t : Nat}, (∀ s, o = some s → s < g.many) → leadsL g.ways o l = some t → t < g.many
  | [], o, t, h, e => h t e
  | c :: r, o, t, h, e => leadsL_lt hg (l := r) (o := stepO g.ways o c) (fun s es => by
      unfold stepO at es
      cases o with
      | none => cases es
      | some u => exact stepK_lt hg es) e
theorem leadsL_none (ws : List Way) : ∀ l : List Nat, leadsL ws none l = none
  | [] => rfl
  | c :: r => leadsL_none ws r
theorem leadsL_app (ws : List Way) (o : Option Nat) (a b : List Nat) : leadsL ws o (a ++ b) = leadsL ws (leadsL ws o a) b := by
  unfold leadsL; rw [List.foldl_append]
def tellsL (g : Gram) (l : List Nat) : Bool := match leadsL g.ways (some 0) l with
  | none => false
  | some t => decide (t ∈ g.ends)
def graF (g : Gram) : List (Str × D) := [("kept_by", .dT (byD g.ways)), ("kept_many", intD g.many), ("kept_ways", .lst (g.ways.map wayD)), ("kept_ends", .lst (g.ends.map intD))]
def graD (K : PySem.W.Frag) (g : Gram) : D := .ins (He.ga K "Grammar") (graF g)
theorem in4_nats {x : Nat} : ∀ {l : List Nat}, in4 (intD x) (l.map intD) = decide (x ∈ l)
  | [] => rfl
  | y :: r => by
    show (eq4 (intD y) (intD x) || in4 (intD x) (r.map intD)) = _
    rw [in4_nats]
    have : eq4 (intD y) (intD x) = decide (x = y) := by
      show (((y : Nat) : Int) == ((x : Nat) : Int)) = _
      rw [Bool.eq_iff_iff, beq_iff_eq, decide_eq_true_iff]
      omega
    rw [this, Bool.eq_iff_iff]
    simp
theorem flat_nats (l : List Nat) : (l.map intD).all flat4 = true := by
  rw [List.all_map, List.all_eq_true]; intro _ _; rfl
theorem gT {kvs : List (List Key × D)} {k : List Key} {o : Option D} (h : valD kvs k = o) : GetD (.dT kvs) (.tup (k.map kD)) o := by
  rw [← h]; exact .t k
section
variable {P : Program} {w : World} {K : PySem.W.Frag} {mg : Str → Option Value} {base : Heap}
def phState : Ph := fun ds rt _ => ∃ m s : Nat, ds = [intD m, intD s] ∧ s < m ∧ rt false (.bl true)
theorem p_is_state (T : Txt K mg) : FnD P w K mg base 2 (He.fAd K ("is_state", none)) 2 phState := mkis_state T fun cdv A outer s H E hr ds rt xs hφ hl => by
  obtain ⟨m, st, rfl, hs, h⟩ := hφ
  refine wd_one <| w_ret <| ed_and <| call_ (p_is_whole T) hr T.gis_whole <| ea_cons <| nl 1 rfl rfl rfl <| ea_nil ⟨rfl, _, rfl, ⟨rfl, rfl⟩, _, rfl, fun _ => ?_, fun e => (nomatch e)⟩
  refine ed_one <| ed_chainI <| ed_int <| nl 1 rfl rfl rfl ⟨_, _, rfl, rfl, fun _ => nl 0 rfl rfl rfl ⟨_, rfl, ?_⟩, fun e => ?_⟩
  · have : CmpI .Lt ((st : Nat) : Int) ((m : Nat) : Int) = true := decide_eq_true (by omega)
    rw [this]; exact h
  · have : decide ((0 : Int) ≤ ((st : Nat) : Int)) = false := e
    rw [decide_eq_true (by omega)] at this; cases this
def phWay : Ph := fun ds rt _ => ∃ (m : Nat) (q : Way), ds = [intD m, wayD q] ∧ q.1 < m ∧ isSg q.2.1 = true ∧ q.2.2 < m ∧ rt false (.bl true)
theorem p_is_way (T : Txt K mg) : FnD P w K mg base 3 (He.fAd K ("is_way", none)) 2 phWay := mkis_way T fun cdv A outer s H E hr ds rt xs hφ hl => by
  obtain ⟨m, q, rfl, h1, h2, h3, h⟩ := hφ
  refine wd_cons <| w_if <| et_w <| ew_or <| et_not <| et_val <| isi_ "tuple" T.zisinstance T.ztuple bt_tuple <| nl 1 rfl rfl rfl ⟨_, rfl, _, rfl, ⟨fun _ => ?_, fun e => absurd e (by decide +kernel)⟩⟩
  refine ew_or1 <| et_cmp <| len_ T.zlen <| nl 1 rfl rfl rfl ⟨_, rfl, ed_int <| ne_ii ⟨fun e => absurd e (by show ¬ (!decide (((3 : Nat) : Int) = 3)) = true; decide), fun _ => ?_⟩⟩
  refine wd_nil <| wd_one <| w_ret <| ed_and <| call_ (p_is_state T) hr T.gis_state <| ea_cons <| nl 0 rfl rfl rfl <| ea_cons <| ed_ix <| nl 1 rfl rfl rfl <| ed_int <| ix_tup rfl <| ea_nil ⟨rfl, m, q.1, rfl, h1, _, rfl, fun _ => ?_, fun e => (nomatch e)⟩
  refine ed_and <| call_ (p_is_sign T) (hr.mono (by decide)) T.gis_sign <| ea_cons <| ed_ix <| nl 1 rfl rfl rfl <| ed_int <| ix_tup rfl <| ea_nil ⟨rfl, q.2.1, rfl, _, rfl, fun _ => ?_, fun e => by rw [h2] at e; cases e⟩
  exact ed_one <| call_ (p_is_state T) hr T.gis_state <| ea_cons <| nl 0 rfl rfl rfl <| ea_cons <| ed_ix <| nl 1 rfl rfl rfl <| ed_int <| ix_tup rfl <| ea_nil ⟨rfl, m, q.2.2, rfl, h3, h⟩
def phGra (K : PySem.W.Frag) : PhI := fun ds rt xs => ∃ g : Gram, ds = [intD g.many, .lst (g.ways.map wayD), .lst (g.ends.map intD)] ∧ g.Ok ∧ rt (graF g)
theorem p_Grammar_init (T : Txt K mg) : FnI P w K mg base 5 (He.fAd K ("Grammar", some "__init__")) (He.ga K "Grammar") 3 (phGra K) := mkGrammar_init T fun cdv A outer s H E hr x ds rt xs hφ hl => by
  obtain ⟨g, rfl, hg, h⟩ := hφ
  obtain ⟨t, hS⟩ := T.cMOST_STATES
  obtain ⟨t, hW⟩ := T.cMOST_WAYS
  have nd := scGrammar_init.nd
  have hu : (bodyX P w K mg base NGrammar_init "Grammar.__init__" sGrammar_init (He.fAd K ("Grammar", some "__init__")) cdv A outer s H E).A.units + 1 < cLine := hu_of hr
  have big : (2000 : Nat) ≤ sizeLine := by decide
  obtain ⟨m1, m4, wl, wk, wn, ek, en⟩ := hg
  have el : g.ends.length ≤ 4 := by
    have := nodup_len (ys := List.range g.many) en fun e he => List.mem_range.mpr (ek e he)
    rw [List.length_range] at this
    omega
  refine wd_cons <| w_if <| et_w <| ew_or <| et_not <| et_val <| call_ (p_is_whole T) (hr.mono (by decide)) T.gis_whole <| ea_cons <| nl 1 rfl rfl rfl <| ea_nil ⟨rfl, _, rfl, ⟨rfl, rfl⟩, _, rfl, ⟨fun _ => ?_, fun e => (nomatch e)⟩⟩
  refine ew_or1 <| et_not <| et_chainI <| ed_int <| nl 1 rfl rfl rfl ⟨_, _, rfl, rfl, fun _ => ed_globI hS rfl ⟨_, rfl, ⟨fun e => ?_, fun _ => ?_⟩⟩, fun e => ?_⟩
  · have : (!decide (((g.many : Nat) : Int) ≤ 4)) = true := e
    rw [decide_eq_true (by omega)] at this; cases this
  · refine wd_nil <| wd_cons <| w_if <| et_w <| ew_or <| et_not <| et_val <| isi_ "list" T.zisinstance T.zlist bt_list <| nl 2 rfl rfl rfl ⟨_, rfl, _, rfl, ⟨fun _ => ?_, fun e => absurd e (by decide +kernel)⟩⟩
    refine ew_or1 <| et_cmp <| len_ T.zlen <| nl 2 rfl rfl rfl ⟨_, rfl, ed_globI hW rfl <| gt_ii ⟨fun e => ?_, fun _ => ?_⟩⟩
    · have := of_decide_eq_true e
      rw [List.length_map] at this
      omega
    refine wd_nil <| wd_fldG 0 7 T.kGrammar T.nGrammar_kept_by rfl (.inl rfl) rfl (by show 0 < 1000; decide) rfl (not_vis rfl) (by decide) rfl <| ed_dnewT ⟨rfl, fun q => ?_⟩
    refine wd_cons <| w_for rfl <| enL T.zenumerate <| nl 2 rfl rfl rfl ⟨_, rfl, fun i Γ => ∃ o4 o5 : Option (Bool × D), Γ = [some (true, .adr x (.ins (He.ga K "Grammar") [("kept_by", .ref q)])), some (false, intD g.many), some (false, .lst (g.ways.map wayD)), some (false, .lst (g.ends.map intD)), o4, o5, none, some (true, .adr q (.dT (byD (g.ways.take i))))],
      ⟨none, none, rfl⟩, fun i d Γ' hd ⟨o4, o5, e⟩ => ?_, fun Γ' ⟨o4, o5, e⟩ => ?_⟩
    · subst e
      obtain ⟨a, b, ha, hb, rfl⟩ := pairs_get hd
      obtain ⟨hi, rfl⟩ := rangeD_get ha
      obtain ⟨v, hv, rfl⟩ := map_get hb
      rw [Int.zero_add]
      rw [List.length_map] at hi
      obtain ⟨k1, k2, k3⟩ := wk v (List.mem_of_getElem? hv)
      have hnew : stepK (g.ways.take i) v.1 v.2.1 = none := by
        unfold stepK
        rw [Option.map_eq_none_iff, List.find?_eq_none]
        intro z hz he
        have he := of_decide_eq_true he
        have nd2 : ((g.ways.take (i + 1)).map fun q => (q.1, q.2.1)).Nodup := by
          rw [List.map_take]; exact wn.sublist (List.take_sublist _ _)
        rw [take_succ hv, List.map_append] at nd2
        exact (List.nodup_append.mp nd2).2.2 (z.1, z.2.1) (List.mem_map.mpr ⟨z, hz, rfl⟩) (v.1, v.2.1) (List.mem_singleton.mpr rfl) (Prod.ext he.1 he.2)
      have hval : valD (byD (g.ways.take i)) [.inl (v.1 : Nat), .inr (oneS v.2.1)] = none := by rw [byD_val, hnew]; rfl
      refine td_two rfl <| td_name (i := 4) nd rfl (.inl rfl) <| td_name (i := 5) nd rfl (.inl rfl) ?_
      refine wd_cons <| w_if <| et_w <| ew_or <| et_not <| et_val <| call_ (p_is_way T) (hr.mono (by decide)) T.gis_way <| ea_cons <| nl 1 rfl rfl rfl <| ea_cons <| nl 5 rfl rfl rfl <| ea_nil ⟨rfl, g.many, v, rfl, k1, k2, k3, _, rfl, ⟨fun _ => ?_, fun e => (nomatch e)⟩⟩
      refine ew_or1 <| et_cmp <| ed_tup <| ea_cons <| ed_ix <| nl 5 rfl rfl rfl <| ed_int <| ix_tup rfl <| ea_cons <| ed_ix <| nl 5 rfl rfl rfl <| ed_int <| ix_tup rfl <| ea_nil ⟨(by show 2 ≤ sizeLine; decide), ed_at 7 rfl <| fld T.kGrammar T.nGrammar_kept_by <| na 0 rfl rfl rfl ⟨rfl, rfl, rfl, in_dict hu (gT hval) ⟨fun e => (nomatch e), fun _ => ?_⟩⟩⟩
      refine wd_nil <| wd_one <| w_dputF 0 7 T.kGrammar T.nGrammar_kept_by hu rfl (.inl rfl) rfl rfl rfl <| ed_ix <| nl 5 rfl rfl rfl <| ed_int <| ix_tup rfl <| ed_tup <| ea_cons <| ed_ix <| nl 5 rfl rfl rfl <| ed_int <| ix_tup rfl <| ea_cons <| ed_ix <| nl 5 rfl rfl rfl <| ed_int <| ix_tup rfl <| ea_nil ⟨(by show 2 ≤ sizeLine; decide), _, .t [.inl (v.1 : Nat), .inr (oneS v.2.1)] _ ?_, some (false, .int (i : Int)), some (false, wayD v), ?_⟩
      · unfold byD; rw [List.length_map, List.length_take]; omega
      · rw [putD_new hval, take_succ hv]
        unfold byD
        rw [List.map_append]; rfl
    · subst e
      rw [pairs_length, rangeD_length, List.length_map, Nat.min_self, List.take_length]
      refine wd_cons <| w_if <| et_not <| et_val <| isi_ "list" T.zisinstance T.zlist bt_list <| nl 3 rfl rfl rfl ⟨_, rfl, _, rfl, ⟨fun e => absurd e (by decide +kernel), fun _ => ?_⟩⟩
      refine wd_nil <| wd_cons <| w_for rfl <| enL T.zenumerate <| nl 3 rfl rfl rfl ⟨_, rfl, fun i Γ => ∃ o4 o5 o6 : Option (Bool × D), Γ = [some (true, .adr x (.ins (He.ga K "Grammar") [("kept_by", .ref q)])), some (false, intD g.many), some (false, .lst (g.ways.map wayD)), some (false, .lst (g.ends.map intD)), o4, o5, o6, some (true, .adr q (.dT (byD g.ways)))],
        ⟨o4, o5, none, rfl⟩, fun i d Γ' hd ⟨o4, o5, o6, e⟩ => ?_, fun Γ' ⟨o4, o5, o6, e⟩ => ?_⟩
      · subst e
        obtain ⟨a, b, ha, hb, rfl⟩ := pairs_get hd
        obtain ⟨hi, rfl⟩ := rangeD_get ha
        obtain ⟨v, hv, rfl⟩ := map_get hb
        rw [Int.zero_add]
        rw [List.length_map] at hi
        have hve := ek v (List.mem_of_getElem? hv)
        have hnew : in4 (intD v) ((g.ends.take i).map intD) = false := by
          rw [in4_nats, decide_eq_false_iff_not]
          intro hm
          have nd2 : (g.ends.take (i + 1)).Nodup := en.sublist (List.take_sublist _ _)
          rw [take_succ hv] at nd2
          exact (List.nodup_append.mp nd2).2.2 _ hm _ (List.mem_singleton.mpr rfl) rfl
        refine td_two rfl <| td_name (i := 4) nd rfl (.inl rfl) <| td_name (i := 6) nd rfl (.inl rfl) ?_
        refine wd_one <| w_if <| et_w <| ew_or <| et_not <| et_val <| call_ (p_is_state T) (hr.mono (by decide)) T.gis_state <| ea_cons <| nl 1 rfl rfl rfl <| ea_cons <| nl 6 rfl rfl rfl <| ea_nil ⟨rfl, g.many, v, rfl, hve, _, rfl, ⟨fun _ => ?_, fun e => (nomatch e)⟩⟩
        refine ew_or1 <| et_cmp <| nl 6 rfl rfl rfl <| ed_slice <| nl 3 rfl rfl rfl <| eo_none <| eo_some <| nl 4 rfl rfl rfl ⟨_, rfl, sl_lst <| in_dl rfl (by rw [cutD_map, cutD_to]; exact flat_nats _) ?_⟩
        rw [cutD_map, cutD_to]
        exact ⟨fun e => (by rw [hnew] at e; cases e), fun _ => wd_nil ⟨some (false, .int (i : Int)), o5, some (false, intD v), rfl⟩⟩
      · subst e
        have hx : ∀ (Γ0 : En) (i : Nat), i ≠ 0 → (∃ e, Γ0[0]? = some (some (true, .adr x e))) → ∀ a ∈ [x], ∃ j e, j ≠ i ∧ Γ0[j]? = some (some (true, .adr a e)) := fun Γ0 i hi ⟨e, h⟩ a ha => by
          rw [List.mem_singleton.mp ha]; exact ⟨0, e, Ne.symm hi, h⟩
        refine wd_knowL 7 rfl ?_ (hx _ 7 (by decide) ⟨_, rfl⟩)
        refine wd_link 0 7 rfl rfl (f := "kept_by") rfl ?_
        refine wd_cons <| w_fld 0 T.kGrammar T.nGrammar_kept_many rfl (.inl rfl) rfl (by show 1 < 1000; decide) <| nl 1 rfl rfl rfl ?_
        refine wd_cons <| w_fld 0 T.kGrammar T.nGrammar_kept_ways rfl (.inl rfl) rfl (by show 2 < 1000; decide) <| list_ T.zlist <| nl 2 rfl rfl rfl ⟨_, .inl rfl, ?_⟩
        exact wd_one <| w_fld 0 T.kGrammar T.nGrammar_kept_ends rfl (.inl rfl) rfl (by show 3 < 1000; decide) <| list_ T.zlist <| nl 3 rfl rfl rfl ⟨_, .inl rfl, ⟨_, rfl, h⟩⟩
  · have : decide ((1 : Int) ≤ ((g.many : Nat) : Int)) = false := e
    rw [decide_eq_true (by omega)] at this; cases this
def phGmany (K : PySem.W.Frag) : Ph := fun ds rt _ => ∃ g : Gram, ds = [graD K g] ∧ rt false (intD g.many)
theorem p_Grammar_many (T : Txt K mg) : FnD P w K mg base 1 (He.fAd K ("Grammar", some "many")) 1 (phGmany K) := mkGrammar_many T fun cdv A outer s H E hr ds rt xs hφ hl => by
  obtain ⟨g, rfl, h⟩ := hφ
  exact wd_one <| w_ret <| fld T.kGrammar T.nGrammar_kept_many <| nl 0 rfl rfl rfl ⟨rfl, rfl, h⟩
def phGends (K : PySem.W.Frag) : Ph := fun ds rt _ => ∃ g : Gram, ds = [graD K g] ∧ rt true (.lst (g.ends.map intD))
theorem p_Grammar_ends (T : Txt K mg) : FnD P w K mg base 1 (He.fAd K ("Grammar", some "ends")) 1 (phGends K) := mkGrammar_ends T fun cdv A outer s H E hr ds rt xs hφ hl => by
  obtain ⟨g, rfl, h⟩ := hφ
  exact wd_one <| w_ret <| list_ T.zlist <| fld T.kGrammar T.nGrammar_kept_ends <| nl 0 rfl rfl rfl ⟨rfl, rfl, _, .inl rfl, h⟩
def phGleads (K : PySem.W.Frag) : Ph := fun ds rt _ => ∃ (g : Gram) (s : Nat) (z : Str), ds = [graD K g, intD s, .str z] ∧ s < g.many ∧ z.length ≤ 100000 ∧ rt false (optI (leadsL g.ways (some s) (tl z)))
theorem p_Grammar_leads (T : Txt K mg) : FnD P w K mg base 3 (He.fAd K ("Grammar", some "leads")) 3 (phGleads K) := mkGrammar_leads T fun cdv A outer s H E hr ds rt xs hφ hl => by
  obtain ⟨g, st, z, rfl, hs, hz, h⟩ := hφ
  have nd := scGrammar_leads.nd
  refine wd_cons <| w_if <| et_not <| et_val <| call_ (p_is_state T) hr T.gis_state <| ea_cons <| fld T.kGrammar T.nGrammar_kept_many <| nl 0 rfl rfl rfl ⟨rfl, rfl, ea_cons <| nl 1 rfl rfl rfl <| ea_nil ⟨rfl, g.many, st, rfl, hs, _, rfl, ⟨fun e => (nomatch e), fun _ => ?_⟩⟩⟩
  refine wd_nil <| wd_cons <| w_if <| et_not <| et_val <| isi_ "str" T.zisinstance T.zstr bt_str <| nl 2 rfl rfl rfl ⟨_, rfl, _, rfl, ⟨fun e => absurd e (by decide +kernel), fun _ => ?_⟩⟩
  refine wd_nil <| wd_cons <| asg 3 nd rfl rfl <| nl 1 rfl rfl rfl ?_
  refine wd_cons <| w_for rfl <| ei_str <| nl 2 rfl rfl rfl ⟨z, rfl, fun i Γ => ∃ o4 : Option (Bool × D), Γ = [some (false, graD K g), some (false, intD st), some (false, .str z), some (false, optI (leadsL g.ways (some st) ((tl z).take i))), o4],
    ⟨none, rfl⟩, fun i d Γ' hd ⟨o4, e⟩ => ?_, fun Γ' ⟨o4, e⟩ => ?_⟩
  · subst e
    obtain ⟨c, hc, rfl⟩ := signs_get hd
    refine td_name (i := 4) nd rfl (.inl rfl) ?_
    have hstep : leadsL g.ways (some st) ((tl z).take (i + 1)) = stepO g.ways (leadsL g.ways (some st) ((tl z).take i)) c := by
      rw [take_succ hc, leadsL_app]; rfl
    cases ho : leadsL g.ways (some st) ((tl z).take i) with
    | none =>
      rw [ho] at hstep
      refine wd_one <| w_if <| et_cmp <| nl 3 rfl rfl rfl <| ed_non <| not_non ⟨fun e => (nomatch e), fun _ => wd_nil ⟨some (false, .str ⟨#[c]⟩), ?_⟩⟩
      rw [hstep]; rfl
    | some u =>
      rw [ho] at hstep
      refine wd_one <| w_if <| et_cmp <| nl 3 rfl rfl rfl <| ed_non <| not_non ⟨fun _ => ?_, fun e => (nomatch e)⟩
      refine wd_one <| asg 3 nd rfl rfl <| ed_dget1 (fld T.kGrammar T.nGrammar_kept_by <| nl 0 rfl rfl rfl ⟨rfl, rfl, rfl, ed_tup <| ea_cons <| nl 3 rfl rfl rfl <| ea_cons <| nl 4 rfl rfl rfl <| ea_nil ⟨(by show 2 ≤ sizeLine; decide), _, gT (byD_val u c g.ways), some (false, .str ⟨#[c]⟩), ?_⟩⟩) (hu_of hr)
      rw [hstep]
      have : ((stepK g.ways u c).map intD).getD .non = optI (stepO g.ways (some u) c) := by
        show _ = optI (stepK g.ways u c)
        cases stepK g.ways u c <;> rfl
      rw [this]; rfl
  · subst e
    rw [List.length_map, signs_length, show z.cps.size = (tl z).length from (Array.length_toList).symm, List.take_length]
    exact wd_one <| w_ret <| nl 3 rfl rfl rfl h
end
end Lw

namespace Lw
open PySem L2 DL TL
section
variable {P : Program} {w : World} {K : PySem.W.Frag} {mg : Str → Option Value} {base : Heap}
def phGtells (K : PySem.W.Frag) : Ph := fun ds rt _ => ∃ (g : Gram) (z : Str), ds = [graD K g, .str z] ∧ g.Ok ∧ z.length ≤ 100000 ∧ rt false (.bl (tellsL g (tl z)))
theorem p_Grammar_tells (T : Txt K mg) : FnD P w K mg base 4 (He.fAd K ("Grammar", some "tells")) 2 (phGtells K) := mkGrammar_tells T fun cdv A outer s H E hr ds rt xs hφ hl => by
  obtain ⟨g, z, rfl, hg, hz, h⟩ := hφ
  have nd := scGrammar_tells.nd
  refine wd_cons <| asg 2 nd rfl rfl <| meth T.kGrammar T.mGrammar_leads (p_Grammar_leads T) hr <| nl 0 rfl rfl rfl ⟨rfl, rfl, ea_cons <| ed_int <| ea_cons <| nl 1 rfl rfl rfl <| ea_nil ⟨rfl, g, 0, z, rfl, hg.m1, hz, ?_⟩⟩
  unfold tellsL at h
  cases ho : leadsL g.ways (some 0) (tl z) with
  | none =>
    rw [ho] at h
    exact wd_one <| w_ret <| ed_and <| ed_cmp <| nl 2 rfl rfl rfl <| ed_non <| not_non ⟨_, rfl, fun e => (nomatch e), fun _ => h⟩
  | some t =>
    rw [ho] at h
    refine wd_one <| w_ret <| ed_and <| ed_cmp <| nl 2 rfl rfl rfl <| ed_non <| not_non ⟨_, rfl, fun _ => ?_, fun e => (nomatch e)⟩
    refine ed_one <| ed_cmp <| nl 2 rfl rfl rfl <| fld T.kGrammar T.nGrammar_kept_ends <| nl 0 rfl rfl rfl ⟨rfl, rfl, in_dl rfl (flat_nats _) ?_⟩
    have : in4 (optI (some t)) (g.ends.map intD) = decide (t ∈ g.ends) := in4_nats
    rw [this]; exact h
end
end Lw

namespace Lw
open PySem L2 DL TL
/-! ### nodes, steps, counts -/
abbrev Node := Nat × Option Str
def lastL : Option Str → Leaf
  | none => .none
  | some p => .text p
def nodeK (n : Node) : List Leaf := [.num (n.1 : Nat), lastL n.2]
def nodeD (n : Node) : D := .tup ((nodeK n).map lfD)
theorem nodeK_inj {a b : Node} (h : nodeK a = nodeK b) : a = b := by
  obtain ⟨a1, a2⟩ := a
  obtain ⟨b1, b2⟩ := b
  unfold nodeK at h
  injection h with h1 h2
  injection h1 with h1
  injection h2 with h2 _
  have e1 : a1 = b1 := by omega
  subst e1
  cases a2 <;> cases b2 <;> first | rfl | (cases h2; rfl) | cases h2
section
variable (s : Str) (rows : List Row) (g : Gram)
def nextP : Option Str → List Str
  | none => (pcs s rows).filter (aloneB rows)
  | some p => (pcs s rows).filter (fitB rows p)
def stepOf (st : Nat) (p : Str) : Option (Str × Node) := (leadsL g.ways (some st) (tl p)).map fun t => (p, (t, some p))
def steps (n : Node) : List (Str × Node) := (nextP s rows n.2).filterMap (stepOf g n.1)
def lasts : List (Option Str) := none :: ((pcs s rows).filter (aloneB rows)).map some
def nodesTo (k : Nat) : List Node := (List.range k).flatMap fun st => (lasts s rows).map fun l => (st, l)
def nodes : List Node := nodesTo s rows g.many
def stepD (q : Str × Node) : D := .tup [.str q.1, nodeD q.2]
def stepsD (ns : List Node) : List (List Leaf × D) := ns.map fun n => (nodeK n, .lst ((steps s rows g n).map stepD))
def cntF : Nat → Nat → Node → Nat
  | _, 0, n => if n.1 ∈ g.ends then 1 else 0
  | 0, _ + 1, _ => 0
  | f + 1, l + 1, n => ((steps s rows g n).map fun q => if q.1.length ≤ l + 1 then cntF f (l + 1 - q.1.length) q.2 else 0).sum
def cnt (l : Nat) (n : Node) : Nat := cntF s rows g l l n
def dictN (ns : List Node) (l : Nat) : List (List Leaf × D) := (ns.filter fun n => decide (0 < cnt s rows g l n)).map fun n => (nodeK n, intD (cnt s rows g l n))
end
theorem mapN_val {f : Node → D} {n : Node} : ∀ {ns : List Node}, valD (ns.map fun n => (nodeK n, f n)) (nodeK n) = if n ∈ ns then some (f n) else none
  | [] => rfl
  | m :: t => by
    have ih := mapN_val (f := f) (n := n) (ns := t)
    unfold valD at ih ⊢
    rw [List.map_cons]
    by_cases e : m = n
    · subst e
      rw [List.find?_cons_of_pos (by simp)]
      simp
    · have ek : ¬ nodeK m = nodeK n := fun z => e (nodeK_inj z)
      rw [List.find?_cons_of_neg (by simpa using ek), ih]
      have e' : ¬ n = m := fun z => e z.symm
      simp [e']
section
variable {s : Str} {rows : List Row} {g : Gram}
theorem dictN_val {ns : List Node} {l : Nat} {n : Node} (h : n ∈ ns) : (valD (dictN s rows g ns l) (nodeK n)).getD (intD 0) = intD (cnt s rows g l n) := by
  unfold dictN
  rw [mapN_val]
  by_cases h0 : 0 < cnt s rows g l n
  · rw [if_pos (List.mem_filter.mpr ⟨h, decide_eq_true h0⟩)]; rfl
  · have hn : n ∉ ns.filter fun n => decide (0 < cnt s rows g l n) := fun z => h0 (of_decide_eq_true (List.mem_filter.mp z).2)
    rw [if_neg hn, Nat.eq_zero_of_not_pos h0]; rfl
theorem lasts_nodup (hT : tabErr s rows = none) : (lasts s rows).Nodup := by
  unfold lasts
  refine List.nodup_cons.mpr ⟨fun h => ?_, ?_⟩
  · obtain ⟨p, _, e⟩ := List.mem_map.mp h
    cases e
  · unfold List.Nodup
    rw [List.pairwise_map]
    exact ((pcs_nodup hT).filter _).imp fun h e => h (Option.some.inj e)
theorem nodesTo_succ (s : Str) (rows : List Row) (k : Nat) : nodesTo s rows (k + 1) = nodesTo s rows k ++ (lasts s rows).map fun l => (k, l) := by
  unfold nodesTo
  rw [List.range_succ, List.flatMap_append]
  simp
theorem nodesTo_mem {k : Nat} {n : Node} : n ∈ nodesTo s rows k ↔ n.1 < k ∧ n.2 ∈ lasts s rows := by
  unfold nodesTo
  rw [List.mem_flatMap]
  refine ⟨fun ⟨st, h1, h2⟩ => ?_, fun ⟨h1, h2⟩ => ⟨n.1, List.mem_range.mpr h1, List.mem_map.mpr ⟨n.2, h2, rfl⟩⟩⟩
  obtain ⟨l, hl, rfl⟩ := List.mem_map.mp h2
  exact ⟨List.mem_range.mp h1, hl⟩
theorem nodesTo_len (s : Str) (rows : List Row) (k : Nat) : (nodesTo s rows k).length = k * (lasts s rows).length := by
  induction k with
  | zero => simp [nodesTo]
  | succ k ih => rw [nodesTo_succ, List.length_append, ih, List.length_map, Nat.succ_mul]
theorem lasts_len (hT : tabErr s rows = none) : (lasts s rows).length ≤ 37 := by
  unfold lasts
  rw [List.length_cons, List.length_map]
  have := List.length_filter_le (aloneB rows) (pcs s rows)
  have := (tab_small hT).2.2
  omega
theorem nodes_small (hT : tabErr s rows = none) (hg : g.Ok) : (nodes s rows g).length ≤ 148 := by
  unfold nodes
  rw [nodesTo_len]
  exact Nat.mul_le_mul hg.m4 (lasts_len hT)
theorem nextP_mem {l : Option Str} {p : Str} (hT : tabErr s rows = none) (hl : l ∈ lasts s rows) (h : p ∈ nextP s rows l) : p ∈ pcs s rows ∧ Alone rows p := by
  cases l with
  | none =>
    have := List.mem_filter.mp h
    exact ⟨this.1, aloneB_iff.mp this.2⟩
  | some q =>
    have h := List.mem_filter.mp h
    have hq : q ∈ pcs s rows := by
      unfold lasts at hl
      rcases List.mem_cons.mp hl with e | e
      · cases e
      · obtain ⟨z, hz, e⟩ := List.mem_map.mp e
        cases e
        exact (List.mem_filter.mp hz).1
    exact ⟨h.1, ((fit_iff (tab_pos hT) (pcs_pos hT q hq) (pcs_pos hT p h.1)).mp h.2).2.1⟩
theorem steps_mem {n : Node} {q : Str × Node} (hT : tabErr s rows = none) (hg : g.Ok) (hn : n ∈ nodes s rows g) (h : q ∈ steps s rows g n) : q.1 ∈ pcs s rows ∧ Alone rows q.1 ∧ q.2 ∈ nodes s rows g ∧ q.2.2 = some q.1 ∧ leadsL g.ways (some n.1) (tl q.1) = some q.2.1 ∧ q.1 ∈ nextP s rows n.2 := by
  obtain ⟨h1, h2⟩ := nodesTo_mem.mp hn
  unfold steps at h
  obtain ⟨p, hp, hs⟩ := List.mem_filterMap.mp h
  unfold stepOf at hs
  obtain ⟨t, ht, rfl⟩ := Option.map_eq_some_iff.mp hs
  obtain ⟨m1, m2⟩ := nextP_mem hT h2 hp
  refine ⟨m1, m2, nodesTo_mem.mpr ⟨leadsL_lt hg (fun z e => by cases e; exact h1) ht, ?_⟩, rfl, ht, hp⟩
  exact List.mem_cons_of_mem _ (List.mem_map.mpr ⟨p, List.mem_filter.mpr ⟨m1, aloneB_iff.mpr m2⟩, rfl⟩)
theorem steps_len (hT : tabErr s rows = none) (n : Node) : (steps s rows g n).length ≤ 36 := by
  unfold steps
  have h1 := List.length_filterMap_le (stepOf g n.1) (nextP s rows n.2)
  have h2 : (nextP s rows n.2).length ≤ (pcs s rows).length := by
    unfold nextP
    cases n.2 <;> exact List.length_filter_le _ _
  have := (tab_small hT).2.2
  omega
theorem cntF_more (hT : tabErr s rows = none) (hg : g.Ok) : ∀ (f l : Nat) (n : Node), n ∈ nodes s rows g → l ≤ f → cntF s rows g f l n = cnt s rows g l n := by
  intro f
  induction f using Nat.strongRecOn with
  | ind f ih =>
    intro l n hn hl
    cases l with
    | zero => unfold cnt cntF; cases f <;> rfl
    | succ l =>
      obtain ⟨f, rfl⟩ : ∃ f', f = f' + 1 := ⟨f - 1, by omega⟩
      unfold cnt
      show ((steps s rows g n).map fun q => if q.1.length ≤ l + 1 then cntF s rows g f (l + 1 - q.1.length) q.2 else 0).sum = ((steps s rows g n).map fun q => if q.1.length ≤ l + 1 then cntF s rows g l (l + 1 - q.1.length) q.2 else 0).sum
      congr 1
      refine List.map_congr_left fun q hq => ?_
      obtain ⟨m1, _, m3, _⟩ := steps_mem hT hg hn hq
      have hp := pcs_pos hT _ m1
      split
      · rw [ih f (by omega) _ _ m3 (by omega)]
        by_cases e : l = f
        · subst e
          rw [ih l (by omega) _ _ m3 (by omega)]
        · rw [ih l (by omega) _ _ m3 (by omega)]
      · rfl
theorem cnt_succ (hT : tabErr s rows = none) (hg : g.Ok) {l : Nat} {n : Node} (hn : n ∈ nodes s rows g) : cnt s rows g (l + 1) n = ((steps s rows g n).map fun q => if q.1.length ≤ l + 1 then cnt s rows g (l + 1 - q.1.length) q.2 else 0).sum := by
  unfold cnt
  show ((steps s rows g n).map fun q => if q.1.length ≤ l + 1 then cntF s rows g l (l + 1 - q.1.length) q.2 else 0).sum = _
  congr 1
  refine List.map_congr_left fun q hq => ?_
  obtain ⟨m1, _, m3, _⟩ := steps_mem hT hg hn hq
  have hp := pcs_pos hT _ m1
  split
  · rw [cntF_more hT hg l _ _ m3 (by omega)]; rfl
  · rfl
end
end Lw

namespace Lw
open PySem L2 DL TL
/-! ### steps_behind, all_steps, ways_by_signs, how_many -/
section
variable {P : Program} {w : World} {K : PySem.W.Frag} {mg : Str → Option Value} {base : Heap}
def phSteps (K : PySem.W.Frag) : Ph := fun ds rt _ => ∃ (s : Str) (rows : List Row) (g : Gram) (n : Node), ds = [folD K s rows, graD K g, nodeD n] ∧ tabErr s rows = none ∧ g.Ok ∧ n ∈ nodes s rows g ∧ rt true (.lst ((steps s rows g n).map stepD))
theorem p_steps_behind (T : Txt K mg) : FnD P w K mg base 8 (He.fAd K ("steps_behind", none)) 3 (phSteps K) := mksteps_behind T fun cdv A outer s H E hr ds rt xs hφ hl => by
  obtain ⟨sg, rows, g, ⟨st, l⟩, rfl, hT, hg, hn, h⟩ := hφ
  have nd := scsteps_behind.nd
  have big : (2000 : Nat) ≤ sizeLine := by decide
  obtain ⟨n1, n2⟩ := nodesTo_mem.mp hn
  have n1 : st < g.many := n1
  have n2 : l ∈ lasts sg rows := n2
  have hle : (nextP sg rows l).length ≤ 36 := by
    have : (nextP sg rows l).length ≤ (pcs sg rows).length := by unfold nextP; cases l <;> exact List.length_filter_le _ _
    have := (tab_small hT).2.2
    omega
  refine wd_cons <| w_asgT <| nl 2 rfl rfl rfl <| td_two rfl <| td_name (i := 3) nd rfl (.inl rfl) <| td_name (i := 4) nd rfl (.inl rfl) ?_
  refine wd_cons <| asg 5 nd rfl rfl <| meth0 T.kFollows T.mFollows_alone (p_Follows_alone T) (hr.mono (by decide)) <| nl 0 rfl rfl rfl ⟨rfl, rfl, sg, rows, rfl, hT, ?_⟩
  refine wd_seq (fun Γ' => Γ' = [some (false, folD K sg rows), some (false, graD K g), some (false, nodeD (st, l)), some (false, intD st), some (false, lfD (lastL l)), some (true, .lst ((nextP sg rows l).map D.str)), none, none, none]) ?_ (fun Γ' e => ?_)
  · cases l with
    | none => exact w_if <| et_cmp <| nl 4 rfl rfl rfl <| ed_non <| not_non ⟨fun e => (nomatch e), fun _ => wd_nil rfl⟩
    | some p =>
      have hp : p ∈ pcs sg rows := by
        unfold lasts at n2
        rcases List.mem_cons.mp n2 with e | e
        · cases e
        · obtain ⟨z, hz, e⟩ := List.mem_map.mp e
          cases e
          exact (List.mem_filter.mp hz).1
      refine w_if <| et_cmp <| nl 4 rfl rfl rfl <| ed_non <| not_non ⟨fun _ => ?_, fun e => (nomatch e)⟩
      exact wd_one <| asg 5 nd rfl rfl <| meth T.kFollows T.mFollows_after (p_Follows_after T) (hr.mono (by decide)) <| nl 0 rfl rfl rfl ⟨rfl, rfl, ea_cons <| nl 4 rfl rfl rfl <| ea_nil ⟨rfl, sg, rows, p, rfl, hT, hp, rfl⟩⟩
  · subst e
    refine wd_know 5 rfl <| wd_cons <| asg 6 nd rfl rfl <| ed_lst <| ea_nil ⟨by decide, ?_⟩
    refine wd_cons <| w_for rfl <| ei_list <| nl 5 rfl rfl rfl <| .inl ⟨_, rfl, fun i Γ => ∃ o7 o8 : Option (Bool × D), Γ = [some (false, folD K sg rows), some (false, graD K g), some (false, nodeD (st, l)), some (false, intD st), some (false, lfD (lastL l)), some (false, .lst ((nextP sg rows l).map D.str)), some (true, .lst ((((nextP sg rows l).take i).filterMap (stepOf g st)).map stepD)), o7, o8],
      ⟨none, none, rfl⟩, fun i d Γ' hd ⟨o7, o8, e⟩ => ?_, fun Γ' ⟨o7, o8, e⟩ => ?_⟩
    · subst e
      obtain ⟨p, hp, rfl⟩ := map_get hd
      have h16 := pcs_len hT p (nextP_mem hT n2 (List.mem_of_getElem? hp)).1
      refine td_name (i := 7) nd rfl (.inl rfl) ?_
      refine wd_cons <| asg 8 nd rfl rfl <| meth T.kGrammar T.mGrammar_leads (p_Grammar_leads T) (hr.mono (by decide)) <| nl 1 rfl rfl rfl ⟨rfl, rfl, ea_cons <| nl 3 rfl rfl rfl <| ea_cons <| nl 7 rfl rfl rfl <| ea_nil ⟨rfl, g, st, p, rfl, n1, by omega, ?_⟩⟩
      have hlen : (((nextP sg rows l).take i).filterMap (stepOf g st)).length < sizeLine := by
        have := List.length_filterMap_le (stepOf g st) ((nextP sg rows l).take i)
        rw [List.length_take] at this
        omega
      have hfm : ((nextP sg rows l).take (i + 1)).filterMap (stepOf g st) = ((nextP sg rows l).take i).filterMap (stepOf g st) ++ [p].filterMap (stepOf g st) := by
        rw [take_succ hp, List.filterMap_append]
      cases ho : leadsL g.ways (some st) (tl p) with
      | none =>
        have e : stepOf g st p = none := by unfold stepOf; rw [ho]; rfl
        refine wd_one <| w_if <| et_cmp <| nl 8 rfl rfl rfl <| ed_non <| not_non ⟨fun e => (nomatch e), fun _ => wd_nil ⟨some (false, .str p), some (false, .non), ?_⟩⟩
        rw [hfm, List.filterMap_cons_none e, List.filterMap_nil, List.append_nil]; rfl
      | some t =>
        have e : stepOf g st p = some (p, (t, some p)) := by unfold stepOf; rw [ho]; rfl
        refine wd_one <| w_if <| et_cmp <| nl 8 rfl rfl rfl <| ed_non <| not_non ⟨fun _ => ?_, fun e => (nomatch e)⟩
        refine wd_one <| app 6 rfl (.inl rfl) rfl <| ed_tup <| ea_cons <| nl 7 rfl rfl rfl <| ea_cons <| ed_tup <| ea_cons <| nl 8 rfl rfl rfl <| ea_cons <| nl 7 rfl rfl rfl <| ea_nil ⟨(by show 2 ≤ sizeLine; decide), ea_nil ⟨(by show 2 ≤ sizeLine; decide), by rw [List.length_map]; exact hlen, some (false, .str p), some (false, intD t), ?_⟩⟩
        rw [hfm, List.filterMap_cons_some e, List.filterMap_nil, List.map_append]; rfl
    · subst e
      rw [List.length_map, List.take_length]
      exact wd_one <| w_retO (i := 6) rfl (.inl rfl) rfl rfl h
def phAllSteps (w : World) (K : PySem.W.Frag) : Ph := fun ds rt _ => ∃ (s : Str) (rows : List Row) (g : Gram), ds = [folD K s rows, graD K g] ∧ tabErr s rows = none ∧ g.Ok ∧ rt false (.dN w true (stepsD s rows g (nodes s rows g)))
theorem nonStr (ps : List Str) : D.non :: ps.map D.str = ((none :: ps.map some : List (Option Str)).map fun o => lfD (lastL o)) := by
  rw [List.map_cons, List.map_map]; rfl
theorem p_all_steps (T : Txt K mg) : FnD P w K mg base 9 (He.fAd K ("all_steps", none)) 2 (phAllSteps w K) := mkall_steps T fun cdv A outer s H E hr ds rt xs hφ hl => by
  obtain ⟨sg, rows, g, rfl, hT, hg, h⟩ := hφ
  have nd := scall_steps.nd
  have big : (2000 : Nat) ≤ sizeLine := by decide
  have hsm := nodes_small hT hg
  have hll := lasts_len hT (rows := rows)
  have m4 := hg.m4
  have hu : (bodyX P w K mg base Nall_steps "all_steps" sall_steps (He.fAd K ("all_steps", none)) cdv A outer s H E).A.units + 1 < cLine := hu_of hr
  have lnd := lasts_nodup hT (rows := rows)
  refine wd_cons <| asg 2 nd rfl rfl <| ed_dnewN ?_
  refine wd_cons <| w_for rfl <| rg1 T.zrange <| meth0 T.kGrammar T.mGrammar_many (p_Grammar_many T) (hr.mono (by decide)) <| nl 1 rfl rfl rfl ⟨rfl, rfl, g, rfl, _, rfl, by omega, by omega, fun i Γ => ∃ o3 o4 : Option (Bool × D), Γ = [some (false, folD K sg rows), some (false, graD K g), some (true, .dN w false (stepsD sg rows g (nodesTo sg rows i))), o3, o4],
    ⟨none, none, rfl⟩, fun i d Γ' hd ⟨o3, o4, e⟩ => ?_, fun Γ' ⟨o3, o4, e⟩ => ?_⟩
  · subst e
    obtain ⟨hi, rfl⟩ := rangeD_get hd
    have hi : i < g.many := by omega
    rw [Int.zero_add]
    refine td_name (i := 3) nd rfl (.inl rfl) ?_
    refine wd_one <| w_for rfl <| ei_list <| ed_bin <| ed_lst <| ea_cons <| ed_non <| ea_nil ⟨(by show 1 ≤ sizeLine; decide), meth0 T.kFollows T.mFollows_alone (p_Follows_alone T) (hr.mono (by decide)) <| nl 0 rfl rfl rfl ⟨rfl, rfl, sg, rows, rfl, hT, add_ll ?_ ?_⟩⟩
    · rw [List.length_map]
      have := List.length_filter_le (aloneB rows) (pcs sg rows)
      have := (tab_small hT).2.2
      show 1 + _ ≤ sizeLine
      omega
    rw [show [D.non] ++ ((pcs sg rows).filter (aloneB rows)).map D.str = ((lasts sg rows).map fun o => lfD (lastL o)) from nonStr _]
    refine .inl ⟨_, rfl, fun j Γ => ∃ o4 : Option (Bool × D), Γ = [some (false, folD K sg rows), some (false, graD K g), some (true, .dN w false (stepsD sg rows g (nodesTo sg rows i ++ ((lasts sg rows).take j).map fun l => (i, l)))), some (false, intD i), o4],
      ⟨o4, by rw [List.take_zero, List.map_nil, List.append_nil]; rfl⟩, fun j d Γ' hd ⟨o4, e⟩ => ?_, fun Γ' ⟨o4, e⟩ => ?_⟩
    · subst e
      obtain ⟨l, hj, rfl⟩ := map_get hd
      have hjl := (List.getElem?_eq_some_iff.mp hj).1
      have hmem : (i, l) ∈ nodes sg rows g := nodesTo_mem.mpr ⟨hi, List.mem_of_getElem? hj⟩
      refine td_name (i := 4) nd rfl (.inl rfl) ?_
      refine wd_one <| w_nput 2 rfl (.inl rfl) rfl (call_ (p_steps_behind T) hr T.gsteps_behind <| ea_cons <| nl 0 rfl rfl rfl <| ea_cons <| nl 1 rfl rfl rfl <| ea_cons <| ed_tup <| ea_cons <| nl 3 rfl rfl rfl <| ea_cons <| nl 4 rfl rfl rfl <| ea_nil ⟨(by show 2 ≤ sizeLine; decide), ea_nil ⟨rfl, sg, rows, g, (i, l), rfl, hT, hg, hmem, ed_tup <| ea_cons <| nl 3 rfl rfl rfl <| ea_cons <| nl 4 rfl rfl rfl <| ea_nil ⟨(by show 2 ≤ sizeLine; decide), nodeK (i, l), rfl, ?_, some (false, lfD (lastL l)), ?_⟩⟩⟩) hu
      · unfold stepsD
        rw [List.length_map, List.length_append, nodesTo_len, List.length_map, List.length_take]
        have : i * (lasts sg rows).length ≤ 4 * 37 := Nat.mul_le_mul (by omega) hll
        omega
      · have hnew : valD (stepsD sg rows g (nodesTo sg rows i ++ ((lasts sg rows).take j).map fun l => (i, l))) (nodeK (i, l)) = none := by
          unfold stepsD
          rw [mapN_val, if_neg]
          intro hm
          rcases List.mem_append.mp hm with hm | hm
          · have := (nodesTo_mem.mp hm).1
            exact Nat.lt_irrefl _ this
          · obtain ⟨l', hl', e⟩ := List.mem_map.mp hm
            have e : l' = l := by injection e
            subst e
            have nd2 : ((lasts sg rows).take (j + 1)).Nodup := lnd.sublist (List.take_sublist _ _)
            rw [take_succ hj] at nd2
            exact (List.nodup_append.mp nd2).2.2 _ hl' _ (List.mem_singleton.mpr rfl) rfl
        rw [putD_new hnew, take_succ hj, List.map_append, ← List.append_assoc]
        unfold stepsD
        rw [List.map_append (l₁ := nodesTo sg rows i ++ _)]
        rfl
    · subst e
      rw [List.length_map, List.take_length]
      exact ⟨some (false, intD i), o4, by rw [nodesTo_succ]⟩
  · subst e
    rw [rangeD_length, show (((g.many : Nat) : Int)).toNat = g.many by omega]
    exact wd_frzN 2 rfl <| wd_one <| w_ret <| nl 2 rfl rfl rfl h
def sumTo (s : Str) (rows : List Row) (g : Gram) (l : Nat) (qs : List (Str × Node)) : Nat := (qs.map fun q => if q.1.length ≤ l + 1 then cnt s rows g (l + 1 - q.1.length) q.2 else 0).sum
def befD (w : World) (s : Str) (rows : List Row) (g : Gram) (k : Nat) : List D := (List.range k).map fun l => .dN w false (dictN s rows g (nodes s rows g) l)
def phManyFrom (w : World) (K : PySem.W.Frag) : Ph := fun ds rt _ => ∃ (s : Str) (rows : List Row) (g : Gram) (l : Nat) (n : Node), ds = [.lst (befD w s rows g (l + 1)), .dN w true (stepsD s rows g (nodes s rows g)), .int ((l + 1 : Nat) : Int), nodeD n] ∧ tabErr s rows = none ∧ g.Ok ∧ n ∈ nodes s rows g ∧ rt false (intD (cnt s rows g (l + 1) n))
theorem p_many_from (T : Txt K mg) : FnD P w K mg base 2 (He.fAd K ("many_from", none)) 4 (phManyFrom w K) := mkmany_from T fun cdv A outer s H E hr ds rt xs hφ hl => by
  obtain ⟨sg, rows, g, l, n, rfl, hT, hg, hn, h⟩ := hφ
  have nd := scmany_from.nd
  have big : (2000 : Nat) ≤ sizeLine := by decide
  have hu : (bodyX P w K mg base Nmany_from "many_from" smany_from (He.fAd K ("many_from", none)) cdv A outer s H E).A.units + 1 < cLine := hu_of hr
  have hv : valD (stepsD sg rows g (nodes sg rows g)) (nodeK n) = some (.lst ((steps sg rows g n).map stepD)) := by
    unfold stepsD; rw [mapN_val, if_pos hn]
  refine wd_cons <| asg 4 nd rfl rfl <| ed_int ?_
  refine wd_cons <| w_for rfl <| ei_list <| ed_nget (nl 1 rfl rfl rfl <| nl 3 rfl rfl rfl ⟨_, _, nodeK n, _, rfl, rfl, hv, .inl ⟨_, rfl, fun i Γ => ∃ o5 o6 : Option (Bool × D), Γ = [some (false, .lst (befD w sg rows g (l + 1))), some (false, .dN w true (stepsD sg rows g (nodes sg rows g))), some (false, .int ((l + 1 : Nat) : Int)), some (false, nodeD n), some (false, intD (sumTo sg rows g l ((steps sg rows g n).take i))), o5, o6],
    ⟨none, none, rfl⟩, fun i d Γ' hd ⟨o5, o6, e⟩ => ?_, fun Γ' ⟨o5, o6, e⟩ => ?_⟩⟩) hu
  · subst e
    obtain ⟨q, hq, rfl⟩ := map_get hd
    obtain ⟨m1, _, m3, _⟩ := steps_mem hT hg hn (List.mem_of_getElem? hq)
    have h16 := pcs_len hT _ m1
    have h1 := pcs_pos hT _ m1
    have hsum : sumTo sg rows g l ((steps sg rows g n).take (i + 1)) = sumTo sg rows g l ((steps sg rows g n).take i) + if q.1.length ≤ l + 1 then cnt sg rows g (l + 1 - q.1.length) q.2 else 0 := by
      unfold sumTo
      rw [take_succ hq, List.map_append, List.sum_append]
      simp
    refine td_two rfl <| td_name (i := 5) nd rfl (.inl rfl) <| td_name (i := 6) nd rfl (.inl rfl) ?_
    refine wd_one <| w_if <| et_cmp <| len_ T.zlen <| nl 5 rfl rfl rfl ⟨_, len_str (by omega), nl 2 rfl rfl rfl <| le_ii ⟨fun e => ?_, fun e => ?_⟩⟩
    · have e := of_decide_eq_true e
      have hle : q.1.length ≤ l + 1 := by omega
      have hat : L2.atI (befD w sg rows g (l + 1)) (((l + 1 : Nat) : Int) - ((q.1.length : Nat) : Int)) = some (.dN w false (dictN sg rows g (nodes sg rows g) (l + 1 - q.1.length))) := by
        rw [show ((l + 1 : Nat) : Int) - ((q.1.length : Nat) : Int) = ((l + 1 - q.1.length : Nat) : Int) by omega]
        refine at_nat ?_
        unfold befD
        rw [List.getElem?_map, List.getElem?_range (by omega)]; rfl
      refine wd_one <| w_augAdd nd rfl (.inl rfl) rfl (i := 4) (ed_nget2 (ed_ix <| nl 0 rfl rfl rfl <| ed_bin <| nl 2 rfl rfl rfl <| len_ T.zlen <| nl 5 rfl rfl rfl ⟨_, len_str (by omega), sub_ii <| ix_lst hat ⟨_, _, rfl, nl 6 rfl rfl rfl ⟨nodeK q.2, rfl, ed_int ?_⟩⟩⟩) hu)
      rw [show D.int 0 = intD 0 from rfl, dictN_val m3]
      refine ⟨_, rfl, some (false, .str q.1), some (false, nodeD q.2), ?_⟩
      rw [hsum, if_pos hle]
      show [_, _, _, _, some (false, D.int (((sumTo sg rows g l ((steps sg rows g n).take i) : Nat) : Int) + ((cnt sg rows g (l + 1 - q.1.length) q.2 : Nat) : Int))), _, _] = _
      rw [← Int.natCast_add]; rfl
    · have e := of_decide_eq_false e
      refine wd_nil ⟨some (false, .str q.1), some (false, nodeD q.2), ?_⟩
      rw [hsum, if_neg (by omega), Nat.add_zero]; rfl
  · subst e
    rw [List.length_map, List.take_length]
    rw [cnt_succ hT hg hn] at h
    exact wd_one <| w_ret <| nl 4 rfl rfl rfl h
theorem dictN_snoc (s : Str) (rows : List Row) (g : Gram) (l : Nat) (ns : List Node) (n : Node) : dictN s rows g (ns ++ [n]) l = dictN s rows g ns l ++ (if 0 < cnt s rows g l n then [(nodeK n, intD (cnt s rows g l n))] else []) := by
  unfold dictN
  rw [List.filter_append, List.map_append]
  congr 1
  by_cases h : 0 < cnt s rows g l n
  · rw [if_pos h, List.filter_cons_of_pos (p := fun n => decide (0 < cnt s rows g l n)) (decide_eq_true h)]; rfl
  · rw [if_neg h, List.filter_cons_of_neg (p := fun n => decide (0 < cnt s rows g l n)) (by simpa using h)]; rfl
theorem dictN_len (s : Str) (rows : List Row) (g : Gram) (l : Nat) (ns : List Node) : (dictN s rows g ns l).length ≤ ns.length := by
  unfold dictN; rw [List.length_map]; exact List.length_filter_le _ _
theorem dictN_new {s : Str} {rows : List Row} {g : Gram} {l : Nat} {ns : List Node} {n : Node} (h : n ∉ ns) : valD (dictN s rows g ns l) (nodeK n) = none := by
  unfold dictN
  rw [mapN_val, if_neg]
  intro z
  exact h (List.mem_filter.mp z).1
theorem nodes_nodup {s : Str} {rows : List Row} {g : Gram} (hT : tabErr s rows = none) : (nodes s rows g).Nodup := by
  unfold nodes
  generalize g.many = k
  induction k with
  | zero => exact List.nodup_nil
  | succ k ih =>
    rw [nodesTo_succ]
    refine List.nodup_append.mpr ⟨ih, ?_, fun a ha b hb e => ?_⟩
    · unfold List.Nodup
      rw [List.pairwise_map]
      exact (lasts_nodup hT).imp fun h e => h (by injection e)
    · obtain ⟨l, _, rfl⟩ := List.mem_map.mp hb
      subst e
      have := (nodesTo_mem.mp ha).1
      exact Nat.lt_irrefl _ this
theorem take_new {α : Type} {l : List α} {i : Nat} {x : α} (nd : l.Nodup) (h : l[i]? = some x) : x ∉ l.take i := fun hm => by
  have nd2 : (l.take (i + 1)).Nodup := nd.sublist (List.take_sublist _ _)
  rw [take_succ h] at nd2
  exact (List.nodup_append.mp nd2).2.2 _ hm _ (List.mem_singleton.mpr rfl) rfl
theorem keysN_map {f : Node → D} (ns : List Node) : keysN (ns.map fun n => (nodeK n, f n)) = ns.map nodeD := by
  unfold keysN
  rw [List.map_map]; rfl
theorem befD_succ (w : World) (s : Str) (rows : List Row) (g : Gram) (k : Nat) : befD w s rows g (k + 1) = befD w s rows g k ++ [.dN w false (dictN s rows g (nodes s rows g) k)] := by
  unfold befD; rw [List.range_succ, List.map_append]; rfl
theorem befD_len (w : World) (s : Str) (rows : List Row) (g : Gram) (k : Nat) : (befD w s rows g k).length = k := by unfold befD; rw [List.length_map, List.length_range]
theorem cnt_zero (s : Str) (rows : List Row) (g : Gram) (n : Node) : cnt s rows g 0 n = if n.1 ∈ g.ends then 1 else 0 := rfl
def phWays (w : World) (K : PySem.W.Frag) : Ph := fun ds rt _ => ∃ (s : Str) (rows : List Row) (g : Gram) (k : Nat), ds = [graD K g, .dN w true (stepsD s rows g (nodes s rows g)), intD k] ∧ tabErr s rows = none ∧ g.Ok ∧ k ≤ 1000 ∧ rt true (.lst (befD w s rows g (k + 1)))
theorem p_ways_by_signs (T : Txt K mg) : FnD P w K mg base 3 (He.fAd K ("ways_by_signs", none)) 3 (phWays w K) := mkways_by_signs T fun cdv A outer s H E hr ds rt xs hφ hl => by
  obtain ⟨sg, rows, g, k, rfl, hT, hg, hk, h⟩ := hφ
  have nd := scways_by_signs.nd
  have big : (2000 : Nat) ≤ sizeLine := by decide
  have hu : (bodyX P w K mg base Nways_by_signs "ways_by_signs" sways_by_signs (He.fAd K ("ways_by_signs", none)) cdv A outer s H E).A.units + 1 < cLine := hu_of hr
  have hsm := nodes_small hT hg
  have nnd := nodes_nodup hT (g := g) (rows := rows)
  refine wd_cons <| asg 3 nd rfl rfl <| meth0 T.kGrammar T.mGrammar_ends (p_Grammar_ends T) (hr.mono (by decide)) <| nl 0 rfl rfl rfl ⟨rfl, rfl, g, rfl, ?_⟩
  refine wd_know 3 rfl <| wd_asgND 4 9 nd rfl (.inl rfl) rfl (not_vis rfl) (by decide) fun q => ?_
  refine wd_cons <| w_for rfl <| ei_keysN <| nl 1 rfl rfl rfl ⟨_, rfl, fun i Γ => ∃ o5 : Option (Bool × D), Γ = [some (false, graD K g), some (false, .dN w true (stepsD sg rows g (nodes sg rows g))), some (false, intD k), some (false, .lst (g.ends.map intD)), some (true, .lst [.ref q]), o5, none, none, none, some (true, .adr q (.dN w false (dictN sg rows g ((nodes sg rows g).take i) 0)))],
    ⟨none, rfl⟩, fun i d Γ' hd ⟨o5, e⟩ => ?_, fun Γ' ⟨o5, e⟩ => ?_⟩
  · subst e
    unfold stepsD at hd
    rw [keysN_map] at hd
    obtain ⟨n, hn, rfl⟩ := map_get hd
    have hsn := dictN_snoc sg rows g 0 ((nodes sg rows g).take i) n
    refine td_name (i := 5) nd rfl (.inl rfl) ?_
    refine wd_one <| w_if <| et_cmp <| ed_ix <| nl 5 rfl rfl rfl <| ed_int <| ix_tup rfl <| nl 3 rfl rfl rfl <| in_dl rfl (flat_nats _) ?_
    rw [show in4 (lfD (.num (n.1 : Nat))) (g.ends.map intD) = decide (n.1 ∈ g.ends) from in4_nats]
    refine ⟨fun e => ?_, fun e => ?_⟩
    · have e := of_decide_eq_true e
      have hc : cnt sg rows g 0 n = 1 := by rw [cnt_zero, if_pos e]
      rw [hc, if_pos (by decide)] at hsn
      refine wd_one <| w_nputG 9 rfl (ed_int <| ed_flat <| ed_ix <| nl 4 rfl rfl rfl <| ed_int <| ix_lst rfl ⟨rfl, rfl, nl 5 rfl rfl rfl ⟨nodeK n, rfl, ?_, some (false, nodeD n), ?_⟩⟩) hu
      · have := dictN_len sg rows g 0 ((nodes sg rows g).take i)
        rw [List.length_take] at this
        omega
      · rw [putD_new (dictN_new (take_new nnd hn)), take_succ hn, hsn]; rfl
    · have e := of_decide_eq_false e
      have hc : cnt sg rows g 0 n = 0 := by rw [cnt_zero, if_neg e]
      rw [hc, if_neg (by decide), List.append_nil] at hsn
      exact wd_nil ⟨some (false, nodeD n), by rw [take_succ hn, hsn]; rfl⟩
  · subst e
    unfold stepsD
    rw [keysN_map, List.length_map, List.take_length]
    refine wd_know 9 rfl <| wd_linkL1 4 9 rfl rfl ?_
    refine wd_cons <| w_for rfl <| rg2 T.zrange <| ed_int <| ed_bin <| nl 2 rfl rfl rfl <| ed_int <| add_ii ⟨1, _, rfl, rfl, ⟨by decide, by decide, by omega, by omega⟩, fun i Γ => ∃ o5 o6 o7 o8 o9 : Option (Bool × D), Γ = [some (false, graD K g), some (false, .dN w true (stepsD sg rows g (nodes sg rows g))), some (false, intD k), some (false, .lst (g.ends.map intD)), some (true, .lst (befD w sg rows g (i + 1))), o5, o6, o7, o8, o9],
      ⟨o5, none, none, none, _, rfl⟩, fun i d Γ' hd ⟨o5, o6, o7, o8, o9, e⟩ => ?_, fun Γ' ⟨o5, o6, o7, o8, o9, e⟩ => ?_⟩
    · subst e
      obtain ⟨hi, rfl⟩ := rangeD_get hd
      rw [show (1 : Int) + (i : Int) = ((i + 1 : Nat) : Int) by omega]
      refine td_name (i := 6) nd rfl (.inl rfl) ?_
      refine wd_cons <| asg 7 nd rfl rfl <| ed_dnewN ?_
      refine wd_cons <| w_for rfl <| ei_keysN <| nl 1 rfl rfl rfl ⟨_, rfl, fun j Γ => ∃ o5 o8 : Option (Bool × D), Γ = [some (false, graD K g), some (false, .dN w true (stepsD sg rows g (nodes sg rows g))), some (false, intD k), some (false, .lst (g.ends.map intD)), some (true, .lst (befD w sg rows g (i + 1))), o5, some (false, .int ((i + 1 : Nat) : Int)), some (true, .dN w false (dictN sg rows g ((nodes sg rows g).take j) (i + 1))), o8, o9],
        ⟨o5, o8, rfl⟩, fun j d Γ' hd ⟨o5, o8, e⟩ => ?_, fun Γ' ⟨o5, o8, e⟩ => ?_⟩
      · subst e
        unfold stepsD at hd
        rw [keysN_map] at hd
        obtain ⟨n, hn, rfl⟩ := map_get hd
        have hsn := dictN_snoc sg rows g (i + 1) ((nodes sg rows g).take j) n
        refine td_name (i := 5) nd rfl (.inl rfl) ?_
        refine wd_cons <| asg 8 nd rfl rfl <| ed_flat <| call_ (p_many_from T) hr T.gmany_from <| ea_cons <| nl 4 rfl rfl rfl <| ea_cons <| nl 1 rfl rfl rfl <| ea_cons <| nl 6 rfl rfl rfl <| ea_cons <| nl 5 rfl rfl rfl <| ea_nil ⟨rfl, sg, rows, g, i, n, rfl, hT, hg, List.mem_of_getElem? hn, rfl, ?_⟩
        refine wd_one <| w_if <| et_cmp <| nl 8 rfl rfl rfl <| ed_int <| gt_ii ⟨fun e => ?_, fun e => ?_⟩
        · have e := of_decide_eq_true e
          rw [if_pos (by omega)] at hsn
          refine wd_one <| w_nput 7 rfl (.inl rfl) rfl (nl 8 rfl rfl rfl <| nl 5 rfl rfl rfl ⟨nodeK n, rfl, ?_, some (false, nodeD n), some (false, intD (cnt sg rows g (i + 1) n)), ?_⟩) hu
          · have := dictN_len sg rows g (i + 1) ((nodes sg rows g).take j)
            rw [List.length_take] at this
            omega
          · rw [putD_new (dictN_new (take_new nnd hn)), take_succ hn, hsn]; rfl
        · have e := of_decide_eq_false e
          rw [if_neg (by omega), List.append_nil] at hsn
          exact wd_nil ⟨some (false, nodeD n), some (false, intD (cnt sg rows g (i + 1) n)), by rw [take_succ hn, hsn]; rfl⟩
      · subst e
        unfold stepsD
        rw [keysN_map, List.length_map, List.take_length]
        refine wd_know 7 rfl <| wd_one <| app 4 rfl (.inl rfl) rfl <| nl 7 rfl rfl rfl ⟨by rw [befD_len]; omega, o5, some (false, .int ((i + 1 : Nat) : Int)), some (false, .dN w false (dictN sg rows g (nodes sg rows g) (i + 1))), o8, o9, ?_⟩
        rw [befD_succ w sg rows g (i + 1)]; rfl
    · subst e
      rw [rangeD_length, show (((k : Nat) : Int) + 1 - 1).toNat = k by omega]
      exact wd_one <| w_retO (i := 4) rfl (.inl rfl) rfl rfl h
theorem start_mem {s : Str} {rows : List Row} {g : Gram} (hg : g.Ok) : ((0, none) : Node) ∈ nodes s rows g := nodesTo_mem.mpr ⟨hg.m1, List.mem_cons_self⟩
end
end Lw

namespace Lw
open PySem L2 DL TL
section
variable {P : Program} {w : World} {K : PySem.W.Frag} {mg : Str → Option Value} {base : Heap}
def phHow (K : PySem.W.Frag) : Ph := fun ds rt _ => ∃ (s : Str) (rows : List Row) (g : Gram) (k : Nat), ds = [folD K s rows, graD K g, intD k] ∧ tabErr s rows = none ∧ g.Ok ∧ k ≤ 1000 ∧ rt false (intD (cnt s rows g k (0, none)))
theorem p_how_many (T : Txt K mg) : FnD P w K mg base 10 (He.fAd K ("how_many", none)) 3 (phHow K) := mkhow_many T fun cdv A outer s H E hr ds rt xs hφ hl => by
  obtain ⟨sg, rows, g, k, rfl, hT, hg, hk, h⟩ := hφ
  have hu : (bodyX P w K mg base Nhow_many "how_many" show_many (He.fAd K ("how_many", none)) cdv A outer s H E).A.units + 1 < cLine := hu_of hr
  have hat : L2.atI (befD w sg rows g (k + 1)) ((k : Nat) : Int) = some (.dN w false (dictN sg rows g (nodes sg rows g) k)) := by
    refine at_nat ?_
    unfold befD
    rw [List.getElem?_map, List.getElem?_range (by omega)]; rfl
  refine wd_one <| w_ret <| ed_nget2 (ed_ix <| call_ (p_ways_by_signs T) (hr.mono (by decide)) T.gways_by_signs <| ea_cons <| nl 1 rfl rfl rfl <| ea_cons <| call_ (p_all_steps T) hr T.gall_steps <| ea_cons <| nl 0 rfl rfl rfl <| ea_cons <| nl 1 rfl rfl rfl <| ea_nil ⟨rfl, sg, rows, g, rfl, hT, hg, ?_⟩) hu
  refine ea_cons <| nl 2 rfl rfl rfl <| ea_nil ⟨rfl, sg, rows, g, k, rfl, hT, hg, hk, nl 2 rfl rfl rfl <| ix_lst hat ⟨_, _, rfl, ed_tup <| ea_cons <| ed_int <| ea_cons <| ed_non <| ea_nil ⟨(by show 2 ≤ sizeLine; decide), nodeK (0, none), rfl, ed_int ?_⟩⟩⟩
  rw [show D.int 0 = intD 0 from rfl, dictN_val (start_mem hg)]
  exact h
end
end Lw

namespace Lw
open PySem L2 DL TL
/-! ### the rows that are counted -/
section
variable (s : Str) (rows : List Row) (g : Gram)
def rowsF : Nat → Nat → Node → List (List Str)
  | _, 0, n => if n.1 ∈ g.ends then [[]] else []
  | 0, _ + 1, _ => []
  | f + 1, l + 1, n => (steps s rows g n).flatMap fun q => if q.1.length ≤ l + 1 then (rowsF f (l + 1 - q.1.length) q.2).map (q.1 :: ·) else []
def rowsL (l : Nat) (n : Node) : List (List Str) := rowsF s rows g l l n
def Path : Node → List Str → Prop
  | n, [] => n.1 ∈ g.ends
  | n, p :: r => p ∈ nextP s rows n.2 ∧ ∃ t, leadsL g.ways (some n.1) (tl p) = some t ∧ Path (t, some p) r
end
theorem flatMap_same {α β : Type} {l : List α} {f g : α → List β} (h : ∀ x ∈ l, f x = g x) : l.flatMap f = l.flatMap g := by
  induction l with
  | nil => rfl
  | cons a t ih => rw [List.flatMap_cons, List.flatMap_cons, h a List.mem_cons_self, ih fun x hx => h x (List.mem_cons_of_mem _ hx)]
section
variable {s : Str} {rows : List Row} {g : Gram}
theorem rowsF_len : ∀ (f l : Nat) (n : Node), (rowsF s rows g f l n).length = cntF s rows g f l n := by
  intro f
  induction f with
  | zero =>
    intro l n
    cases l with
    | zero => unfold rowsF cntF; split <;> rfl
    | succ l => rfl
  | succ f ih =>
    intro l n
    cases l with
    | zero => unfold rowsF cntF; split <;> rfl
    | succ l =>
      show ((steps s rows g n).flatMap _).length = ((steps s rows g n).map _).sum
      rw [List.length_flatMap]
      congr 1
      refine List.map_congr_left fun q _ => ?_
      split
      · rw [List.length_map, ih]
      · rfl
theorem rowsL_len (l : Nat) (n : Node) : (rowsL s rows g l n).length = cnt s rows g l n := rowsF_len l l n
theorem rowsF_more (hT : tabErr s rows = none) (hg : g.Ok) : ∀ (f l : Nat) (n : Node), n ∈ nodes s rows g → l ≤ f → rowsF s rows g f l n = rowsL s rows g l n := by
  intro f
  induction f using Nat.strongRecOn with
  | ind f ih =>
    intro l n hn hl
    cases l with
    | zero => unfold rowsL rowsF; cases f <;> rfl
    | succ l =>
      obtain ⟨f, rfl⟩ : ∃ f', f = f' + 1 := ⟨f - 1, by omega⟩
      unfold rowsL
      show ((steps s rows g n).flatMap fun q => if q.1.length ≤ l + 1 then (rowsF s rows g f (l + 1 - q.1.length) q.2).map (q.1 :: ·) else []) = ((steps s rows g n).flatMap fun q => if q.1.length ≤ l + 1 then (rowsF s rows g l (l + 1 - q.1.length) q.2).map (q.1 :: ·) else [])
      refine flatMap_same fun q hq => ?_
      obtain ⟨m1, _, m3, _⟩ := steps_mem hT hg hn hq
      have hp := pcs_pos hT _ m1
      split
      · rw [ih f (by omega) _ _ m3 (by omega)]
        by_cases e : l = f
        · subst e
          rw [ih l (by omega) _ _ m3 (by omega)]
        · rw [ih l (by omega) _ _ m3 (by omega)]
      · rfl
theorem rowsL_zero (n : Node) : rowsL s rows g 0 n = if n.1 ∈ g.ends then [[]] else [] := rfl
theorem rowsL_succ (hT : tabErr s rows = none) (hg : g.Ok) {l : Nat} {n : Node} (hn : n ∈ nodes s rows g) : rowsL s rows g (l + 1) n = (steps s rows g n).flatMap fun q => if q.1.length ≤ l + 1 then (rowsL s rows g (l + 1 - q.1.length) q.2).map (q.1 :: ·) else [] := by
  show ((steps s rows g n).flatMap fun q => if q.1.length ≤ l + 1 then (rowsF s rows g l (l + 1 - q.1.length) q.2).map (q.1 :: ·) else []) = _
  refine flatMap_same fun q hq => ?_
  obtain ⟨m1, _, m3, _⟩ := steps_mem hT hg hn hq
  have hp := pcs_pos hT _ m1
  split
  · rw [rowsF_more hT hg l _ _ m3 (by omega)]
  · rfl
theorem steps_iff {n : Node} {q : Str × Node} : q ∈ steps s rows g n ↔ q.1 ∈ nextP s rows n.2 ∧ ∃ t, leadsL g.ways (some n.1) (tl q.1) = some t ∧ q.2 = (t, some q.1) := by
  unfold steps
  rw [List.mem_filterMap]
  refine ⟨fun ⟨p, hp, hs⟩ => ?_, fun ⟨h1, t, h2, h3⟩ => ⟨q.1, h1, by
    unfold stepOf
    rw [h2]
    show some (q.1, ((t, some q.1) : Node)) = some q
    rw [← h3]⟩⟩
  unfold stepOf at hs
  obtain ⟨t, ht, rfl⟩ := Option.map_eq_some_iff.mp hs
  exact ⟨hp, t, ht, rfl⟩
theorem rows_mem (hT : tabErr s rows = none) (hg : g.Ok) : ∀ (l : Nat) (n : Node) (qs : List Str), n ∈ nodes s rows g → (qs ∈ rowsL s rows g l n ↔ Path s rows g n qs ∧ (flatL qs).length = l) := by
  intro l
  induction l using Nat.strongRecOn with
  | ind l ih =>
    intro n qs hn
    have n2 := (nodesTo_mem.mp hn).2
    cases l with
    | zero =>
      rw [rowsL_zero]
      cases qs with
      | nil =>
        show _ ↔ n.1 ∈ g.ends ∧ (flatL []).length = 0
        by_cases h : n.1 ∈ g.ends
        · rw [if_pos h]; simp [h, flatL]
        · rw [if_neg h]; simp [h]
      | cons p r =>
        refine ⟨fun h => ?_, fun ⟨⟨h, _⟩, h2⟩ => ?_⟩
        · split at h
          · simp at h
          · cases h
        · rw [flatL_cons, List.length_append, ← len_tl] at h2
          have := pcs_pos hT p (nextP_mem hT n2 h).1
          omega
    | succ l =>
      rw [rowsL_succ hT hg hn, List.mem_flatMap]
      cases qs with
      | nil =>
        refine ⟨fun ⟨q, _, h⟩ => ?_, fun ⟨_, h⟩ => by simp [flatL] at h⟩
        split at h
        · obtain ⟨_, _, e⟩ := List.mem_map.mp h; cases e
        · cases h
      | cons p r =>
        rw [flatL_cons, List.length_append, ← len_tl]
        refine ⟨fun ⟨q, hq, h⟩ => ?_, fun ⟨⟨h1, t, h2, h3⟩, h4⟩ => ?_⟩
        · obtain ⟨m1, _, m3, _⟩ := steps_mem hT hg hn hq
          obtain ⟨s1, t, s2, s3⟩ := steps_iff.mp hq
          have hp := pcs_pos hT _ m1
          split at h
          · rename_i hle
            obtain ⟨r', hr', e⟩ := List.mem_map.mp h
            injection e with e1 e2
            subst e1 e2
            obtain ⟨i1, i2⟩ := (ih (l + 1 - q.1.length) (by omega) q.2 r' m3).mp hr'
            rw [s3] at i1
            exact ⟨⟨s1, t, s2, i1⟩, by omega⟩
          · cases h
        · have hq : (p, ((t, some p) : Node)) ∈ steps s rows g n := steps_iff.mpr ⟨h1, t, h2, rfl⟩
          obtain ⟨m1, _, m3, _⟩ := steps_mem hT hg hn hq
          have hp : 1 ≤ p.length := pcs_pos hT p m1
          refine ⟨_, hq, ?_⟩
          show p :: r ∈ if p.length ≤ l + 1 then _ else _
          rw [if_pos (by omega)]
          exact List.mem_map.mpr ⟨r, (ih (l + 1 - p.length) (by omega) (t, some p) r m3).mpr ⟨h3, by omega⟩, rfl⟩
theorem path_iff (hT : tabErr s rows = none) : ∀ (qs : List Str) (st : Nat) (l : Option Str), l ∈ lasts s rows → (Path s rows g (st, l) qs ↔ (∀ q ∈ qs, q ∈ pcs s rows ∧ Alone rows q) ∧ Chn rows (l.toList ++ qs) ∧ ∃ t, t ∈ g.ends ∧ leadsL g.ways (some st) (flatL qs) = some t) := by
  intro qs
  induction qs with
  | nil =>
    intro st l hl
    show st ∈ g.ends ↔ _
    refine ⟨fun h => ⟨fun _ h => (nomatch h), by cases l <;> exact trivial, st, h, rfl⟩, fun ⟨_, _, t, h1, h2⟩ => ?_⟩
    have : some st = some t := h2
    cases this
    exact h1
  | cons p r ih =>
    intro st l hl
    have lp : ∀ q, l = some q → q ∈ pcs s rows ∧ Alone rows q := fun q e => by
      subst e
      unfold lasts at hl
      rcases List.mem_cons.mp hl with e | e
      · cases e
      · obtain ⟨z, hz, e⟩ := List.mem_map.mp e
        cases e
        have := List.mem_filter.mp hz
        exact ⟨this.1, aloneB_iff.mp this.2⟩
    have np : p ∈ nextP s rows l ↔ p ∈ pcs s rows ∧ Alone rows p ∧ (∀ q, l = some q → Fits rows q p) := by
      cases l with
      | none =>
        unfold nextP
        rw [List.mem_filter, aloneB_iff]
        exact ⟨fun h => ⟨h.1, h.2, fun _ e => (nomatch e)⟩, fun h => ⟨h.1, h.2.1⟩⟩
      | some q =>
        obtain ⟨q1, q2⟩ := lp q rfl
        unfold nextP
        rw [List.mem_filter]
        refine ⟨fun h => ?_, fun h => ⟨h.1, (fit_iff (tab_pos hT) (pcs_pos hT q q1) (pcs_pos hT p h.1)).mpr ⟨q2, h.2.1, h.2.2 q rfl⟩⟩⟩
        have f := (fit_iff (tab_pos hT) (pcs_pos hT q q1) (pcs_pos hT p h.1)).mp h.2
        exact ⟨h.1, f.2.1, fun q' e => by cases e; exact f.2.2⟩
    have hc : Chn rows (l.toList ++ p :: r) ↔ (∀ q, l = some q → Fits rows q p) ∧ Chn rows (p :: r) := by
      cases l with
      | none => exact ⟨fun h => ⟨fun _ e => (nomatch e), h⟩, fun h => h.2⟩
      | some q => exact ⟨fun h => ⟨fun _ e => (by cases e; exact h.1), h.2⟩, fun h => ⟨h.1 q rfl, h.2⟩⟩
    show (p ∈ nextP s rows l ∧ ∃ t, leadsL g.ways (some st) (tl p) = some t ∧ Path s rows g (t, some p) r) ↔ _
    rw [np, hc, flatL_cons, leadsL_app]
    refine ⟨fun ⟨⟨h1, h2, h3⟩, t, h4, h5⟩ => ?_, fun ⟨h1, ⟨h2, h3⟩, t, h4, h5⟩ => ?_⟩
    · have hl' : some p ∈ lasts s rows := List.mem_cons_of_mem _ (List.mem_map.mpr ⟨p, List.mem_filter.mpr ⟨h1, aloneB_iff.mpr h2⟩, rfl⟩)
      obtain ⟨i1, i2, t', i3, i4⟩ := (ih t (some p) hl').mp h5
      refine ⟨fun q hq => ?_, ⟨h3, i2⟩, t', i3, by rw [h4]; exact i4⟩
      rcases List.mem_cons.mp hq with e | e
      · rw [e]; exact ⟨h1, h2⟩
      · exact i1 q e
    · obtain ⟨m1, m2⟩ := h1 p List.mem_cons_self
      have hl' : some p ∈ lasts s rows := List.mem_cons_of_mem _ (List.mem_map.mpr ⟨p, List.mem_filter.mpr ⟨m1, aloneB_iff.mpr m2⟩, rfl⟩)
      cases ho : leadsL g.ways (some st) (tl p) with
      | none => rw [ho, leadsL_none] at h5; cases h5
      | some u =>
        rw [ho] at h5
        exact ⟨⟨m1, m2, h2⟩, u, rfl, (ih u (some p) hl').mpr ⟨fun q hq => h1 q (List.mem_cons_of_mem _ hq), h3, t, h4, h5⟩⟩
theorem tells_iff {z : List Nat} : tellsL g z = true ↔ ∃ t, t ∈ g.ends ∧ leadsL g.ways (some 0) z = some t := by
  unfold tellsL
  cases h : leadsL g.ways (some 0) z with
  | none => exact ⟨fun e => (nomatch e), fun ⟨_, _, e⟩ => (nomatch e)⟩
  | some t => exact ⟨fun e => ⟨t, of_decide_eq_true e, rfl⟩, fun ⟨u, h1, e⟩ => by cases e; exact decide_eq_true h1⟩
/-- the rows counted: the cuttings of the grammar's texts -/
def IsCut (s : Str) (rows : List Row) (g : Gram) (l : Nat) (qs : List Str) : Prop := (∀ q ∈ qs, q ∈ pcs s rows) ∧ cutting rows (Txt.join "" qs) = qs ∧ tellsL g (flatL qs) = true ∧ (flatL qs).length = l
theorem rows_iff (hT : tabErr s rows = none) (hg : g.Ok) (l : Nat) (qs : List Str) : qs ∈ rowsL s rows g l (0, none) ↔ IsCut s rows g l qs := by
  rw [rows_mem hT hg l (0, none) qs (nodesTo_mem.mpr ⟨hg.m1, List.mem_cons_self⟩), path_iff hT qs 0 none List.mem_cons_self]
  unfold IsCut
  have hpos : (∀ q ∈ qs, q ∈ pcs s rows) → ∀ q ∈ qs, 1 ≤ q.length := fun h q hq => pcs_pos hT q (h q hq)
  rw [tells_iff]
  refine ⟨fun ⟨⟨h1, h2, h3⟩, h4⟩ => ?_, fun ⟨h1, h2, h3, h4⟩ => ?_⟩
  · have h0 := fun q hq => (h1 q hq).1
    exact ⟨h0, (row_cut (tab_pos hT) (hpos h0)).mpr ⟨fun q hq => (h1 q hq).2, h2⟩, h3, h4⟩
  · obtain ⟨a, b⟩ := (row_cut (tab_pos hT) (hpos h1)).mp h2
    exact ⟨⟨fun q hq => ⟨h1 q hq, a q hq⟩, b, h3⟩, h4⟩
theorem nextP_nodup (hT : tabErr s rows = none) (l : Option Str) : (nextP s rows l).Nodup := by
  unfold nextP
  cases l <;> exact (pcs_nodup hT).filter _
theorem steps_pw {R : Str → Str → Prop} {n : Node} (h : (nextP s rows n.2).Pairwise R) : (steps s rows g n).Pairwise fun a b => R a.1 b.1 := by
  unfold steps
  refine List.pairwise_filterMap.mpr (h.imp fun {a b} hab x hx y hy => ?_)
  unfold stepOf at hx hy
  obtain ⟨t, _, rfl⟩ := Option.map_eq_some_iff.mp hx
  obtain ⟨u, _, rfl⟩ := Option.map_eq_some_iff.mp hy
  exact hab
theorem rowsL_nodup (hT : tabErr s rows = none) (hg : g.Ok) : ∀ (l : Nat) (n : Node), n ∈ nodes s rows g → (rowsL s rows g l n).Nodup := by
  intro l
  induction l using Nat.strongRecOn with
  | ind l ih =>
    intro n hn
    cases l with
    | zero =>
      rw [rowsL_zero]
      split
      · simp
      · exact List.nodup_nil
    | succ l =>
      rw [rowsL_succ hT hg hn]
      refine List.pairwise_flatMap.mpr ⟨fun q hq => ?_, ?_⟩
      · obtain ⟨m1, _, m3, _⟩ := steps_mem hT hg hn hq
        have hp := pcs_pos hT _ m1
        split
        · exact List.pairwise_map.mpr ((ih _ (by omega) q.2 m3).imp fun h e => h (by injection e))
        · exact List.Pairwise.nil
      · refine (steps_pw (R := fun a b => a ≠ b) (nextP_nodup hT n.2)).imp fun {a b} hab x hx y hy e => ?_
        subst e
        split at hx
        · split at hy
          · obtain ⟨x1, _, rfl⟩ := List.mem_map.mp hx
            obtain ⟨y1, _, e⟩ := List.mem_map.mp hy
            injection e with e1 e2
            exact hab e1.symm
          · cases hy
        · cases hx
end
/-! ### all texts -/
def allT (cs : List Nat) : Nat → List (List Nat)
  | 0 => [[]]
  | l + 1 => (allT cs l).flatMap fun z => cs.map fun c => z ++ [c]
theorem allT_mem {cs : List Nat} : ∀ {l : Nat} {z : List Nat}, z ∈ allT cs l ↔ z.length = l ∧ ∀ c ∈ z, c ∈ cs
  | 0, z => by
    unfold allT
    rw [List.mem_singleton]
    exact ⟨fun e => by rw [e]; exact ⟨rfl, fun _ h => (nomatch h)⟩, fun h => List.length_eq_zero_iff.mp h.1⟩
  | l + 1, z => by
    unfold allT
    rw [List.mem_flatMap]
    refine ⟨fun ⟨y, hy, h⟩ => ?_, fun ⟨h1, h2⟩ => ?_⟩
    · obtain ⟨c, hc, rfl⟩ := List.mem_map.mp h
      obtain ⟨i1, i2⟩ := allT_mem.mp hy
      refine ⟨by rw [List.length_append, i1]; rfl, fun x hx => ?_⟩
      rcases List.mem_append.mp hx with e | e
      · exact i2 x e
      · rw [List.mem_singleton.mp e]; exact hc
    · rcases List.eq_nil_or_concat z with e | ⟨y, c, e⟩
      · rw [e] at h1; cases h1
      · rw [List.concat_eq_append] at e
        subst e
        rw [List.length_append] at h1
        refine ⟨y, allT_mem.mpr ⟨by simpa using h1, fun x hx => h2 x (List.mem_append_left _ hx)⟩, List.mem_map.mpr ⟨c, h2 c (List.mem_append_right _ List.mem_cons_self), rfl⟩⟩
theorem allT_nodup {cs : List Nat} (h : cs.Nodup) : ∀ l, (allT cs l).Nodup
  | 0 => by simp [allT]
  | l + 1 => by
    unfold allT
    refine List.pairwise_flatMap.mpr ⟨fun z _ => List.pairwise_map.mpr (h.imp fun hab e => hab (by simpa using e)), (allT_nodup h l).imp fun {a b} hab x hx y hy e => ?_⟩
    obtain ⟨c, _, rfl⟩ := List.mem_map.mp hx
    obtain ⟨d, _, rfl⟩ := List.mem_map.mp hy
    exact hab (List.append_inj_left' e rfl)
def toS (l : List Nat) : Str := ⟨l.toArray⟩
theorem tl_toS (l : List Nat) : tl (toS l) = l := rfl
theorem toS_tl (z : Str) : toS (tl z) = z := ext_tl rfl
theorem signs_cps_nodup {s : Str} {rows : List Row} (hT : tabErr s rows = none) : (tl s).Nodup := by
  have h := (signErr_none (tabErr_none hT).1).2.2.1
  unfold signs at h
  unfold List.Nodup at h ⊢
  rw [List.pairwise_map] at h
  exact h.imp fun hab e => hab (by rw [e])
/-- as many rows as texts -/
theorem cnt_texts {s : Str} {rows : List Row} {g : Gram} (hT : tabErr s rows = none) (hg : g.Ok) (l : Nat) : cnt s rows g l (0, none) = ((allT (tl s) l).filter (tellsL g)).length := by
  rw [← rowsL_len]
  have hnode : ((0, none) : Node) ∈ nodes s rows g := nodesTo_mem.mpr ⟨hg.m1, List.mem_cons_self⟩
  have n1 := rowsL_nodup hT hg l (0, none) hnode
  have n2 := (allT_nodup (signs_cps_nodup hT) l).filter (tellsL g)
  refine Nat.le_antisymm ?_ ?_
  · rw [← List.length_map (f := flatL)]
    refine nodup_len ?_ fun z hz => ?_
    · refine List.pairwise_map.mpr (List.Pairwise.imp_of_mem (fun {a b} ha hb hab e => hab ?_) n1)
      have a1 := ((rows_iff hT hg l a).mp ha).2.1
      have b1 := ((rows_iff hT hg l b).mp hb).2.1
      have : Txt.join "" a = Txt.join "" b := ext_tl (by rw [join_empty, join_empty]; exact e)
      rw [← a1, ← b1, this]
    · obtain ⟨qs, hq, rfl⟩ := List.mem_map.mp hz
      obtain ⟨h1, h2, h3, h4⟩ := (rows_iff hT hg l qs).mp hq
      refine List.mem_filter.mpr ⟨allT_mem.mpr ⟨h4, fun c hc => ?_⟩, h3⟩
      unfold flatL at hc
      obtain ⟨x, hx, hc⟩ := List.mem_flatten.mp hc
      obtain ⟨q, hq, rfl⟩ := List.mem_map.mp hx
      exact pcs_signs hT q (h1 q hq) c hc
  · rw [← List.length_map (f := fun z => cutting rows (toS z))]
    refine nodup_len ?_ fun qs hq => ?_
    · refine List.pairwise_map.mpr (n2.imp fun {a b} hab e => hab ?_)
      have h1 := cutting_join rows (toS a)
      have h2 := cutting_join rows (toS b)
      have e : cutting rows (toS a) = cutting rows (toS b) := e
      rw [e, h2] at h1
      exact (congrArg tl h1).symm
    · obtain ⟨z, hz, rfl⟩ := List.mem_map.mp hq
      obtain ⟨h1, h2⟩ := List.mem_filter.mp hz
      obtain ⟨a1, a2⟩ := allT_mem.mp h1
      have hf : flatL (cutting rows (toS z)) = z := (sweepR_flat rows (signs (toS z))).trans (signs_flat (toS z))
      refine (rows_iff hT hg l _).mpr ⟨cutting_mem rows (s := s) (z := toS z) a2, by rw [cutting_join], by rw [hf]; exact h2, by rw [hf]; exact a1⟩
end Lw

namespace Lw
open PySem L2 DL TL
/-! ### what is wrong with a thing as a cutting -/
def firstNot {α : Type} (p : α → Bool) (n : Nat) : List α → Option Nat
  | [] => none
  | x :: r => if p x = true then firstNot p (n + 1) r else some n
theorem firstNot_none {α : Type} {p : α → Bool} : ∀ {xs : List α} {n : Nat}, firstNot p n xs = none ↔ ∀ x ∈ xs, p x = true
  | [], n => by simp [firstNot]
  | x :: r, n => by
    unfold firstNot
    by_cases h : p x = true
    · rw [if_pos h, firstNot_none]; simp [h]
    · rw [if_neg h]; simp [h]
theorem firstNot_at {α : Type} {p : α → Bool} {l : List α} : ∀ {n i : Nat} {x : α}, (∀ y ∈ l.take i, p y = true) → l[i]? = some x → p x = false → firstNot p n l = some (n + i) := by
  induction l with
  | nil => intro n i x _ h; simp at h
  | cons q t ih =>
    intro n i x h1 h2 h3
    cases i with
    | zero =>
      have : q = x := by simpa using h2
      subst this
      unfold firstNot
      rw [if_neg (by rw [h3]; exact Bool.false_ne_true)]; rfl
    | succ i =>
      unfold firstNot
      rw [if_pos (h1 q (by simp)), ih (fun y hy => h1 y (by rw [List.take_succ_cons]; exact List.mem_cons_of_mem _ hy)) (by simpa using h2) h3]
      congr 1; omega
def toStrs : List D → List Str
  | [] => []
  | .str x :: r => x :: toStrs r
  | _ :: r => toStrs r
theorem toStrs_map : ∀ ys : List Str, toStrs (ys.map D.str) = ys
  | [] => rfl
  | y :: r => congrArg (y :: ·) (toStrs_map r)
theorem strs_of {ps : List Str} : ∀ {xs : List D}, (∀ x ∈ xs, isPc ps x = true) → xs = (toStrs xs).map D.str ∧ ∀ y ∈ toStrs xs, y ∈ ps
  | [], _ => ⟨rfl, fun _ h => (nomatch h)⟩
  | x :: r, h => by
    obtain ⟨e, hy⟩ := strs_of (xs := r) fun z hz => h z (List.mem_cons_of_mem _ hz)
    have hx := h x List.mem_cons_self
    cases x with
    | str p =>
      refine ⟨congrArg (D.str p :: ·) e, fun y hm => ?_⟩
      rcases List.mem_cons.mp (show y ∈ p :: toStrs r from hm) with h2 | h2
      · rw [h2]; exact of_decide_eq_true hx
      · exact hy y h2
    | _ => cases hx
def wrongL (rows : List Row) (ps : List Str) : Option (Str × D) := match firstNot (aloneB rows) 0 ps with
  | some k => some ("alone", intD k)
  | none => (firstNot (fun q : Str × Str => fitB rows q.1 q.2) 0 (ps.zip ps.tail)).map fun k => ("border", intD k)
def wrongD (s : Str) (rows : List Row) : D → Option (Str × D)
  | .lst xs => match firstNot (isPc (pcs s rows)) 0 xs with
    | some k => some ("piece", intD k)
    | none => wrongL rows (toStrs xs)
  | _ => some ("form", .non)
def wrongR : Option (Str × D) → D
  | none => .non
  | some q => .tup [.str q.1, q.2]
theorem chn_zip {rows : List Row} {R : Str → Str → Prop} : ∀ {ps : List Str}, (∀ q ∈ ps.zip ps.tail, R q.1 q.2) ↔ ∀ (i : Nat) (a b : Str), ps[i]? = some a → ps[i + 1]? = some b → R a b
  | ps => by
    refine ⟨fun h i a b ha hb => h (a, b) ?_, fun h q hq => ?_⟩
    · refine List.mem_of_getElem? (i := i) ?_
      rw [List.getElem?_zip_eq_some]
      refine ⟨ha, ?_⟩
      rw [List.getElem?_tail]; exact hb
    · obtain ⟨i, hi⟩ := List.getElem?_of_mem hq
      rw [List.getElem?_zip_eq_some, List.getElem?_tail] at hi
      exact h i q.1 q.2 hi.1 hi.2
theorem chn_at {rows : List Row} : ∀ {ps : List Str}, Chn rows ps ↔ ∀ (i : Nat) (a b : Str), ps[i]? = some a → ps[i + 1]? = some b → Fits rows a b
  | [] => ⟨fun _ i a b h => by simp at h, fun _ => trivial⟩
  | [x] => ⟨fun _ i a b _ h => by simp at h, fun _ => trivial⟩
  | x :: y :: t => by
    show Fits rows x y ∧ Chn rows (y :: t) ↔ _
    rw [chn_at (ps := y :: t)]
    refine ⟨fun ⟨h1, h2⟩ i a b ha hb => ?_, fun h => ⟨h 0 x y rfl rfl, fun i a b ha hb => h (i + 1) a b (by simpa using ha) (by simpa using hb)⟩⟩
    cases i with
    | zero => simp at ha hb; rw [← ha, ← hb]; exact h1
    | succ i => exact h2 i a b (by simpa using ha) (by simpa using hb)
/-- nothing is wrong: a cutting -/
theorem wrong_none {s : Str} {rows : List Row} (hT : tabErr s rows = none) {qs : List Str} (hp : ∀ q ∈ qs, q ∈ pcs s rows) : wrongD s rows (.lst (qs.map D.str)) = none ↔ cutting rows (Txt.join "" qs) = qs := by
  have h1 : firstNot (isPc (pcs s rows)) 0 (qs.map D.str) = none := firstNot_none.mpr fun x hx => by
    obtain ⟨q, hq, rfl⟩ := List.mem_map.mp hx
    exact decide_eq_true (hp q hq)
  show (match firstNot (isPc (pcs s rows)) 0 (qs.map D.str) with | some k => _ | none => wrongL rows (toStrs (qs.map D.str))) = none ↔ _
  rw [h1, toStrs_map, row_cut (tab_pos hT) fun q hq => pcs_pos hT q (hp q hq), chn_at]
  show wrongL rows qs = none ↔ _
  unfold wrongL
  cases ha : firstNot (aloneB rows) 0 qs with
  | some k =>
    refine ⟨fun h => (nomatch h), fun ⟨h, _⟩ => ?_⟩
    rw [firstNot_none.mpr fun q hq => aloneB_iff.mpr (h q hq)] at ha; cases ha
  | none =>
    have al := firstNot_none.mp ha
    show Option.map _ _ = none ↔ _
    rw [Option.map_eq_none_iff, firstNot_none, chn_zip (rows := rows) (R := fun a b => fitB rows a b = true)]
    have fi : ∀ (i : Nat) (a b : Str), qs[i]? = some a → qs[i + 1]? = some b → (fitB rows a b = true ↔ Fits rows a b) := fun i a b h1 h2 => by
      have m1 := List.mem_of_getElem? h1
      have m2 := List.mem_of_getElem? h2
      rw [fit_iff (tab_pos hT) (pcs_pos hT a (hp a m1)) (pcs_pos hT b (hp b m2))]
      exact ⟨fun h => h.2.2, fun h => ⟨aloneB_iff.mp (al a m1), aloneB_iff.mp (al b m2), h⟩⟩
    exact ⟨fun h => ⟨fun q hq => aloneB_iff.mp (al q hq), fun i a b h1 h2 => (fi i a b h1 h2).mp (h i a b h1 h2)⟩, fun h i a b h1 h2 => (fi i a b h1 h2).mpr (h.2 i a b h1 h2)⟩
section
variable {P : Program} {w : World} {K : PySem.W.Frag} {mg : Str → Option Value} {base : Heap}
def phWrong (K : PySem.W.Frag) : Ph := fun ds rt _ => ∃ (s : Str) (rows : List Row) (d : D), ds = [folD K s rows, d] ∧ tabErr s rows = none ∧ LsK d ∧ rt false (wrongR (wrongD s rows d))
theorem p_what_is_wrong (T : Txt K mg) : FnD P w K mg base 8 (He.fAd K ("what_is_wrong", none)) 2 (phWrong K) := mkwhat_is_wrong T fun cdv A outer s H E hr ds rt xs hφ hl => by
  obtain ⟨sg, rows, d, rfl, hT, ⟨li, lx⟩, h⟩ := hφ
  have nd := scwhat_is_wrong.nd
  refine wd_cons <| w_if <| et_not <| et_val <| isi_ "list" T.zisinstance T.zlist bt_list <| nl 1 rfl rfl rfl ⟨_, li, _, rfl, ⟨fun e => ?_, fun e => ?_⟩⟩
  · have : wrongD sg rows d = some (("form" : Str), D.non) := by cases d <;> first | rfl | cases e
    rw [this] at h
    exact wd_one <| w_ret <| ed_tup <| ea_cons <| ed_str <| ea_cons <| ed_non <| ea_nil ⟨(by show 2 ≤ sizeLine; decide), h⟩
  have e2 : isLst d = true := by simpa using e
  obtain ⟨ys, rfl⟩ : ∃ z, d = .lst z := by cases d <;> first | exact ⟨_, rfl⟩ | cases e2
  obtain ⟨yl, yk⟩ := lx ys rfl
  have big : (100000 : Nat) ≤ sizeLine := by decide
  have big62 : (100000 : Int) < 2 ^ 62 := by decide
  refine wd_nil <| wd_cons <| asg 2 nd rfl rfl <| meth0 T.kFollows T.mFollows_table (p_Follows_table T) (hr.mono (by decide)) <| nl 0 rfl rfl rfl ⟨rfl, rfl, sg, rows, rfl, ?_⟩
  have hW : wrongD sg rows (.lst ys) = match firstNot (isPc (pcs sg rows)) 0 ys with | some k => some (("piece" : Str), intD k) | none => wrongL rows (toStrs ys) := rfl
  refine wd_cons <| w_for rfl <| enL T.zenumerate <| nl 1 rfl rfl rfl ⟨ys, rfl, fun i Γ => ∃ o3 o4 : Option (Bool × D), Γ = [some (false, folD K sg rows), some (false, .lst ys), some (false, tabD K sg rows), o3, o4] ∧ ∀ y ∈ ys.take i, isPc (pcs sg rows) y = true,
    ⟨none, none, rfl, fun _ h => by rw [List.take_zero] at h; cases h⟩, fun i d Γ' hd ⟨o3, o4, e, hb⟩ => ?_, fun Γ' ⟨o3, o4, e, hb⟩ => ?_⟩
  · subst e
    obtain ⟨a, x, ha, hx, rfl⟩ := pairs_get hd
    obtain ⟨hi, rfl⟩ := rangeD_get ha
    rw [Int.zero_add]
    refine td_two rfl <| td_name (i := 3) nd rfl (.inl rfl) <| td_name (i := 4) nd rfl (.inl rfl) ?_
    refine wd_one <| w_if <| et_cmp <| meth T.kTable T.mTable_which (p_Table_whichA T) (hr.mono (by decide)) <| nl 2 rfl rfl rfl ⟨rfl, rfl, ea_cons <| nl 4 rfl rfl rfl <| ea_nil ⟨rfl, sg, rows, x, rfl, yk x (List.mem_of_getElem? hx), ed_non <| is_non ?_⟩⟩
    rw [which_non]
    refine ⟨fun e => ?_, fun e => ?_⟩
    · have e' : isPc (pcs sg rows) x = false := by simpa using e
      rw [hW, firstNot_at hb hx e', Nat.zero_add] at h
      exact wd_one <| w_ret <| ed_tup <| ea_cons <| ed_str <| ea_cons <| nl 3 rfl rfl rfl <| ea_nil ⟨(by show 2 ≤ sizeLine; decide), h⟩
    · have e' : isPc (pcs sg rows) x = true := by simpa using e
      refine wd_nil ⟨_, _, rfl, fun y hy => ?_⟩
      rw [take_succ hx] at hy
      rcases List.mem_append.mp hy with h1 | h1
      · exact hb y h1
      · rw [List.mem_singleton.mp h1]; exact e'
  · subst e
    rw [pairs_length, rangeD_length, Nat.min_self, List.take_length] at hb
    obtain ⟨eys, hps⟩ := strs_of hb
    rw [hW, firstNot_none.mpr hb] at h
    generalize toStrs ys = ps at eys hps h
    subst eys
    rw [List.length_map] at yl
    have h : rt false (wrongR (wrongL rows ps)) := h
    unfold wrongL at h
    refine wd_cons <| w_for rfl <| enL T.zenumerate <| nl 1 rfl rfl rfl ⟨_, rfl, fun i Γ => ∃ o3 o4 : Option (Bool × D), Γ = [some (false, folD K sg rows), some (false, .lst (ps.map D.str)), some (false, tabD K sg rows), o3, o4] ∧ ∀ y ∈ ps.take i, aloneB rows y = true,
      ⟨o3, o4, rfl, fun _ h => by rw [List.take_zero] at h; cases h⟩, fun i d Γ' hd ⟨o3, o4, e, hb⟩ => ?_, fun Γ' ⟨o3, o4, e, hb⟩ => ?_⟩
    · subst e
      obtain ⟨a, b, ha, hb', rfl⟩ := pairs_get hd
      obtain ⟨hi, rfl⟩ := rangeD_get ha
      obtain ⟨x, hx, rfl⟩ := map_get hb'
      rw [Int.zero_add]
      refine td_two rfl <| td_name (i := 3) nd rfl (.inl rfl) <| td_name (i := 4) nd rfl (.inl rfl) ?_
      refine wd_one <| w_if <| et_not <| et_val <| meth T.kFollows T.mFollows_is_alone (p_Follows_is_alone T) (hr.mono (by decide)) <| nl 0 rfl rfl rfl ⟨rfl, rfl, ea_cons <| nl 4 rfl rfl rfl <| ea_nil ⟨rfl, sg, rows, x, rfl, _, rfl, ?_⟩⟩
      rw [decide_eq_true (hps x (List.mem_of_getElem? hx)), Bool.true_and]
      refine ⟨fun e => ?_, fun e => ?_⟩
      · have e' : aloneB rows x = false := by simpa using e
        rw [firstNot_at hb hx e', Nat.zero_add] at h
        exact wd_one <| w_ret <| ed_tup <| ea_cons <| ed_str <| ea_cons <| nl 3 rfl rfl rfl <| ea_nil ⟨(by show 2 ≤ sizeLine; decide), h⟩
      · have e' : aloneB rows x = true := by simpa using e
        refine wd_nil ⟨_, _, rfl, fun y hy => ?_⟩
        rw [take_succ hx] at hy
        rcases List.mem_append.mp hy with h1 | h1
        · exact hb y h1
        · rw [List.mem_singleton.mp h1]; exact e'
    · subst e
      rw [pairs_length, rangeD_length, Nat.min_self, List.length_map, List.take_length] at hb
      rw [firstNot_none.mpr hb] at h
      have h : rt false (wrongR ((firstNot (fun q : Str × Str => fitB rows q.1 q.2) 0 (ps.zip ps.tail)).map fun k => (("border" : Str), intD k))) := h
      have zl : (ps.zip ps.tail).length = ps.length - 1 := by rw [List.length_zip, List.length_tail]; omega
      refine wd_cons <| w_for rfl <| rg1 T.zrange <| ed_bin <| len_ T.zlen <| nl 1 rfl rfl rfl ⟨_, rfl, ed_int <| sub_ii ⟨_, rfl, by rw [List.length_map]; omega, by rw [List.length_map]; omega, fun i Γ => ∃ o3 o4 : Option (Bool × D), Γ = [some (false, folD K sg rows), some (false, .lst (ps.map D.str)), some (false, tabD K sg rows), o3, o4] ∧ ∀ y ∈ (ps.zip ps.tail).take i, fitB rows y.1 y.2 = true,
        ⟨o3, o4, rfl, fun _ h => by rw [List.take_zero] at h; cases h⟩, fun i d Γ' hd ⟨o3, o4, e, hb⟩ => ?_, fun Γ' ⟨o3, o4, e, hb⟩ => ?_⟩⟩
      · subst e
        obtain ⟨hi, rfl⟩ := rangeD_get hd
        rw [List.length_map] at hi
        rw [Int.zero_add]
        obtain ⟨x, hx⟩ : ∃ x, ps[i]? = some x := ⟨_, List.getElem?_eq_getElem (by omega)⟩
        obtain ⟨y, hy⟩ : ∃ y, ps[i + 1]? = some y := ⟨_, List.getElem?_eq_getElem (by omega)⟩
        have hz : (ps.zip ps.tail)[i]? = some (x, y) := by rw [List.getElem?_zip_eq_some, List.getElem?_tail]; exact ⟨hx, hy⟩
        refine td_name (i := 3) nd rfl (.inl rfl) ?_
        refine wd_one <| w_if <| et_not <| et_val <| meth T.kFollows T.mFollows_fits (p_Follows_fits T) (hr.mono (by decide)) <| nl 0 rfl rfl rfl ⟨rfl, rfl, ea_cons <| ed_ix <| nl 1 rfl rfl rfl <| nl 3 rfl rfl rfl <| ix_lst (atI_map D.str (at_nat hx)) <| ea_cons <| ed_ix <| nl 1 rfl rfl rfl <| ed_bin <| nl 3 rfl rfl rfl <| ed_int <| add_ii <| ix_lst (atI_map D.str (at_nat (i := i + 1) hy)) <| ea_nil ⟨rfl, sg, rows, x, y, rfl, hT, hps x (List.mem_of_getElem? hx), hps y (List.mem_of_getElem? hy), _, rfl, ⟨fun e => ?_, fun e => ?_⟩⟩⟩
        · have e' : fitB rows x y = false := by simpa using e
          rw [firstNot_at hb hz e', Nat.zero_add] at h
          exact wd_one <| w_ret <| ed_tup <| ea_cons <| ed_str <| ea_cons <| nl 3 rfl rfl rfl <| ea_nil ⟨(by show 2 ≤ sizeLine; decide), h⟩
        · have e' : fitB rows x y = true := by simpa using e
          refine wd_nil ⟨_, _, rfl, fun q hq => ?_⟩
          rw [take_succ hz] at hq
          rcases List.mem_append.mp hq with h1 | h1
          · exact hb q h1
          · rw [List.mem_singleton.mp h1]; exact e'
      · subst e
        rw [rangeD_length, List.length_map, show (((ps.length : Nat) : Int) - 1).toNat = (ps.zip ps.tail).length by rw [zl]; omega, List.take_length] at hb
        rw [firstNot_none.mpr hb] at h
        exact wd_one <| w_ret <| ed_non h
def phLookCut (K : PySem.W.Frag) : Ph := fun ds rt xs => ∃ (s : Str) (rows : List Row) (d : D), ds = [folD K s rows, d] ∧ tabErr s rows = none ∧ LsK d ∧ (wrongD s rows d = none → rt false .non) ∧ ∀ k p, wrongD s rows d = some (k, p) → xs ⟨He.ga K "NoCutting", [("place", p), ("kind", .str k)]⟩
theorem p_look_at_cutting (T : Txt K mg) : FnD P w K mg base 9 (He.fAd K ("look_at_cutting", none)) 2 (phLookCut K) := mklook_at_cutting T fun cdv A outer s H E hr ds rt xs hφ hl => by
  obtain ⟨sg, rows, d, rfl, hT, hL, h1, h2⟩ := hφ
  have nd := sclook_at_cutting.nd
  refine wd_cons <| asg 2 nd rfl rfl <| call_ (p_what_is_wrong T) hr T.gwhat_is_wrong <| ea_cons <| nl 0 rfl rfl rfl <| ea_cons <| nl 1 rfl rfl rfl <| ea_nil ⟨rfl, sg, rows, d, rfl, hT, hL, ?_⟩
  cases hw : wrongD sg rows d with
  | none => exact wd_one <| w_if <| et_cmp <| nl 2 rfl rfl rfl <| ed_non <| not_non ⟨fun e => (nomatch e), fun _ => wd_nil (h1 hw)⟩
  | some q =>
    have fl : flat q.2 = true := by
      have key : ∀ (o : Option (Str × D)), o = some q → (∀ q', o = some q' → flat q'.2 = true) → flat q.2 = true := fun o e k => k q e
      refine key _ hw fun q' e => ?_
      cases d with
      | lst xs =>
        have e : (match firstNot (isPc (pcs sg rows)) 0 xs with | some k => some (("piece" : Str), intD k) | none => wrongL rows (toStrs xs)) = some q' := e
        cases h1 : firstNot (isPc (pcs sg rows)) 0 xs with
        | some k => rw [h1] at e; cases e; rfl
        | none =>
          rw [h1] at e
          have e : wrongL rows (toStrs xs) = some q' := e
          unfold wrongL at e
          cases h2 : firstNot (aloneB rows) 0 (toStrs xs) with
          | some k => rw [h2] at e; cases e; rfl
          | none =>
            rw [h2] at e
            obtain ⟨k, _, e⟩ := Option.map_eq_some_iff.mp e
            rw [← e]; rfl
      | _ => cases e; rfl
    refine wd_one <| w_if <| et_cmp <| nl 2 rfl rfl rfl <| ed_non <| not_non ⟨fun _ => ?_, fun e => (nomatch e)⟩
    refine wd_one <| w_raise (errNoCutting T) rfl (hr.mono (by decide)) rfl (ea_cons <| ed_ix <| nl 2 rfl rfl rfl <| ed_int <| ix_tup rfl <| ea_cons <| ed_ix <| nl 2 rfl rfl rfl <| ed_int <| ix_tup rfl <| ea_nil ⟨rfl, ?_, h2 q.1 q.2 hw⟩) (by decide)
    show ([D.str q.1, q.2].all flat) = true
    rw [List.all_cons, List.all_cons, List.all_nil, fl]; rfl
end
end Lw

namespace Lw
open PySem L2 DL TL
/-! ### rows by number, numbers of rows -/
theorem flatMap_get {α β : Type} {f : α → List β} : ∀ {L : List α} {b : Nat} {q : α} {r : Nat} {x : β}, L[b]? = some q → (f q)[r]? = some x → (L.flatMap f)[((L.take b).map fun q => (f q).length).sum + r]? = some x
  | [], b, q, r, x, h, _ => by simp at h
  | a :: t, 0, q, r, x, h, hx => by
    have : a = q := by simpa using h
    subst this
    rw [List.flatMap_cons, List.take_zero, List.map_nil, List.sum_nil, Nat.zero_add, List.getElem?_append_left (List.getElem?_eq_some_iff.mp hx).1]
    exact hx
  | a :: t, b + 1, q, r, x, h, hx => by
    rw [List.flatMap_cons, List.take_succ_cons, List.map_cons, List.sum_cons, Nat.add_assoc, List.getElem?_append_right (by omega), Nat.add_sub_cancel_left]
    exact flatMap_get (by simpa using h) hx
theorem flatMap_inv {α β : Type} {f : α → List β} : ∀ {L : List α} {r : Nat} {x : β}, (L.flatMap f)[r]? = some x → ∃ (b : Nat) (q : α) (r' : Nat), L[b]? = some q ∧ r = ((L.take b).map fun q => (f q).length).sum + r' ∧ (f q)[r']? = some x
  | [], r, x, h => by simp at h
  | a :: t, r, x, h => by
    rw [List.flatMap_cons] at h
    by_cases hr : r < (f a).length
    · rw [List.getElem?_append_left hr] at h
      exact ⟨0, a, r, rfl, by simp, h⟩
    · rw [List.getElem?_append_right (by omega)] at h
      obtain ⟨b, q, r', h1, h2, h3⟩ := flatMap_inv h
      refine ⟨b + 1, q, r', by simpa using h1, ?_, h3⟩
      rw [List.take_succ_cons, List.map_cons, List.sum_cons]; omega
section
variable (s : Str) (rows : List Row) (g : Gram)
/-- the steps for which there are signs enough -/
def stepsOn (l : Nat) (n : Node) : List (Str × Node) := (steps s rows g n).filter fun q => decide (q.1.length ≤ l)
def blk (l : Nat) (q : Str × Node) : List (List Str) := (rowsL s rows g (l - q.1.length) q.2).map (q.1 :: ·)
def sumOn (l : Nat) (qs : List (Str × Node)) : Nat := (qs.map fun q => (blk s rows g l q).length).sum
end
section
variable {s : Str} {rows : List Row} {g : Gram}
theorem rowsL_on (hT : tabErr s rows = none) (hg : g.Ok) {l : Nat} {n : Node} (hn : n ∈ nodes s rows g) (hl : 1 ≤ l) : rowsL s rows g l n = (stepsOn s rows g l n).flatMap (blk s rows g l) := by
  obtain ⟨l, rfl⟩ : ∃ l', l = l' + 1 := ⟨l - 1, by omega⟩
  rw [rowsL_succ hT hg hn]
  unfold stepsOn
  induction steps s rows g n with
  | nil => rfl
  | cons q t ih =>
    rw [List.flatMap_cons, ih]
    by_cases h : q.1.length ≤ l + 1
    · rw [if_pos h, List.filter_cons_of_pos (p := fun q : Str × Node => decide (q.1.length ≤ l + 1)) (decide_eq_true h), List.flatMap_cons]; rfl
    · rw [if_neg h, List.filter_cons_of_neg (p := fun q : Str × Node => decide (q.1.length ≤ l + 1)) (by simpa using h)]; rfl
theorem blk_len (l : Nat) (q : Str × Node) : (blk s rows g l q).length = cnt s rows g (l - q.1.length) q.2 := by
  unfold blk; rw [List.length_map, rowsL_len]
theorem stepsOn_mem {l : Nat} {n : Node} {q : Str × Node} (hT : tabErr s rows = none) (hg : g.Ok) (hn : n ∈ nodes s rows g) (h : q ∈ stepsOn s rows g l n) : q.1 ∈ pcs s rows ∧ q.2 ∈ nodes s rows g ∧ q.1.length ≤ l ∧ leadsL g.ways (some n.1) (tl q.1) = some q.2.1 ∧ q.2.2 = some q.1 := by
  obtain ⟨h1, h2⟩ := List.mem_filter.mp h
  obtain ⟨a, _, c, d, e, _⟩ := steps_mem hT hg hn h1
  exact ⟨a, c, of_decide_eq_true h2, e, d⟩
theorem stepsOn_pw (hT : tabErr s rows = none) (l : Nat) (n : Node) : (stepsOn s rows g l n).Pairwise fun a b => a.1 ≠ b.1 := (steps_pw (R := fun a b => a ≠ b) (nextP_nodup hT n.2)).filter _
theorem sumOn_succ {l b : Nat} {L : List (Str × Node)} {q : Str × Node} (h : L[b]? = some q) : sumOn s rows g l (L.take (b + 1)) = sumOn s rows g l (L.take b) + cnt s rows g (l - q.1.length) q.2 := by
  unfold sumOn
  rw [take_succ h, List.map_append, List.sum_append, ← blk_len]
  simp
theorem sumOn_mono {l : Nat} {L : List (Str × Node)} {a b : Nat} (h : a ≤ b) : sumOn s rows g l (L.take a) ≤ sumOn s rows g l (L.take b) := by
  obtain ⟨d, rfl⟩ : ∃ d, b = a + d := ⟨b - a, by omega⟩
  induction d with
  | zero => exact Nat.le_refl _
  | succ d ih =>
    refine Nat.le_trans (ih (by omega)) ?_
    by_cases hb : a + d < L.length
    · rw [← Nat.add_assoc, sumOn_succ (List.getElem?_eq_getElem hb)]; omega
    · rw [List.take_of_length_le (by omega), List.take_of_length_le (by omega)]; exact Nat.le_refl _
end
section
variable {P : Program} {w : World} {K : PySem.W.Frag} {mg : Str → Option Value} {base : Heap}
theorem bef_at {s : Str} {rows : List Row} {g : Gram} {k l : Nat} (h : l ≤ k) : L2.atI (befD w s rows g (k + 1)) ((l : Nat) : Int) = some (.dN w false (dictN s rows g (nodes s rows g) l)) := by
  refine at_nat ?_
  unfold befD
  rw [List.getElem?_map, List.getElem?_range (by omega)]; rfl
theorem wayv {s : Str} {rows : List Row} {g : Gram} {n : Node} (hn : n ∈ nodes s rows g) : valD (stepsD s rows g (nodes s rows g)) (nodeK n) = some (.lst ((steps s rows g n).map stepD)) := by
  unfold stepsD; rw [mapN_val, if_pos hn]
def phCutOf (K : PySem.W.Frag) : Ph := fun ds rt xs => ∃ (s : Str) (rows : List Row) (g : Gram) (k : Nat) (d : D), ds = [folD K s rows, graD K g, intD k, d] ∧ tabErr s rows = none ∧ g.Ok ∧ k ≤ 1000 ∧ ElH d ∧
  (∀ (i : Nat) (qs : List Str), d = intD i → (rowsL s rows g k (0, none))[i]? = some qs → rt true (.lst (qs.map D.str))) ∧ ((∀ i : Nat, d = intD i → ¬ i < cnt s rows g k (0, none)) → xs ⟨He.ga K "NoPlace", []⟩)
theorem p_cutting_of (T : Txt K mg) : FnD P w K mg base 10 (He.fAd K ("cutting_of", none)) 4 (phCutOf K) := mkcutting_of T fun cdv A outer s H E hr ds rt xs hφ hl => by
  obtain ⟨sg, rows, g, k, d, rfl, hT, hg, hk, hd, h1, h2⟩ := hφ
  have nd := sccutting_of.nd
  have big : (2000 : Nat) ≤ sizeLine := by decide
  have hu : (bodyX P w K mg base Ncutting_of "cutting_of" scutting_of (He.fAd K ("cutting_of", none)) cdv A outer s H E).A.units + 1 < cLine := hu_of hr
  have hst := start_mem (s := sg) (rows := rows) hg
  refine wd_cons <| asg 4 nd rfl rfl <| call_ (p_all_steps T) hr T.gall_steps <| ea_cons <| nl 0 rfl rfl rfl <| ea_cons <| nl 1 rfl rfl rfl <| ea_nil ⟨rfl, sg, rows, g, rfl, hT, hg, ?_⟩
  refine wd_cons <| asg 5 nd rfl rfl <| call_ (p_ways_by_signs T) (hr.mono (by decide)) T.gways_by_signs <| ea_cons <| nl 1 rfl rfl rfl <| ea_cons <| nl 4 rfl rfl rfl <| ea_cons <| nl 2 rfl rfl rfl <| ea_nil ⟨rfl, sg, rows, g, k, rfl, hT, hg, hk, ?_⟩
  refine wd_know 5 rfl <| wd_cons <| asg 6 nd rfl rfl <| ed_tup <| ea_cons <| ed_int <| ea_cons <| ed_non <| ea_nil ⟨(by show 2 ≤ sizeLine; decide), ?_⟩
  refine wd_n (Γ' := [some (false, folD K sg rows), some (false, graD K g), some (false, intD k), some (false, d), some (false, .dN w true (stepsD sg rows g (nodes sg rows g))), some (false, .lst (befD w sg rows g (k + 1))), some (false, nodeD (0, none)), none, none, none, none, none, none, none]) rfl ?_
  have no : (∀ i : Nat, d = intD i → ¬ i < cnt sg rows g k (0, none)) → xs ⟨He.ga K "NoPlace", []⟩ := h2
  refine wd_cons <| w_if <| et_w <| ew_or <| et_not <| et_val <| call_ (p_is_whole T) (hr.mono (by decide)) T.gis_whole <| ea_cons <| nl 3 rfl rfl rfl <| ea_nil ⟨rfl, d, rfl, hd, _, rfl, ⟨fun e1 => ?_, fun e1 => ⟨fun _ => ?_, fun e => (nomatch e)⟩⟩⟩
  · have e1 : isWh d = true := by simpa using e1
    obtain ⟨v, rfl⟩ := isWh_int e1
    refine ew_or1 <| et_not <| et_chainI <| ed_int <| nl 3 rfl rfl rfl ⟨_, _, rfl, rfl, fun e2 => ?_, fun e2 => ⟨fun _ => ?_, fun e => (nomatch e)⟩⟩
    · have e2 : (0 : Int) ≤ v := of_decide_eq_true e2
      obtain ⟨i, rfl⟩ : ∃ i : Nat, v = (i : Int) := ⟨v.toNat, by omega⟩
      refine ed_nget2 (ed_ix <| nl 5 rfl rfl rfl <| nl 2 rfl rfl rfl <| ix_lst (bef_at (Nat.le_refl k)) ⟨_, _, rfl, nl 6 rfl rfl rfl ⟨nodeK (0, none), rfl, ed_int ?_⟩⟩) hu
      rw [show D.int 0 = intD 0 from rfl, dictN_val hst]
      refine ⟨_, rfl, ⟨fun e3 => ?_, fun e3 => ?_⟩⟩
      · have e3 : (!decide (((i : Nat) : Int) < ((cnt sg rows g k (0, none) : Nat) : Int))) = true := e3
        have e3 : ¬ ((i : Nat) : Int) < ((cnt sg rows g k (0, none) : Nat) : Int) := by simpa using e3
        exact wd_one <| w_raiseT (errTNoPlace T) rfl rfl (no fun j e => by injection e with e; omega)
      · have e3 : (!decide (((i : Nat) : Int) < ((cnt sg rows g k (0, none) : Nat) : Int))) = false := e3
        have e3 : ((i : Nat) : Int) < ((cnt sg rows g k (0, none) : Nat) : Int) := by simpa using e3
        obtain ⟨qs, hqs⟩ : ∃ qs, (rowsL sg rows g k (0, none))[i]? = some qs := ⟨_, List.getElem?_eq_getElem (by rw [rowsL_len]; omega)⟩
        have h1 := h1 i qs rfl hqs
        refine wd_nil <| wd_cons <| asgc 7 nd rfl rfl rfl <| nl 2 rfl rfl rfl ?_
        refine wd_cons <| asg 8 nd rfl rfl <| ed_lst <| ea_nil ⟨by decide, ?_⟩
        refine wd_cons <| w_while ⟨fun m Γ => ∃ (r l : Nat) (n : Node) (pre rest : List Str) (o9 o10 o11 o12 : Option (Bool × D)), Γ = [some (false, folD K sg rows), some (false, graD K g), some (false, intD k), some (false, intD r), some (false, .dN w true (stepsD sg rows g (nodes sg rows g))), some (false, .lst (befD w sg rows g (k + 1))), some (false, nodeD n), some (false, intD l), some (true, .lst (pre.map D.str)), o9, o10, o11, o12, none] ∧ m = l ∧ l ≤ k ∧ pre.length + l ≤ k ∧ n ∈ nodes sg rows g ∧ (rowsL sg rows g l n)[r]? = some rest ∧ pre ++ rest = qs,
          ⟨_, i, k, (0, none), [], qs, none, none, none, none, rfl, rfl, Nat.le_refl _, by simp, hst, hqs, rfl⟩, fun m Γ' ⟨r, l, n, pre, rest, o9, o10, o11, o12, eΓ, hm, hlk, hpl, hn, hrow, hpre⟩ => ?_⟩
        subst eΓ hm
        refine et_cmp <| nc 7 rfl rfl rfl <| ed_int <| gt_ii ⟨fun e4 => ?_, fun e4 => ?_⟩
        · have e4 := of_decide_eq_true e4
          have hl1 : 1 ≤ m := by omega
          rw [rowsL_on hT hg hn hl1] at hrow
          obtain ⟨b, q, r', hb, hr', hx⟩ := flatMap_inv hrow
          have hr' : r = sumOn sg rows g m ((stepsOn sg rows g m n).take b) + r' := hr'
          have hsl := steps_len hT n (g := g)
          have hol : (stepsOn sg rows g m n).length ≤ 36 := Nat.le_trans (List.length_filter_le _ _) hsl
          -- steps_on
          refine wd_cons <| w_asgLc (i := 9) (own := [("step", 13)]) rfl nd (blkOk_by rfl) rfl rfl (hsw := sw_true rfl rfl rfl rfl) <| ei_list <| ed_nget (nl 4 rfl rfl rfl <| nl 6 rfl rfl rfl ⟨_, _, nodeK n, _, rfl, rfl, wayv hn, .inl ⟨_, rfl, fun j acc => acc = (((steps sg rows g n).take j).filter fun q => decide (q.1.length ≤ m)).map stepD, rfl, fun j d acc hd hI s0 H0 C cl fp xe => ?_, fun acc hI => ?_⟩⟩) hu
          · obtain ⟨q, hq, rfl⟩ := map_get hd
            obtain ⟨m1, _⟩ := steps_mem hT hg hn (List.mem_of_getElem? hq)
            have h16 := pcs_len hT _ m1
            have hlen : (((steps sg rows g n).take j).filter fun q => decide (q.1.length ≤ m)).length < sizeLine := by
              have := List.length_filter_le (fun q : Str × Node => decide (q.1.length ≤ m)) ((steps sg rows g n).take j)
              rw [List.length_take] at this
              omega
            refine tc_name (i := 13) nd rfl (.inl rfl) (by simp) <| ets_one <| et_cmp <| len_ T.zlen <| ed_ix <| nl 13 rfl rfl rfl <| ed_int <| ix_tup rfl ⟨_, len_str (by omega), nc 7 rfl rfl rfl <| le_ii ?_⟩
            rw [show decide (((q.1.length : Nat) : Int) ≤ ((m : Nat) : Int)) = decide (q.1.length ≤ m) from decide_eq_decide.mpr (by omega)]
            refine ⟨fun e5 => ?_, fun e5 => ?_⟩
            · refine nl 13 rfl rfl rfl ⟨by rw [hI, List.length_map]; exact hlen, ?_⟩
              dsimp only at hI ⊢
              rw [hI, take_succ hq, List.filter_append, List.filter_cons_of_pos (p := fun q : Str × Node => decide (q.1.length ≤ m)) e5, List.map_append]; rfl
            · dsimp only at hI ⊢
              rw [hI, take_succ hq, List.filter_append, List.filter_cons_of_neg (p := fun q : Str × Node => decide (q.1.length ≤ m)) (by rw [e5]; exact Bool.false_ne_true)]
              simp
          rw [List.length_map, List.take_length] at hI
          subst hI
          refine wd_n (Γ' := [some (false, folD K sg rows), some (false, graD K g), some (false, intD k), some (false, intD r), some (false, .dN w true (stepsD sg rows g (nodes sg rows g))), some (false, .lst (befD w sg rows g (k + 1))), some (false, nodeD n), some (false, intD m), some (true, .lst (pre.map D.str)), some (true, .lst ((stepsOn sg rows g m n).map stepD)), o10, o11, o12, none]) rfl ?_
          refine wd_know 9 rfl <| wd_cons <| asg 10 nd rfl rfl <| ed_int ?_
          -- the k-th step
          have at_k : ∀ (j : Nat) (q : Str × Node), (stepsOn sg rows g m n)[j]? = some q → L2.atI ((stepsOn sg rows g m n).map stepD) ((j : Nat) : Int) = some (stepD q) := fun j q h => atI_map stepD (at_nat h)
          have at_l : ∀ q, q ∈ stepsOn sg rows g m n → L2.atI (befD w sg rows g (k + 1)) (((m : Nat) : Int) - ((q.1.length : Nat) : Int)) = some (.dN w false (dictN sg rows g (nodes sg rows g) (m - q.1.length))) := fun q hq => by
            obtain ⟨_, _, c, _⟩ := stepsOn_mem hT hg hn hq
            rw [show ((m : Nat) : Int) - ((q.1.length : Nat) : Int) = ((m - q.1.length : Nat) : Int) by omega]
            exact bef_at (by omega)
          obtain ⟨q0, hq0⟩ : ∃ q0, (stepsOn sg rows g m n)[0]? = some q0 := ⟨_, List.getElem?_eq_getElem (by have := (List.getElem?_eq_some_iff.mp hb).1; omega)⟩
          obtain ⟨a1, a2, a3, _⟩ := stepsOn_mem hT hg hn (List.mem_of_getElem? hq0)
          have h16 := pcs_len hT _ a1
          refine wd_cons <| asg 11 nd rfl rfl <| ed_nget2 (ed_ix <| nl 5 rfl rfl rfl <| ed_bin <| nc 7 rfl rfl rfl <| len_ T.zlen <| ed_ix <| ed_ix <| nl 9 rfl rfl rfl <| ed_int <| ix_lst (at_k 0 q0 hq0) <| ed_int <| ix_tup rfl ⟨_, len_str (by omega), sub_ii <| ix_lst (at_l q0 (List.mem_of_getElem? hq0)) ⟨_, _, rfl, ed_ix <| ed_ix <| nl 9 rfl rfl rfl <| ed_int <| ix_lst (at_k 0 q0 hq0) <| ed_int <| ix_tup rfl ⟨nodeK q0.2, rfl, ed_int ?_⟩⟩⟩) hu
          rw [show D.int 0 = intD 0 from rfl, dictN_val a2]
          refine wd_cons <| w_while ⟨fun m2 Γ => ∃ (j : Nat) (qj : Str × Node), Γ = [some (false, folD K sg rows), some (false, graD K g), some (false, intD k), some (false, intD (r - sumOn sg rows g m ((stepsOn sg rows g m n).take j))), some (false, .dN w true (stepsD sg rows g (nodes sg rows g))), some (false, .lst (befD w sg rows g (k + 1))), some (false, nodeD n), some (false, intD m), some (true, .lst (pre.map D.str)), some (false, .lst ((stepsOn sg rows g m n).map stepD)), some (false, intD j), some (false, intD (cnt sg rows g (m - qj.1.length) qj.2)), o12, none] ∧ m2 = b - j ∧ j ≤ b ∧ (stepsOn sg rows g m n)[j]? = some qj,
            ⟨_, 0, q0, by simp [sumOn], rfl, Nat.zero_le _, hq0⟩, fun m2 Γ' ⟨j, qj, eΓ, hm2, hjb, hqj⟩ => ?_⟩
          subst eΓ hm2
          have hsj := sumOn_succ (s := sg) (rows := rows) (g := g) (l := m) hqj
          have hjle := sumOn_mono (s := sg) (rows := rows) (g := g) (l := m) (L := stepsOn sg rows g m n) hjb
          refine et_cmp <| nl 3 rfl rfl rfl <| nl 11 rfl rfl rfl <| ge_ii ⟨fun e5 => ?_, fun e5 => ?_⟩
          · have e5 := of_decide_eq_true e5
            have hlt : j < b := by
              rcases Nat.lt_or_ge j b with h | h
              · exact h
              · have : j = b := by omega
                subst this
                rw [hqj] at hb; cases hb
                have := (List.getElem?_eq_some_iff.mp hx).1
                rw [blk_len] at this
                omega
            obtain ⟨q2, hq2⟩ : ∃ q2, (stepsOn sg rows g m n)[j + 1]? = some q2 := ⟨_, List.getElem?_eq_getElem (by have := (List.getElem?_eq_some_iff.mp hb).1; omega)⟩
            obtain ⟨b1, b2, b3, _⟩ := stepsOn_mem hT hg hn (List.mem_of_getElem? hq2)
            have h17 := pcs_len hT _ b1
            refine wd_cons <| w_augSub nd rfl (.inl rfl) rfl (i := 3) (nl 11 rfl rfl rfl ⟨_, rfl, ?_⟩)
            refine wd_cons <| w_augAdd nd rfl (.inl rfl) rfl (i := 10) (ed_int ⟨_, rfl, ?_⟩)
            rw [show ((j : Nat) : Int) + 1 = ((j + 1 : Nat) : Int) by omega, show (((r - sumOn sg rows g m ((stepsOn sg rows g m n).take j) : Nat) : Int) - ((cnt sg rows g (m - qj.1.length) qj.2 : Nat) : Int)) = ((r - sumOn sg rows g m ((stepsOn sg rows g m n).take (j + 1)) : Nat) : Int) by rw [hsj]; omega]
            refine wd_one <| asg 11 nd rfl rfl <| ed_nget2 (ed_ix <| nl 5 rfl rfl rfl <| ed_bin <| nc 7 rfl rfl rfl <| len_ T.zlen <| ed_ix <| ed_ix <| nl 9 rfl rfl rfl <| nl 10 rfl rfl rfl <| ix_lst (at_k (j + 1) q2 hq2) <| ed_int <| ix_tup rfl ⟨_, len_str (by omega), sub_ii <| ix_lst (at_l q2 (List.mem_of_getElem? hq2)) ⟨_, _, rfl, ed_ix <| ed_ix <| nl 9 rfl rfl rfl <| nl 10 rfl rfl rfl <| ix_lst (at_k (j + 1) q2 hq2) <| ed_int <| ix_tup rfl ⟨nodeK q2.2, rfl, ed_int ?_⟩⟩⟩) hu
            rw [show D.int 0 = intD 0 from rfl, dictN_val b2]
            exact ⟨b - (j + 1), by omega, j + 1, q2, rfl, rfl, hlt, hq2⟩
          · have e5 := of_decide_eq_false e5
            have hjb2 : j = b := by
              rcases Nat.lt_or_ge j b with h | h
              · have := sumOn_mono (s := sg) (rows := rows) (g := g) (l := m) (L := stepsOn sg rows g m n) (show j + 1 ≤ b from h)
                omega
              · omega
            subst hjb2
            have eqj : qj = q := Option.some.inj (hqj.symm.trans hb)
            subst eqj
            obtain ⟨c1, c2, c3, _⟩ := stepsOn_mem hT hg hn (List.mem_of_getElem? hqj)
            have h17 := pcs_len hT _ c1
            have hp1 := pcs_pos hT _ c1
            unfold blk at hx
            rw [List.getElem?_map] at hx
            obtain ⟨rest', hx1, hx2⟩ := Option.map_eq_some_iff.mp hx
            refine wd_cons <| w_asgT <| ed_ix <| nl 9 rfl rfl rfl <| nl 10 rfl rfl rfl <| ix_lst (at_k j qj hqj) <| td_two rfl <| td_name (i := 12) nd rfl (.inl rfl) <| td_name (i := 6) nd rfl (.inl rfl) ?_
            refine wd_cons <| app 8 rfl (.inl rfl) rfl <| nl 12 rfl rfl rfl ⟨by rw [List.length_map]; omega, ?_⟩
            refine wd_one <| w_augSub nd rfl (.inr rfl) rfl (i := 7) (len_ T.zlen <| nl 12 rfl rfl rfl ⟨_, len_str (by omega), _, rfl, m - qj.1.length, by omega, r - sumOn sg rows g m ((stepsOn sg rows g m n).take j), m - qj.1.length, qj.2, pre ++ [qj.1], rest', some (false, .lst ((stepsOn sg rows g m n).map stepD)), some (false, intD j), some (false, intD (cnt sg rows g (m - qj.1.length) qj.2)), some (false, .str qj.1), ?_, rfl, by omega, by rw [List.length_append]; show pre.length + 1 + _ ≤ k; omega, c2, ?_, ?_⟩)
            · rw [show ((m : Nat) : Int) - ((qj.1.length : Nat) : Int) = ((m - qj.1.length : Nat) : Int) by omega, List.map_append]; rfl
            · rw [show r - sumOn sg rows g m ((stepsOn sg rows g m n).take j) = r' by omega]; exact hx1
            · rw [List.append_assoc, ← hpre, ← hx2]; rfl
        · have e4 := of_decide_eq_false e4
          have hl0 : m = 0 := by omega
          subst hl0
          have hrest : rest = [] := by
            rw [rowsL_zero] at hrow
            split at hrow
            · have := List.mem_of_getElem? hrow
              simpa using this
            · simp at hrow
          subst hrest
          rw [List.append_nil] at hpre
          subst hpre
          exact wd_one <| w_retO (i := 8) rfl (.inl rfl) rfl rfl h1
    · have e2 : decide ((0 : Int) ≤ v) = false := e2
      have e2 := of_decide_eq_false e2
      exact wd_one <| w_raiseT (errTNoPlace T) rfl rfl (no fun j e => by injection e with e; omega)
  · have e1 : isWh d = false := by simpa using e1
    exact wd_one <| w_raiseT (errTNoPlace T) rfl rfl (no fun j e => by subst e; cases e1)
end
end Lw

namespace Lw
open PySem L2 DL TL
section
variable {P : Program} {w : World} {K : PySem.W.Frag} {mg : Str → Option Value} {base : Heap}
theorem first_idx {L : List (Str × Node)} {b : Nat} {q : Str × Node} (h : L.Pairwise fun a b => a.1 ≠ b.1) (hb : L[b]? = some q) (m : Nat) (q' : Str × Node) (hm : m < b) (hq : L[m]? = some q') : q'.1 ≠ q.1 := by
  obtain ⟨i1, e1⟩ := List.getElem?_eq_some_iff.mp hq
  obtain ⟨i2, e2⟩ := List.getElem?_eq_some_iff.mp hb
  have := List.pairwise_iff_getElem.mp h m b i1 i2 hm
  rw [e1, e2] at this; exact this
theorem isDl {d : D} {s : Str} {rows : List Row} (hL : LsK d) (h : wrongD s rows d = none) : ∃ qs : List Str, d = .lst (qs.map D.str) ∧ (∀ q ∈ qs, q ∈ pcs s rows) ∧ qs.length ≤ 100000 := by
  cases d with
  | lst xs =>
    cases h1 : firstNot (isPc (pcs s rows)) 0 xs with
    | some k =>
      have h : (match firstNot (isPc (pcs s rows)) 0 xs with | some k => some (("piece" : Str), intD k) | none => wrongL rows (toStrs xs)) = none := h
      rw [h1] at h; cases h
    | none =>
      obtain ⟨e, hp⟩ := strs_of (firstNot_none.mp h1)
      have := (hL.2 xs rfl).1
      rw [e, List.length_map] at this
      exact ⟨toStrs xs, by rw [← e], hp, this⟩
  | _ => cases h
def phNumOf (K : PySem.W.Frag) : Ph := fun ds rt xs => ∃ (s : Str) (rows : List Row) (g : Gram) (d : D), ds = [folD K s rows, graD K g, d] ∧ tabErr s rows = none ∧ g.Ok ∧ LsK d ∧ (∀ qs, d = .lst (qs.map D.str) → (flatL qs).length ≤ 900) ∧
  (∀ qs : List Str, d = .lst (qs.map D.str) → wrongD s rows d = none → (tellsL g (flatL qs) = false → rt false .non) ∧ ∀ i : Nat, (rowsL s rows g (flatL qs).length (0, none))[i]? = some qs → rt false (intD i)) ∧ ∀ k p, wrongD s rows d = some (k, p) → xs ⟨He.ga K "NoCutting", [("place", p), ("kind", .str k)]⟩
theorem p_number_of (T : Txt K mg) : FnD P w K mg base 10 (He.fAd K ("number_of", none)) 3 (phNumOf K) := mknumber_of T fun cdv A outer s H E hr ds rt xs hφ hl => by
  obtain ⟨sg, rows, g, d, rfl, hT, hg, hL, hfl, h1, h2⟩ := hφ
  have nd := scnumber_of.nd
  have big : (200000 : Nat) ≤ sizeLine := by decide
  have hu : (bodyX P w K mg base Nnumber_of "number_of" snumber_of (He.fAd K ("number_of", none)) cdv A outer s H E).A.units + 1 < cLine := hu_of hr
  have hst := start_mem (s := sg) (rows := rows) hg
  refine wd_cons <| w_expr <| call_ (p_look_at_cutting T) hr T.glook_at_cutting <| ea_cons <| nl 0 rfl rfl rfl <| ea_cons <| nl 2 rfl rfl rfl <| ea_nil ⟨rfl, sg, rows, d, rfl, hT, hL, fun hw => ?_, fun k p e => h2 k p e⟩
  obtain ⟨qs, rfl, hps, hql⟩ := isDl hL hw
  obtain ⟨h1, h3⟩ := h1 qs rfl hw
  have hfl := hfl qs rfl
  have hcut := (wrong_none hT hps).mp hw
  have hjl : (Txt.join "" qs).length = (flatL qs).length := by rw [len_tl, join_empty]; rfl
  refine wd_cons <| asg 3 nd rfl rfl <| ed_join <| ed_str ⟨_, rfl, nl 2 rfl rfl rfl ⟨qs, rfl, join_sum (n := 0) hql (fun q hq => Nat.le_trans (pcs_len hT q (hps q hq)) (by decide)), ?_⟩⟩
  have htells : tellsL g (tl (Txt.join "" qs)) = tellsL g (flatL qs) := by rw [join_empty]; rfl
  refine wd_cons <| w_if <| et_not <| et_val <| meth T.kGrammar T.mGrammar_tells (p_Grammar_tells T) (hr.mono (by decide)) <| nl 1 rfl rfl rfl ⟨rfl, rfl, ea_cons <| nl 3 rfl rfl rfl <| ea_nil ⟨rfl, g, _, rfl, hg, by omega, _, rfl, ?_⟩⟩
  rw [htells]
  refine ⟨fun e => wd_one <| w_ret <| ed_non <| h1 (by simpa using e), fun e => ?_⟩
  have htold : tellsL g (flatL qs) = true := by simpa using e
  have hmem : qs ∈ rowsL sg rows g (flatL qs).length (0, none) := (rows_iff hT hg _ qs).mpr ⟨hps, hcut, htold, rfl⟩
  obtain ⟨i0, hi0⟩ := List.getElem?_of_mem hmem
  have h3 := h3 i0 hi0
  generalize hk : (flatL qs).length = k at *
  generalize hz : Txt.join "" qs = z at *
  refine wd_nil <| wd_cons <| asg 4 nd rfl rfl <| call_ (p_all_steps T) hr T.gall_steps <| ea_cons <| nl 0 rfl rfl rfl <| ea_cons <| nl 1 rfl rfl rfl <| ea_nil ⟨rfl, sg, rows, g, rfl, hT, hg, ?_⟩
  refine wd_cons <| asg 5 nd rfl rfl <| call_ (p_ways_by_signs T) (hr.mono (by decide)) T.gways_by_signs <| ea_cons <| nl 1 rfl rfl rfl <| ea_cons <| nl 4 rfl rfl rfl <| ea_cons <| len_ T.zlen <| nl 3 rfl rfl rfl ⟨_, len_str (by omega), ea_nil ⟨rfl, sg, rows, g, k, by rw [hjl]; rfl, hT, hg, by omega, ?_⟩⟩
  refine wd_know 5 rfl <| wd_cons <| asg 6 nd rfl rfl <| ed_tup <| ea_cons <| ed_int <| ea_cons <| ed_non <| ea_nil ⟨(by show 2 ≤ sizeLine; decide), ?_⟩
  refine wd_cons <| asgc 7 nd rfl rfl rfl <| len_ T.zlen <| nl 3 rfl rfl rfl ⟨_, len_str (by omega), ?_⟩
  rw [hjl]
  refine wd_cons <| asg 8 nd rfl rfl <| ed_int ?_
  refine wd_n (Γ' := [some (false, folD K sg rows), some (false, graD K g), some (false, .lst (qs.map D.str)), some (false, .str z), some (false, .dN w true (stepsD sg rows g (nodes sg rows g))), some (false, .lst (befD w sg rows g (k + 1))), some (false, nodeD (0, none)), some (false, intD k), some (false, intD 0), none, none, none, none, none]) rfl ?_
  refine wd_cons <| w_for rfl <| ei_list <| nl 2 rfl rfl rfl <| .inl ⟨_, rfl, fun j Γ => ∃ (l r v : Nat) (n : Node) (o9 o10 o11 o12 : Option (Bool × D)), Γ = [some (false, folD K sg rows), some (false, graD K g), some (false, .lst (qs.map D.str)), some (false, .str z), some (false, .dN w true (stepsD sg rows g (nodes sg rows g))), some (false, .lst (befD w sg rows g (k + 1))), some (false, nodeD n), some (false, intD l), some (false, intD v), o9, o10, o11, o12, none] ∧ l ≤ k ∧ n ∈ nodes sg rows g ∧ (rowsL sg rows g l n)[r]? = some (qs.drop j) ∧ v + r = i0,
    ⟨k, i0, 0, (0, none), none, none, none, none, rfl, Nat.le_refl _, hst, hi0, by omega⟩, fun j d Γ' hd ⟨l, r, v, n, o9, o10, o11, o12, eΓ, hlk, hn, hrow, hv⟩ => ?_, fun Γ' ⟨l, r, v, n, o9, o10, o11, o12, eΓ, hlk, hn, hrow, hv⟩ => ?_⟩
  · subst eΓ
    obtain ⟨one, hone, rfl⟩ := map_get hd
    have hdrop : qs.drop j = one :: qs.drop (j + 1) := by
      obtain ⟨hj, e⟩ := List.getElem?_eq_some_iff.mp hone
      rw [List.drop_eq_getElem_cons hj, e]
    rw [hdrop] at hrow
    have hl1 : 1 ≤ l := by
      rcases Nat.eq_zero_or_pos l with e | e
      · subst e
        rw [rowsL_zero] at hrow
        split at hrow
        · have := List.mem_of_getElem? hrow
          simp at this
        · simp at hrow
      · exact e
    rw [rowsL_on hT hg hn hl1] at hrow
    obtain ⟨b, q, r', hb, hr', hx⟩ := flatMap_inv hrow
    have hr' : r = sumOn sg rows g l ((stepsOn sg rows g l n).take b) + r' := hr'
    unfold blk at hx
    rw [List.getElem?_map] at hx
    obtain ⟨rest', hx1, hx2⟩ := Option.map_eq_some_iff.mp hx
    injection hx2 with e1 e2
    subst e1 e2
    obtain ⟨c1, c2, c3, c4, c5⟩ := stepsOn_mem hT hg hn (List.mem_of_getElem? hb)
    have h16 := pcs_len hT _ c1
    have hsl := steps_len hT n (g := g)
    have hol : (stepsOn sg rows g l n).length ≤ 36 := Nat.le_trans (List.length_filter_le _ _) hsl
    refine td_name (i := 9) nd rfl (.inl rfl) ?_
    refine wd_cons <| w_asgLc (i := 10) (own := [("step", 13)]) rfl nd (blkOk_by rfl) rfl rfl (hsw := sw_true rfl rfl rfl rfl) <| ei_list <| ed_nget (nl 4 rfl rfl rfl <| nl 6 rfl rfl rfl ⟨_, _, nodeK n, _, rfl, rfl, wayv hn, .inl ⟨_, rfl, fun j acc => acc = (((steps sg rows g n).take j).filter fun q => decide (q.1.length ≤ l)).map stepD, rfl, fun j d acc hd hI s0 H0 C cl fp xe => ?_, fun acc hI => ?_⟩⟩) hu
    · obtain ⟨q, hq, rfl⟩ := map_get hd
      obtain ⟨m1, _⟩ := steps_mem hT hg hn (List.mem_of_getElem? hq)
      have h16 := pcs_len hT _ m1
      have hlen : (((steps sg rows g n).take j).filter fun q => decide (q.1.length ≤ l)).length < sizeLine := by
        have := List.length_filter_le (fun q : Str × Node => decide (q.1.length ≤ l)) ((steps sg rows g n).take j)
        rw [List.length_take] at this
        omega
      refine tc_name (i := 13) nd rfl (.inl rfl) (by simp) <| ets_one <| et_cmp <| len_ T.zlen <| ed_ix <| nl 13 rfl rfl rfl <| ed_int <| ix_tup rfl ⟨_, len_str (by omega), nc 7 rfl rfl rfl <| le_ii ?_⟩
      rw [show decide (((q.1.length : Nat) : Int) ≤ ((l : Nat) : Int)) = decide (q.1.length ≤ l) from decide_eq_decide.mpr (by omega)]
      refine ⟨fun e5 => ?_, fun e5 => ?_⟩
      · refine nl 13 rfl rfl rfl ⟨by rw [hI, List.length_map]; exact hlen, ?_⟩
        dsimp only at hI ⊢
        rw [hI, take_succ hq, List.filter_append, List.filter_cons_of_pos (p := fun q : Str × Node => decide (q.1.length ≤ l)) e5, List.map_append]; rfl
      · dsimp only at hI ⊢
        rw [hI, take_succ hq, List.filter_append, List.filter_cons_of_neg (p := fun q : Str × Node => decide (q.1.length ≤ l)) (by rw [e5]; exact Bool.false_ne_true)]
        simp
    rw [List.length_map, List.take_length] at hI
    subst hI
    refine wd_n (Γ' := [some (false, folD K sg rows), some (false, graD K g), some (false, .lst (qs.map D.str)), some (false, .str z), some (false, .dN w true (stepsD sg rows g (nodes sg rows g))), some (false, .lst (befD w sg rows g (k + 1))), some (false, nodeD n), some (false, intD l), some (false, intD v), some (false, .str q.1), some (true, .lst ((stepsOn sg rows g l n).map stepD)), o11, o12, none]) rfl ?_
    refine wd_know 10 rfl ?_
    have hpw := stepsOn_pw hT l n (g := g)
    generalize hL0 : stepsOn sg rows g l n = L at *
    have hmL : ∀ q ∈ L, q.1 ∈ pcs sg rows ∧ q.2 ∈ nodes sg rows g ∧ q.1.length ≤ l := fun q hq => by
      rw [← hL0] at hq
      obtain ⟨a, b, c, _⟩ := stepsOn_mem hT hg hn hq
      exact ⟨a, b, c⟩
    refine wd_cons <| w_for rfl <| ei_list <| ed_slice <| nl 10 rfl rfl rfl <| eo_none <| eo_some <| lindex <| ed_lc (own := [("step", 13)]) rfl nd (blkOk_by rfl) <| ei_list <| nl 10 rfl rfl rfl <| .inl ⟨_, rfl, fun j acc => acc = ((L.take j).map fun q => D.str q.1), rfl, fun j d acc hd hI s0 H0 C cl fp xe => ?_, fun acc hI => ?_⟩
    · obtain ⟨q', hq', rfl⟩ := map_get hd
      have hj := (List.getElem?_eq_some_iff.mp hq').1
      refine tc_name (i := 13) nd rfl (.inl rfl) (by simp) <| ets_nil ⟨fun _ => ?_, fun e => (nomatch e)⟩
      refine ed_ix <| nl 13 rfl rfl rfl <| ed_int <| ix_tup rfl ⟨?_, ?_⟩
      · rw [hI, List.length_map, List.length_take]; omega
      · dsimp only at hI ⊢; rw [hI, take_succ hq', List.map_append]; rfl
    rw [List.length_map, List.take_length] at hI
    subst hI
    refine ⟨_, rfl, by rw [List.all_map, List.all_eq_true]; intro _ _; rfl, nl 9 rfl rfl rfl ⟨rfl, b, .str q.1, by rw [List.getElem?_map, hb]; rfl, by show (q.1 == q.1) = true; simp, fun m z' hm hz' => ?_, ?_⟩⟩
    · rw [List.getElem?_map] at hz'
      obtain ⟨q', hq', rfl⟩ := Option.map_eq_some_iff.mp hz'
      have := first_idx hpw hb m q' hm hq'
      show (q'.1 == q.1) = false
      exact beq_eq_false_iff_ne.mpr this
    have hbl := (List.getElem?_eq_some_iff.mp hb).1
    refine ⟨_, rfl, sl_lst ?_⟩
    rw [cutD_map, cutD_to]
    refine .inl ⟨_, rfl, fun m Γ => ∃ o11 o12 : Option (Bool × D), Γ = [some (false, folD K sg rows), some (false, graD K g), some (false, .lst (qs.map D.str)), some (false, .str z), some (false, .dN w true (stepsD sg rows g (nodes sg rows g))), some (false, .lst (befD w sg rows g (k + 1))), some (false, nodeD n), some (false, intD l), some (false, intD (v + sumOn sg rows g l (L.take m))), some (false, .str q.1), some (false, .lst (L.map stepD)), o11, o12, none],
      ⟨o11, o12, by simp [sumOn]⟩, fun m d Γ' hd ⟨o11, o12, eΓ⟩ => ?_, fun Γ' ⟨o11, o12, eΓ⟩ => ?_⟩
    · subst eΓ
      obtain ⟨q', hq', rfl⟩ := map_get hd
      have hmb : m < b := by
        have := (List.getElem?_eq_some_iff.mp hq').1
        rw [List.length_take] at this
        omega
      rw [List.getElem?_take_of_lt hmb] at hq'
      obtain ⟨d1, d2, d3⟩ := hmL q' (List.mem_of_getElem? hq')
      have h17 := pcs_len hT _ d1
      have hat : L2.atI (befD w sg rows g (k + 1)) (((l : Nat) : Int) - ((q'.1.length : Nat) : Int)) = some (.dN w false (dictN sg rows g (nodes sg rows g) (l - q'.1.length))) := by
        rw [show ((l : Nat) : Int) - ((q'.1.length : Nat) : Int) = ((l - q'.1.length : Nat) : Int) by omega]
        exact bef_at (by omega)
      refine td_two rfl <| td_name (i := 11) nd rfl (.inl rfl) <| td_name (i := 12) nd rfl (.inl rfl) ?_
      refine wd_one <| w_augAdd nd rfl (.inl rfl) rfl (i := 8) (ed_nget2 (ed_ix <| nl 5 rfl rfl rfl <| ed_bin <| nc 7 rfl rfl rfl <| len_ T.zlen <| nl 11 rfl rfl rfl ⟨_, len_str (by omega), sub_ii <| ix_lst hat ⟨_, _, rfl, nl 12 rfl rfl rfl ⟨nodeK q'.2, rfl, ed_int ?_⟩⟩⟩) hu)
      rw [show D.int 0 = intD 0 from rfl, dictN_val d2]
      refine ⟨_, rfl, some (false, .str q'.1), some (false, nodeD q'.2), ?_⟩
      rw [sumOn_succ hq']
      rw [show (((v + sumOn sg rows g l (L.take m) : Nat) : Int) + ((cnt sg rows g (l - q'.1.length) q'.2 : Nat) : Int)) = ((v + (sumOn sg rows g l (L.take m) + cnt sg rows g (l - q'.1.length) q'.2) : Nat) : Int) by omega]
      rfl
    · subst eΓ
      rw [List.length_map, List.length_take, Nat.min_eq_left (Nat.le_of_lt hbl)]
      have n1 := (nodesTo_mem.mp hn).1
      have hq2 : q.2 = (q.2.1, some q.1) := Prod.ext rfl c5
      refine wd_cons <| w_augSub nd rfl (.inr rfl) rfl (i := 7) (len_ T.zlen <| nl 9 rfl rfl rfl ⟨_, len_str (by omega), _, rfl, ?_⟩)
      refine wd_one <| asg 6 nd rfl rfl <| ed_tup <| ea_cons <| meth T.kGrammar T.mGrammar_leads (p_Grammar_leads T) (hr.mono (by decide)) <| nl 1 rfl rfl rfl ⟨rfl, rfl, ea_cons <| ed_ix <| nl 6 rfl rfl rfl <| ed_int <| ix_tup rfl <| ea_cons <| nl 9 rfl rfl rfl <| ea_nil ⟨rfl, g, n.1, q.1, rfl, n1, by omega, ?_⟩⟩
      rw [c4]
      refine ea_cons <| nl 9 rfl rfl rfl <| ea_nil ⟨(by show 2 ≤ sizeLine; decide), l - q.1.length, r', v + sumOn sg rows g l (L.take b), q.2, some (false, .str q.1), some (false, .lst (L.map stepD)), o11, o12, ?_, by omega, c2, hx1, by omega⟩
      rw [show ((l : Nat) : Int) - ((q.1.length : Nat) : Int) = ((l - q.1.length : Nat) : Int) by omega, hq2]
      rfl
  · subst eΓ
    rw [List.length_map, List.drop_length] at hrow
    have hr0 : r = 0 := by
      cases l with
      | zero =>
        rw [rowsL_zero] at hrow
        split at hrow
        · have := (List.getElem?_eq_some_iff.mp hrow).1
          simpa using this
        · simp at hrow
      | succ l =>
        rw [rowsL_on hT hg hn (by omega)] at hrow
        obtain ⟨b, q, r', hb, _, hx⟩ := flatMap_inv hrow
        unfold blk at hx
        rw [List.getElem?_map] at hx
        obtain ⟨_, _, e⟩ := Option.map_eq_some_iff.mp hx
        cases e
    have : v = i0 := by omega
    subst this
    exact wd_one <| w_ret <| nl 8 rfl rfl rfl h3
end
end Lw

namespace Lw
open PySem L2 DL TL
/-! ### the law's own sweeping -/
def lawStep (l r : Str) (acc : List Str) (x : Str) : List Str := if x = r ∧ acc.getLast? = some l then acc.set (acc.length - 1) (l ++ r) else acc ++ [x]
theorem set_last {acc : List Str} {a b : Str} : (acc ++ [a]).set ((acc ++ [a]).length - 1) b = acc ++ [b] := by
  rw [List.length_append, List.length_cons, List.length_nil, Nat.add_sub_cancel, List.set_append_right _ _ (Nat.le_refl _), Nat.sub_self]; rfl
theorem lawStep_fold {l r : Str} (hr : 1 ≤ r.length) : ∀ (xs acc : List Str), ¬ (acc.getLast? = some l ∧ xs.head? = some r) → xs.foldl (lawStep l r) acc = acc ++ joinRow l r xs
  | [], acc, _ => by unfold joinRow; simp
  | [a], acc, h => by
    show lawStep l r acc a = _
    unfold lawStep joinRow
    rw [if_neg fun z => h ⟨z.2, by rw [z.1]; rfl⟩]
  | a :: b :: t, acc, h => by
    have e0 : lawStep l r acc a = acc ++ [a] := if_neg fun z => h ⟨z.2, by rw [z.1]; rfl⟩
    show (b :: t).foldl (lawStep l r) (lawStep l r acc a) = _
    rw [e0]
    by_cases e : a = l ∧ b = r
    · obtain ⟨rfl, rfl⟩ := e
      have e1 : lawStep a b (acc ++ [a]) b = acc ++ [a ++ b] := by
        unfold lawStep
        rw [if_pos ⟨rfl, by simp⟩, set_last]
      show t.foldl (lawStep a b) (lawStep a b (acc ++ [a]) b) = _
      rw [e1, lawStep_fold hr t (acc ++ [a ++ b]) fun z => by
        have := z.1
        rw [List.getLast?_append] at this
        exact app_ne_left hr (by simpa using this)]
      conv => rhs; unfold joinRow
      rw [if_pos ⟨rfl, rfl⟩]; simp
    · rw [lawStep_fold hr (b :: t) (acc ++ [a]) fun z => e ⟨by have := z.1; simpa using this, by have := z.2; simpa using this⟩]
      conv => rhs; unfold joinRow
      rw [if_neg e]; simp
theorem lawStep_join {l r : Str} (hr : 1 ≤ r.length) (xs : List Str) : xs.foldl (lawStep l r) [] = joinRow l r xs := by
  rw [lawStep_fold hr xs [] fun z => (nomatch z.1)]; rfl
section
variable {P : Program} {w : World} {K : PySem.W.Frag} {mg : Str → Option Value} {base : Heap}
def phLawCut : Ph := fun ds rt _ => ∃ (s : Str) (rows : List Row) (z : Str), ds = [.lst (rows.map rowD), .str z] ∧ tabErr s rows = none ∧ z.length ≤ 1000 ∧ TxOf s z ∧ rt false (.lst ((cutting rows z).map D.str))
theorem p__law_cut (T : Txt K mg) : FnD P w K mg base 1 (He.fAd K ("_law_cut", none)) 2 phLawCut := mk_law_cut T fun cdv A outer s H E hr ds rt xs hφ hl => by
  obtain ⟨sg, rows, z, rfl, hT, hz, htx, h⟩ := hφ
  have hpos := tab_pos hT
  have nd := sc_law_cut.nd
  have big : (2000 : Nat) ≤ sizeLine := by decide
  have hls := pcs_ls hT
  have hok : ∀ ys : List Str, (∀ y ∈ ys, y ∈ pcs sg rows) → eqOk (.lst (ys.map D.str)) = true := fun ys hy => Emb.str.lst.ok (by decide) fun y hm => (hls y (hy y hm)).2.strOk
  refine wd_cons <| asg 2 nd rfl rfl <| listT T.zlist <| nl 1 rfl rfl rfl ⟨z, rfl, by omega, ?_⟩
  refine wd_know 2 rfl <| wd_cons <| w_for rfl <| ei_list <| nl 0 rfl rfl rfl <| .inl ⟨_, rfl, fun i Γ => ∃ (ys : List Str) (o3 o4 o5 o6 : Option (Bool × D)), Γ = [some (false, .lst (rows.map rowD)), some (false, .str z), some (false, .lst (ys.map D.str)), o3, o4, o5, o6] ∧ ys.length ≤ z.length ∧ (∀ y ∈ ys, y ∈ pcs sg rows) ∧ ys = sweepR (rows.take i) (signs z),
    ⟨signs z, none, none, none, none, rfl, by rw [signs_length]; exact Nat.le_refl _, fun y hy => (by unfold signs at hy; obtain ⟨c, hc, rfl⟩ := List.mem_map.mp hy; exact one_pc rows htx hc), rfl⟩, fun i d Γ' hd ⟨ys, o3, o4, o5, o6, e, hyl, hyp, hys⟩ => ?_, fun Γ' ⟨ys, o3, o4, o5, o6, e, hyl, hyp, hys⟩ => ?_⟩
  · subst e
    obtain ⟨⟨l, r⟩, hr1, rfl⟩ := map_get hd
    have hm := List.mem_of_getElem? hr1
    obtain ⟨m1, m2, m3⟩ := tab_rows hT (l, r) hm
    dsimp only at m1 m2 m3
    have mj : l ++ r ∈ pcs sg rows := List.mem_append_right _ (List.mem_map.mpr ⟨(l, r), hm, rfl⟩)
    refine td_two rfl <| td_name (i := 3) nd rfl (.inl rfl) <| td_name (i := 4) nd rfl (.inl rfl) ?_
    refine wd_cons <| asg 5 nd rfl rfl <| ed_lst <| ea_nil ⟨by decide, ?_⟩
    refine wd_cons <| w_for rfl <| ei_list <| nl 2 rfl rfl rfl <| .inl ⟨_, rfl, fun j Γ => ∃ (fs : List Str) (o6 : Option (Bool × D)), Γ = [some (false, .lst (rows.map rowD)), some (false, .str z), some (false, .lst (ys.map D.str)), some (false, .str l), some (false, .str r), some (true, .lst (fs.map D.str)), o6] ∧ fs.length ≤ j ∧ (∀ y ∈ fs, y ∈ pcs sg rows) ∧ fs = (ys.take j).foldl (lawStep l r) [],
      ⟨[], o6, rfl, Nat.le_refl _, fun _ h => (nomatch h), rfl⟩, fun j d Γ' hd ⟨fs, o6, e, hfl, hfp, hfe⟩ => ?_, fun Γ' ⟨fs, o6, e, hfl, hfp, hfe⟩ => ?_⟩
    · subst e
      obtain ⟨p, hp, rfl⟩ := map_get hd
      have hj : j < ys.length := (List.getElem?_eq_some_iff.mp hp).1
      have pm := hyp p (List.mem_of_getElem? hp)
      refine td_name (i := 6) nd rfl (.inl rfl) ?_
      have lf : (fs.map D.str).length < sizeLine := by rw [List.length_map]; omega
      have hnext : (ys.take (j + 1)).foldl (lawStep l r) [] = lawStep l r fs p := by
        rw [take_succ hp, List.foldl_append, ← hfe]; rfl
      have other : ¬ (p = r ∧ fs.getLast? = some l) → ∃ (fs' : List Str) (o6' : Option (Bool × D)), [some (false, D.lst (rows.map rowD)), some (false, .str z), some (false, .lst (ys.map D.str)), some (false, .str l), some (false, .str r), some (true, .lst (fs.map D.str ++ [.str p])), some (false, .str p)] =
          [some (false, .lst (rows.map rowD)), some (false, .str z), some (false, .lst (ys.map D.str)), some (false, .str l), some (false, .str r), some (true, .lst (fs'.map D.str)), o6'] ∧ fs'.length ≤ j + 1 ∧ (∀ y ∈ fs', y ∈ pcs sg rows) ∧ fs' = (ys.take (j + 1)).foldl (lawStep l r) [] := fun hno =>
        ⟨fs ++ [p], some (false, .str p), by rw [List.map_append]; rfl, by rw [List.length_append]; simp only [List.length_cons, List.length_nil]; omega, fun y hy => (by
          rcases List.mem_append.mp hy with h | h
          · exact hfp y h
          · rw [List.mem_singleton.mp h]; exact pm), by rw [hnext]; exact (if_neg hno).symm⟩
      refine wd_one <| w_if <| et_w <| ew_and <| et_cmp <| nl 6 rfl rfl rfl <| nl 4 rfl rfl rfl <| eq_ss ⟨fun e1 => ?_, fun e1 => ⟨fun e => (nomatch e), fun _ => wd_one <| app 5 rfl (.inl rfl) rfl <| nl 6 rfl rfl rfl ⟨lf, other fun z => by rw [decide_eq_true z.1] at e1; cases e1⟩⟩⟩
      refine ew_and <| et_cmp <| nl 5 rfl rfl rfl <| ed_lst <| ea_nil ⟨by decide, ne_dd hr.units (hok fs hfp) (by decide +kernel) ?_⟩
      rw [eqD_nil]
      refine ⟨fun e => ?_, fun e2 => ⟨fun e => (nomatch e), fun _ => wd_one <| app 5 rfl (.inl rfl) rfl <| nl 6 rfl rfl rfl ⟨lf, other fun z => by
        cases fs with
        | nil => cases z.2
        | cons _ _ => cases e2⟩⟩⟩
      have hne : fs ≠ [] := fun z => by rw [z] at e; cases e
      obtain ⟨la, lm, lt⟩ := atI_last hne
      have hla : fs.getLast? = some la := by
        unfold L2.atI at lt
        rw [ixN_last (List.length_pos_iff.mpr hne)] at lt
        rw [List.getLast?_eq_getElem?]; exact lt
      refine ew_and1 <| et_cmp <| ed_ix <| nl 5 rfl rfl rfl <| ed_neg <| ed_int ⟨1, rfl, ix_lst (atI_map D.str lt) <| nl 3 rfl rfl rfl <| eq_ss ⟨fun e3 => ?_, fun e3 => wd_one <| app 5 rfl (.inl rfl) rfl <| nl 6 rfl rfl rfl ⟨lf, other fun z => by
        rw [hla] at z
        rw [decide_eq_true (Option.some.inj z.2)] at e3; cases e3⟩⟩⟩
      refine wd_one <| w_setI (i := 5) rfl (.inl rfl) rfl <| ed_bin <| nl 3 rfl rfl rfl <| nl 4 rfl rfl rfl <| add_ss (by omega) <| ed_neg <| ed_int ⟨1, rfl, -1, _, rfl, ixN_last (by rw [List.length_map]; exact List.length_pos_iff.mpr hne), fs.set (fs.length - 1) (l ++ r), some (false, .str p), ?_, ?_, ?_, ?_⟩
      · rw [List.map_set, List.length_map]; rfl
      · rw [List.length_set]; omega
      · intro y hy
        rcases List.mem_or_eq_of_mem_set hy with h | h
        · exact hfp y h
        · rw [h]; exact mj
      · rw [hnext]
        exact (if_pos ⟨of_decide_eq_true e1, by rw [hla, of_decide_eq_true e3]⟩).symm
    · subst e
      rw [List.length_map] at hfl
      rw [List.length_map, List.take_length, lawStep_join (hpos (l, r) hm).2] at hfe
      refine wd_know 5 rfl <| wd_one <| asg 2 nd rfl rfl <| nl 5 rfl rfl rfl ?_
      exact ⟨fs, _, _, _, _, rfl, by omega, hfp, by rw [hfe, hys, take_succ hr1, sweepR_append]; rfl⟩
  · subst e
    rw [List.length_map, List.take_length] at hys
    rw [hys]
    exact wd_one <| w_ret <| nl 2 rfl rfl rfl h
end
end Lw

namespace Lw
open PySem L2 DL TL
/-! ### the law's grammars -/
def gramT (g : Gram) : D := .tup [intD g.many, .lst (g.ways.map wayD), .lst (g.ends.map intD)]
def sizesG : List Int := [4, 2] ++ List.replicate 48 60 ++ List.replicate 4 2
/-- ways so far: by other states and signs each -/
structure WOk (z : List Nat) (m : Nat) (ws : List Way) : Prop where
  k : ∀ q ∈ ws, q.1 < m ∧ q.2.1 ∈ z ∧ q.2.2 < m
  n : (ws.map fun q => (q.1, q.2.1)).Nodup
theorem WOk.len {z : List Nat} {m : Nat} {ws : List Way} (h : WOk z m ws) : ws.length ≤ m * z.length := by
  rw [← List.length_map (f := fun q : Way => (q.1, q.2.1))]
  have := nodup_len (ys := (List.range m).flatMap fun i => z.map fun c => (i, c)) h.n fun x hx => by
    obtain ⟨q, hq, rfl⟩ := List.mem_map.mp hx
    obtain ⟨a, b, _⟩ := h.k q hq
    exact List.mem_flatMap.mpr ⟨q.1, List.mem_range.mpr a, List.mem_map.mpr ⟨q.2.1, b, rfl⟩⟩
  refine Nat.le_trans this ?_
  clear this h
  induction m with
  | zero => simp
  | succ m ih => rw [List.range_succ, List.flatMap_append, List.length_append, Nat.succ_mul]; simp; simpa using ih
theorem nodup_rev {α : Type} {l : List α} (h : l.Nodup) : l.reverse.Nodup := List.pairwise_reverse.mpr (h.imp fun h => Ne.symm h)
theorem WOk.rev {z : List Nat} {m : Nat} {ws : List Way} (h : WOk z m ws) : WOk z m ws.reverse :=
  ⟨fun q hq => h.k q (List.mem_reverse.mp hq), by rw [List.map_reverse]; exact nodup_rev h.n⟩
theorem gram_ok {z : List Nat} {m : Nat} {ws : List Way} {es : List Nat} (hz : z.length ≤ 12) (hs : ∀ c ∈ z, isSg c = true) (m1 : 1 ≤ m) (m4 : m ≤ 4) (h : WOk z m ws) (he : ∀ e ∈ es, e < m) (hn : es.Nodup) : (⟨m, ws, es⟩ : Gram).Ok where
  m1 := m1
  m4 := m4
  wl := by
    have := h.len
    have : m * z.length ≤ 4 * 12 := Nat.mul_le_mul m4 hz
    show ws.length ≤ 48
    omega
  wk := fun q hq => ⟨(h.k q hq).1, hs _ (h.k q hq).2.1, (h.k q hq).2.2⟩
  wn := h.n
  ek := he
  en := hn
end Lw

namespace Lw
open PySem L2 DL TL
/-! ### the law's count, sign by sign -/
def fwd (ws : List Way) (Z : List (List Nat)) (t : Nat) : Nat := (Z.filter fun z => decide (leadsL ws (some 0) z = some t)).length
theorem sum_zero {α : Type} : ∀ l : List α, (l.map fun _ => 0).sum = 0
  | [] => rfl
  | a :: t => by rw [List.map_cons, List.sum_cons, sum_zero t]
theorem sum_one {h : Nat → Nat} {o : Option Nat} : ∀ m : Nat, (∀ st, o = some st → st < m) → ((List.range m).map fun st => if o = some st then h st else 0).sum = match o with | none => 0 | some st => h st
  | m, hm => by
    cases o with
    | none =>
      clear hm
      induction m with
      | zero => rfl
      | succ m ih => rw [List.range_succ, List.map_append, List.sum_append, ih]; simp
    | some u =>
      have hu := hm u rfl
      show _ = h u
      clear hm
      induction m with
      | zero => omega
      | succ m ih =>
        rw [List.range_succ, List.map_append, List.sum_append]
        by_cases e : u < m
        · rw [ih e]
          have : ¬ u = m := by omega
          simp [this]
        · have e : u = m := by omega
          subst e
          have z : ((List.range u).map fun st => if some u = some st then h st else 0).sum = 0 := by
            have : (List.range u).map (fun st => if some u = some st then h st else 0) = (List.range u).map fun _ => 0 := List.map_congr_left fun x hx => by
              have := List.mem_range.mp hx
              rw [if_neg]
              intro e; injection e with e; omega
            rw [this]; exact sum_zero _
          rw [z]; simp
theorem sum_add {α : Type} {f g : α → Nat} : ∀ l : List α, (l.map fun x => f x + g x).sum = (l.map f).sum + (l.map g).sum
  | [] => rfl
  | a :: t => by rw [List.map_cons, List.map_cons, List.map_cons, List.sum_cons, List.sum_cons, List.sum_cons, sum_add t]; omega
theorem sum_filter {α : Type} (p : α → Bool) : ∀ l : List α, (l.map fun x => if p x = true then 1 else 0).sum = (l.filter p).length
  | [] => rfl
  | a :: t => by
    rw [List.map_cons, List.sum_cons, sum_filter p t, List.filter_cons]
    by_cases h : p a = true
    · rw [if_pos h, if_pos h, List.length_cons]; omega
    · rw [if_neg h, if_neg h]; omega
theorem ixN_of {n j : Nat} (hj : j < n) : ixN n (j : Int) = some j := by
  unfold ixN
  rw [if_pos (by omega)]
  simp [hj]
/-- how many signs lead from a state to t -/
def hop (ws : List Way) (cs : List Nat) (t st : Nat) : Nat := (cs.filter fun c => decide (stepK ws st c = some t)).length
theorem fwd_app (ws : List Way) (A B : List (List Nat)) (t : Nat) : fwd ws (A ++ B) t = fwd ws A t + fwd ws B t := by
  unfold fwd; rw [List.filter_append, List.length_append]
theorem fwd_step {g : Gram} (hg : g.Ok) (cs : List Nat) (t : Nat) : ∀ Z : List (List Nat), fwd g.ways (Z.flatMap fun z => cs.map fun c => z ++ [c]) t = ((List.range g.many).map fun st => hop g.ways cs t st * fwd g.ways Z st).sum
  | [] => by
    show 0 = _
    have : (List.range g.many).map (fun st => hop g.ways cs t st * fwd g.ways [] st) = (List.range g.many).map fun _ => 0 := List.map_congr_left fun x _ => rfl
    rw [this, sum_zero]
  | z :: Z => by
    rw [List.flatMap_cons, fwd_app, fwd_step hg cs t Z]
    have e1 : fwd g.ways (cs.map fun c => z ++ [c]) t = match leadsL g.ways (some 0) z with | none => 0 | some st => hop g.ways cs t st := by
      unfold fwd
      rw [List.filter_map, List.length_map]
      have : ((fun z => decide (leadsL g.ways (some 0) z = some t)) ∘ fun c => z ++ [c]) = fun c => decide (stepO g.ways (leadsL g.ways (some 0) z) c = some t) := by
        funext c
        show decide (leadsL g.ways (some 0) (z ++ [c]) = some t) = _
        rw [leadsL_app]; rfl
      rw [this]
      cases leadsL g.ways (some 0) z with
      | none =>
        show (cs.filter fun c => decide ((none : Option Nat) = some t)).length = 0
        simp
      | some st => rfl
    have e2 := sum_one (h := hop g.ways cs t) (o := leadsL g.ways (some 0) z) g.many fun st e => leadsL_lt hg (fun s h => by cases h; exact hg.m1) e
    rw [e1, ← e2, ← sum_add]
    congr 1
    refine List.map_congr_left fun st _ => ?_
    have : fwd g.ways (z :: Z) st = (if leadsL g.ways (some 0) z = some st then 1 else 0) + fwd g.ways Z st := by
      unfold fwd
      rw [List.filter_cons]
      by_cases h : leadsL g.ways (some 0) z = some st
      · rw [if_pos (decide_eq_true h), if_pos h, List.length_cons]; omega
      · rw [if_neg (by simpa using h), if_neg h]; omega
    rw [this]
    by_cases h : leadsL g.ways (some 0) z = some st
    · rw [if_pos h, if_pos h, Nat.mul_add, Nat.mul_one]
    · rw [if_neg h, if_neg h, Nat.zero_add, Nat.zero_add]
theorem sum_ends {ws : List Way} {es : List Nat} (hn : es.Nodup) : ∀ Z : List (List Nat), (es.map (fwd ws Z)).sum = (Z.filter fun z => match leadsL ws (some 0) z with | none => false | some t => decide (t ∈ es)).length
  | [] => by
    have : es.map (fwd ws []) = es.map fun _ => 0 := List.map_congr_left fun _ _ => rfl
    rw [this, sum_zero]; rfl
  | z :: Z => by
    have ih := sum_ends hn Z (ws := ws)
    have : es.map (fwd ws (z :: Z)) = es.map fun t => (if leadsL ws (some 0) z = some t then 1 else 0) + fwd ws Z t := List.map_congr_left fun t _ => by
      unfold fwd
      rw [List.filter_cons]
      by_cases h : leadsL ws (some 0) z = some t
      · rw [if_pos (decide_eq_true h), if_pos h, List.length_cons]; omega
      · rw [if_neg (by simpa using h), if_neg h]; omega
    rw [this, sum_add, ih, List.filter_cons]
    cases ho : leadsL ws (some 0) z with
    | none =>
      have : es.map (fun t => if (none : Option Nat) = some t then 1 else 0) = es.map fun _ => 0 := List.map_congr_left fun _ _ => rfl
      rw [this, sum_zero]; simp
    | some u =>
      have : (es.map fun t => if some u = some t then 1 else 0).sum = if u ∈ es then 1 else 0 := by
        clear ih this
        induction es with
        | nil => rfl
        | cons e r ih =>
          obtain ⟨h1, h2⟩ := List.nodup_cons.mp hn
          rw [List.map_cons, List.sum_cons, ih h2]
          by_cases q : u = e
          · subst q
            rw [if_neg h1]; simp
          · have q' : ¬ some u = some e := fun z => q (Option.some.inj z)
            rw [if_neg q']
            simp [q]
      rw [this]
      by_cases q : u ∈ es
      · rw [if_pos q, if_pos (by simpa using q), List.length_cons]; omega
      · rw [if_neg q, if_neg (by simpa using q)]; omega
/-- the number of texts of so many signs that the grammar tells -/
def texts (s : Str) (g : Gram) (l : Nat) : Nat := ((allT (tl s) l).filter (tellsL g)).length
theorem texts_ends {s : Str} {g : Gram} (hg : g.Ok) (l : Nat) : (g.ends.map (fwd g.ways (allT (tl s) l))).sum = texts s g l := sum_ends hg.en _
/-- the new numbers, behind i states and j signs of the next -/
def newN (ws : List Way) (cs : List Nat) (Z : List (List Nat)) (i j t : Nat) : Nat := ((List.range i).map fun st => hop ws cs t st * fwd ws Z st).sum + hop ws (cs.take j) t i * fwd ws Z i
theorem hop_snoc {ws : List Way} {cs : List Nat} {t st j c : Nat} (h : cs[j]? = some c) : hop ws (cs.take (j + 1)) t st = hop ws (cs.take j) t st + if stepK ws st c = some t then 1 else 0 := by
  unfold hop
  rw [take_succ h, List.filter_append, List.length_append]
  congr 1
  by_cases e : stepK ws st c = some t
  · rw [if_pos e, List.filter_cons_of_pos (p := fun c => decide (stepK ws st c = some t)) (decide_eq_true e)]; rfl
  · rw [if_neg e, List.filter_cons_of_neg (p := fun c => decide (stepK ws st c = some t)) (by simpa using e)]; rfl
theorem newN_all (ws : List Way) (cs : List Nat) (Z : List (List Nat)) (i t : Nat) : newN ws cs Z i cs.length t = newN ws cs Z (i + 1) 0 t := by
  unfold newN
  rw [List.take_length, List.range_succ, List.map_append, List.sum_append]
  simp [hop]
theorem newN_zero (ws : List Way) (cs : List Nat) (Z : List (List Nat)) (t : Nat) : newN ws cs Z 0 0 t = 0 := by
  unfold newN; simp [hop]
theorem newN_end {g : Gram} (hg : g.Ok) (cs : List Nat) (Z : List (List Nat)) (t : Nat) : newN g.ways cs Z g.many 0 t = fwd g.ways (Z.flatMap fun z => cs.map fun c => z ++ [c]) t := by
  rw [fwd_step hg]
  unfold newN; simp [hop]
theorem set_range {m t v : Nat} {f : Nat → Nat} (h : t < m) : ((List.range m).map fun x => intD (f x)).set t (intD v) = (List.range m).map fun x => intD (if x = t then v else f x) := by
  apply List.ext_getElem?
  intro i
  rw [List.getElem?_set, List.getElem?_map, List.getElem?_map, List.length_map, List.length_range]
  by_cases e : t = i
  · subst e
    rw [if_pos rfl, if_pos h, List.getElem?_range h]
    simp
  · rw [if_neg e]
    by_cases hi : i < m
    · rw [List.getElem?_range hi]
      have : ¬ i = t := fun z => e z.symm
      simp [this]
    · rw [List.getElem?_eq_none (by rw [List.length_range]; omega)]; rfl
end Lw

namespace DL
open PySem L2
section
variable {X : Cx} {ex : Exn → Prop} {Γ : En} {R : Bool → D → Prop} {pos p : Pos}
theorem shr_ii {i j : Int} (hc : 0 ≤ j) (h : R false (.int (i / 2 ^ j.toNat))) : BinR X .RShift (.int i) (.int j) R := .of op_shr fun G H x y E r1 r2 Q k => by
  cases r1; cases r2
  exact ⟨i, j, rfl, rfl, hc, k _ _ _ G H h (.refl E) .int⟩
theorem and_ii {i j : Int} (h : R false (.int (Builtin.bitAnd i j))) : BinR X .BitAnd (.int i) (.int j) R := .of op_and fun G H x y E r1 r2 Q k => by
  cases r1; cases r2
  exact ⟨i, j, rfl, rfl, k _ _ _ G H h (.refl E) .int⟩
/-- sorted(list of ints) -/
theorem sorted_ {a : Expr} (hm : X.mg "sorted" = none) (h : ED X ex a Γ fun _ d => ∃ ns : List Int, d = .lst (ns.map D.int) ∧ ns.length < 64 ∧ ∀ ms : List Int, ms.Perm ns → ms.Pairwise (· ≤ ·) → R true (.lst (ms.map D.int))) (hg : Gl X "sorted" := by rfl)
    (h1 : starEach (a :: []) X.env = (false, eval a X.env) :: starEach [] X.env := by rfl) (hpl : (backTo pos (starEach [] X.env)).any (·.1) = false := by rfl) : ED X ex (.Call (.Name "sorted" p) [a] [] pos) Γ R := by
  refine ed_cb cr_sorted hm (by decide +kernel) hg (ea_cons (h.imp fun _ d hd => ea_nil fun vs G H E r Q k => ?_) h1) (by decide) (by decide) h1 hpl
  obtain ⟨ns, rfl, h0, hR⟩ := hd
  obtain ⟨v, rfl, rr⟩ := rep1 r
  cases rr with
  | lst hp q =>
    rw [q.ints] at hp
    refine ⟨_, ns, rfl, SqL.of (E _ _ hp), h0, fun ms t p1 p2 ht => ?_⟩
    exact k true (.lst (ms.map D.int)) (.ref t) G _ (hR ms p1 p2) (.alloc E ht) ⟨t, rfl, ht, E.gfree ht, .lst upd_same (Reps.ofInts ms)⟩
end
section
variable {X : Cx} {Γ : En} {pos : Pos}
theorem tc_three {t1 t2 t3 : Expr} {k1 : Nat} {d1 d2 d3 : D} {vs : List Nat} {R : En → Prop} (hc : X.calm = true) (h : TC X t1 d1 Γ vs fun Γ' => TC X t2 d2 Γ' vs fun Γ' => TC X t3 d3 Γ' vs R)
    (hn : (assignEach [t1, t2, t3] X.env).length = 3 := by rfl) (hst : (assignEach [t1, t2, t3] X.env).findIdx? (·.1) = none := by rfl)
    (ha : (assignEach [t1, t2, t3] X.env).map (·.2) = assign t1 X.env :: (assignEach [t2, t3] X.env).map (·.2) := by rfl) (hb : (assignEach [t2, t3] X.env).map (·.2) = assign t2 X.env :: (assignEach [t3] X.env).map (·.2) := by rfl)
    (hb3 : (assignEach [t3] X.env).map (·.2) = assign t3 X.env :: (assignEach [] X.env).map (·.2) := by rfl) : TC X (.Tuple [t1, t2, t3] k1 pos) (.tup [d1, d2, d3]) Γ vs R := by
  intro σ G H E v r Q k
  refine tWg_of (pg_tup hc (pgs_cons (t := tWg X t1) pg_W (pgs_cons (t := tWg X t2) pg_W (pgs_cons (t := tWg X t3) pg_W pgs_nil hb3) hb) ha) hn hst) ?_
  cases r with
  | tup hp q =>
    cases q with
    | cons r1 q =>
      obtain ⟨v2, v3, rfl, r2, r3⟩ := rep2 q
      refine ⟨_, _, rfl, SqT.of (E.ext _ _ hp), rfl, _, [v2, v3], rfl, ?_⟩
      refine h σ G H E _ r1 _ fun Γ1 σ1 h1 E1 w1 => ?_
      refine ⟨v2, [v3], rfl, ?_⟩
      refine h1 σ1 G H E1 v2 r2 _ fun Γ2 σ2 h2 E2 w2 => ⟨v3, [], rfl, ?_⟩
      exact h2 σ2 G H E2 v3 r3 _ fun Γ3 σ3 h3 E3 w3 => ⟨rfl, k Γ3 σ3 h3 E3 (w3.trans (w2.trans w1))⟩
end
end DL
namespace Lw
open PySem L2 DL TL
/-! ### the rows stand in the order of their pieces' numbers -/
def idxI (ps : List Str) (p : Str) : Int := ((idx p ps).getD 0 : Nat)
theorem idx_pw {ps : List Str} (h : ps.Nodup) : ps.Pairwise fun a b => idxI ps a < idxI ps b := by
  refine List.pairwise_iff_getElem.mpr fun i j hi hj hij => ?_
  unfold idxI
  rw [idx_at h (List.getElem?_eq_getElem hi), idx_at h (List.getElem?_eq_getElem hj)]
  show ((i : Nat) : Int) < ((j : Nat) : Int)
  omega
section
variable {s : Str} {rows : List Row} {g : Gram}
theorem rows_lex (hT : tabErr s rows = none) (hg : g.Ok) : ∀ (l : Nat) (n : Node), n ∈ nodes s rows g → (rowsL s rows g l n).Pairwise fun a b => HT.lexLt (a.map (idxI (pcs s rows))) (b.map (idxI (pcs s rows))) = true := by
  intro l
  induction l using Nat.strongRecOn with
  | ind l ih =>
    intro n hn
    cases l with
    | zero =>
      rw [rowsL_zero]
      split
      · exact List.pairwise_singleton _ _
      · exact List.Pairwise.nil
    | succ l =>
      rw [rowsL_succ hT hg hn]
      have hpw : (nextP s rows n.2).Pairwise fun a b => idxI (pcs s rows) a < idxI (pcs s rows) b := by
        unfold nextP
        cases n.2 <;> exact (idx_pw (pcs_nodup hT)).filter _
      refine List.pairwise_flatMap.mpr ⟨fun q hq => ?_, ?_⟩
      · obtain ⟨m1, _, m3, _⟩ := steps_mem hT hg hn hq
        have hp := pcs_pos hT _ m1
        split
        · refine List.pairwise_map.mpr ((ih _ (by omega) q.2 m3).imp fun h => ?_)
          rw [List.map_cons, List.map_cons, HT.lexLt_cons, if_pos rfl]; exact h
        · exact List.Pairwise.nil
      · refine (steps_pw hpw).imp fun {a b} hab x hx y hy => ?_
        split at hx
        · split at hy
          · obtain ⟨x1, _, rfl⟩ := List.mem_map.mp hx
            obtain ⟨y1, _, rfl⟩ := List.mem_map.mp hy
            rw [List.map_cons, List.map_cons, HT.lexLt_cons, if_neg (by omega)]
            exact decide_eq_true hab
          · cases hy
        · cases hx
theorem rows_lt (hT : tabErr s rows = none) (hg : g.Ok) {l i j : Nat} {n : Node} {a b : List Str} (hn : n ∈ nodes s rows g) (hij : i < j) (ha : (rowsL s rows g l n)[i]? = some a) (hb : (rowsL s rows g l n)[j]? = some b) : HT.lexLt (a.map (idxI (pcs s rows))) (b.map (idxI (pcs s rows))) = true := by
  obtain ⟨i1, e1⟩ := List.getElem?_eq_some_iff.mp ha
  obtain ⟨i2, e2⟩ := List.getElem?_eq_some_iff.mp hb
  have := List.pairwise_iff_getElem.mp (rows_lex hT hg l n hn) i j i1 i2 hij
  rw [e1, e2] at this; exact this
end
/-! ### the texts counted from the end -/
def bwd (ws : List Way) (es cs : List Nat) (l st : Nat) : Nat := ((allT cs l).filter fun z => match leadsL ws (some st) z with | none => false | some t => decide (t ∈ es)).length
theorem texts_bwd (s : Str) (g : Gram) (l : Nat) : texts s g l = bwd g.ways g.ends (tl s) l 0 := rfl
theorem bwd_zero (ws : List Way) (es cs : List Nat) (st : Nat) : bwd ws es cs 0 st = if st ∈ es then 1 else 0 := by
  unfold bwd
  show (List.filter _ [[]]).length = _
  by_cases h : st ∈ es
  · rw [if_pos h, List.filter_cons_of_pos]
    · rfl
    · show decide (st ∈ es) = true
      exact decide_eq_true h
  · rw [if_neg h, List.filter_cons_of_neg]
    · rfl
    · show ¬ decide (st ∈ es) = true
      simpa using h
def hopB (f : Nat → Nat) : Option Nat → Nat
  | none => 0
  | some t => f t
theorem bwd_succ {ws : List Way} {es cs : List Nat} (hc : cs.Nodup) (l st : Nat) : bwd ws es cs (l + 1) st = (cs.map fun c => hopB (bwd ws es cs l) (stepK ws st c)).sum := by
  have same : ∀ (p : List Nat → Bool), ((allT cs (l + 1)).filter p).length = ((cs.flatMap fun c => (allT cs l).map fun z => c :: z).filter p).length := fun p => by
    have n1 := allT_nodup hc (l + 1)
    have n2 : (cs.flatMap fun c => (allT cs l).map fun z => c :: z).Nodup := by
      refine List.pairwise_flatMap.mpr ⟨fun c _ => List.pairwise_map.mpr ((allT_nodup hc l).imp fun h e => h (by injection e)), hc.imp fun {a b} hab x hx y hy e => ?_⟩
      obtain ⟨z, _, rfl⟩ := List.mem_map.mp hx
      obtain ⟨u, _, rfl⟩ := List.mem_map.mp hy
      injection e with e1 _
      exact hab e1
    have mem : ∀ z, z ∈ allT cs (l + 1) ↔ z ∈ cs.flatMap fun c => (allT cs l).map fun z => c :: z := fun z => by
      rw [allT_mem, List.mem_flatMap]
      refine ⟨fun ⟨h1, h2⟩ => ?_, fun ⟨c, hcm, h⟩ => ?_⟩
      · cases z with
        | nil => cases h1
        | cons c t =>
          have h1 : t.length + 1 = l + 1 := h1
          exact ⟨c, h2 c List.mem_cons_self, List.mem_map.mpr ⟨t, allT_mem.mpr ⟨by omega, fun x hx => h2 x (List.mem_cons_of_mem _ hx)⟩, rfl⟩⟩
      · obtain ⟨t, ht, rfl⟩ := List.mem_map.mp h
        obtain ⟨a, b⟩ := allT_mem.mp ht
        refine ⟨by show t.length + 1 = l + 1; omega, fun x hx => ?_⟩
        rcases List.mem_cons.mp hx with e | e
        · rw [e]; exact hcm
        · exact b x e
    refine Nat.le_antisymm (nodup_len (n1.filter p) fun z hz => ?_) (nodup_len (n2.filter p) fun z hz => ?_)
    · obtain ⟨a, b⟩ := List.mem_filter.mp hz
      exact List.mem_filter.mpr ⟨(mem z).mp a, b⟩
    · obtain ⟨a, b⟩ := List.mem_filter.mp hz
      exact List.mem_filter.mpr ⟨(mem z).mpr a, b⟩
  unfold bwd
  rw [same]
  generalize allT cs l = Z
  clear same hc
  induction cs with
  | nil => rfl
  | cons c t ih =>
    rw [List.flatMap_cons, List.filter_append, List.length_append, ih, List.map_cons, List.sum_cons]
    congr 1
    rw [List.filter_map, List.length_map]
    cases hs : stepK ws st c with
    | none =>
      show _ = 0
      rw [List.length_eq_zero_iff, List.filter_eq_nil_iff]
      intro z _
      show ¬ (match leadsL ws (stepO ws (some st) c) z with | none => false | some t => decide (t ∈ es)) = true
      have : stepO ws (some st) c = none := hs
      rw [this, leadsL_none]
      exact Bool.false_ne_true
    | some u =>
      show _ = (List.filter _ Z).length
      congr 1
      refine List.filter_congr fun z _ => ?_
      show (match leadsL ws (stepO ws (some st) c) z with | none => false | some t => decide (t ∈ es)) = _
      have : stepO ws (some st) c = some u := hs
      rw [this]
/-- by ways, instead of by signs -/
theorem hop_ways {cs : List Nat} (hc : cs.Nodup) (f : Nat → Nat) (st : Nat) : ∀ ws : List Way, (∀ q ∈ ws, q.2.1 ∈ cs) → (ws.map fun q => (q.1, q.2.1)).Nodup → (cs.map fun c => hopB f (stepK ws st c)).sum = (ws.map fun q => if q.1 = st then f q.2.2 else 0).sum
  | [], _, _ => by
    have : (cs.map fun c => hopB f (stepK [] st c)) = cs.map fun _ => 0 := List.map_congr_left fun _ _ => rfl
    rw [this, sum_zero]; rfl
  | q :: t, h, hn => by
    rw [List.map_cons] at hn
    obtain ⟨n1, n2⟩ := List.nodup_cons.mp hn
    rw [List.map_cons, List.sum_cons, ← hop_ways hc f st t (fun x hx => h x (List.mem_cons_of_mem _ hx)) n2]
    have hq := h q List.mem_cons_self
    have e : (cs.map fun c => hopB f (stepK (q :: t) st c)) = cs.map fun c => (if some q.2.1 = some c then (if q.1 = st then f q.2.2 else 0) else 0) + hopB f (stepK t st c) := by
      refine List.map_congr_left fun c _ => ?_
      by_cases hk : q.1 = st ∧ q.2.1 = c
      · obtain ⟨rfl, rfl⟩ := hk
        have s1 : stepK (q :: t) q.1 q.2.1 = some q.2.2 := by unfold stepK; rw [List.find?_cons_of_pos (by simp)]; rfl
        have s2 : stepK t q.1 q.2.1 = none := by
          unfold stepK
          rw [Option.map_eq_none_iff, List.find?_eq_none]
          intro z hz he
          have he := of_decide_eq_true he
          exact n1 (List.mem_map.mpr ⟨z, hz, Prod.ext he.1 he.2⟩)
        rw [s1, s2, if_pos rfl, if_pos rfl]; rfl
      · have s1 : stepK (q :: t) st c = stepK t st c := by unfold stepK; rw [List.find?_cons_of_neg (by simpa using hk)]
        rw [s1]
        by_cases e1 : q.2.1 = c
        · rw [if_pos (by rw [e1]), if_neg (fun z => hk ⟨z, e1⟩), Nat.zero_add]
        · rw [if_neg (fun z => e1 (Option.some.inj z)), Nat.zero_add]
    rw [e, sum_add]
    congr 1
    clear e
    generalize (if q.1 = st then f q.2.2 else 0) = v
    generalize q.2.1 = x at hq
    clear n1 hn h
    induction cs with
    | nil => cases hq
    | cons c r ih =>
      obtain ⟨c1, c2⟩ := List.nodup_cons.mp hc
      rw [List.map_cons, List.sum_cons]
      rcases List.mem_cons.mp hq with e | e
      · subst e
        have z : (r.map fun c => if some x = some c then v else 0) = r.map fun _ => 0 := List.map_congr_left fun y hy => by
          rw [if_neg]
          intro e; exact c1 (by rw [Option.some.inj e]; exact hy)
        rw [z, sum_zero, if_pos rfl]; rfl
      · rw [ih c2 e, if_neg]
        · omega
        · intro z; exact c1 (by rw [← Option.some.inj z]; exact e)
end Lw

namespace Lw
open PySem L2 DL TL
section
variable {P : Program} {w : World} {K : PySem.W.Frag} {mg : Str → Option Value} {base : Heap}
def phLawWays : Ph := fun ds rt _ => ∃ (ns : List Int) (m : Nat) (z : Str), ds = [.scr ns, intD m, .str z] ∧ 1 ≤ m ∧ m ≤ 4 ∧ z.length ≤ 4 ∧ (tl z).Nodup ∧ ∀ ws, WOk (tl z) m ws → rt true (.lst (ws.map wayD))
theorem p__law_ways (T : Txt K mg) : FnD P w K mg base 2 (He.fAd K ("_law_ways", none)) 3 phLawWays := mk_law_ways T fun cdv A outer s H E hr ds rt xs hφ hl => by
  obtain ⟨ns, m, z, rfl, m1, m4, hz, hnd, h⟩ := hφ
  have nd := sc_law_ways.nd
  have big : (2000 : Nat) ≤ sizeLine := by decide
  refine wd_cons <| asg 3 nd rfl rfl <| ed_lst <| ea_nil ⟨by decide, ?_⟩
  refine wd_cons <| w_for rfl <| rg1 T.zrange <| nl 1 rfl rfl rfl ⟨_, rfl, by omega, by omega, fun i Γ => ∃ (ws : List Way) (o4 o5 o6 o7 o8 : Option (Bool × D)), Γ = [some (false, .scr ns), some (false, intD m), some (false, .str z), some (true, .lst (ws.map wayD)), o4, o5, o6, o7, o8] ∧ WOk (tl z) m ws ∧ ∀ q ∈ ws, q.1 < i,
    ⟨[], none, none, none, none, none, rfl, ⟨fun _ h => (nomatch h), List.nodup_nil⟩, fun _ h => (nomatch h)⟩, fun i d Γ' hd ⟨ws, o4, o5, o6, o7, o8, e, hw, hwi⟩ => ?_, fun Γ' ⟨ws, o4, o5, o6, o7, o8, e, hw, hwi⟩ => ?_⟩
  · subst e
    obtain ⟨hi, rfl⟩ := rangeD_get hd
    have hi : i < m := by omega
    rw [Int.zero_add]
    refine td_name (i := 4) nd rfl (.inl rfl) ?_
    refine wd_one <| w_for rfl <| enS T.zenumerate <| nl 2 rfl rfl rfl ⟨z, rfl, fun j Γ => ∃ (ws : List Way) (o5 o6 o7 o8 : Option (Bool × D)), Γ = [some (false, .scr ns), some (false, intD m), some (false, .str z), some (true, .lst (ws.map wayD)), some (false, intD i), o5, o6, o7, o8] ∧ WOk (tl z) m ws ∧ ∀ q ∈ ws, q.1 < i ∨ (q.1 = i ∧ q.2.1 ∈ (tl z).take j),
      ⟨ws, o5, o6, o7, o8, rfl, hw, fun q hq => .inl (hwi q hq)⟩, fun j d Γ' hd ⟨ws, o5, o6, o7, o8, e, hw, hwi⟩ => ?_, fun Γ' ⟨ws, o5, o6, o7, o8, e, hw, hwi⟩ => ?_⟩
    · subst e
      obtain ⟨a, b, ha, hb', rfl⟩ := pairs_get hd
      obtain ⟨hj, rfl⟩ := rangeD_get ha
      obtain ⟨c, hc, rfl⟩ := signs_get hb'
      rw [signs_length, show z.cps.size = z.length from rfl] at hj
      rw [Int.zero_add]
      refine td_two rfl <| td_name (i := 5) nd rfl (.inl rfl) <| td_name (i := 6) nd rfl (.inl rfl) ?_
      refine wd_cons <| asg 7 nd rfl rfl <| ed_bin <| ed_int <| ed_bin <| ed_bin <| ed_bin <| ed_int <| nl 4 rfl rfl rfl <| mul_ii (.inl ⟨by decide, by decide⟩) <| nl 5 rfl rfl rfl <| add_ii <| ed_int <| mod_ii (by decide) <| add_ii ?_
      have hp0 := Int.emod_nonneg (4 * ((i : Nat) : Int) + ((j : Nat) : Int)) (show (60 : Int) ≠ 0 by decide)
      generalize (4 * ((i : Nat) : Int) + ((j : Nat) : Int)) % 60 = pl at hp0
      refine wd_cons <| asg 8 nd rfl rfl <| call_ (p__law_numbers T) (hr.mono (by decide)) T.g_law_numbers <| ea_cons <| call_ (p__law_cell_at T) (hr.mono (by decide)) T.g_law_cell_at <| ea_cons <| nl 0 rfl rfl rfl <| ea_cons <| nl 7 rfl rfl rfl <| ea_nil ⟨rfl, ns, _, rfl, by omega, fun cell => ?_⟩
      refine ea_cons <| ed_bin <| ed_bin <| ed_int <| ed_bin <| ed_int <| nl 4 rfl rfl rfl <| mul_ii (.inl ⟨by decide, by decide⟩) <| add_ii <| nl 5 rfl rfl rfl <| add_ii <| ea_cons <| ed_lst <| ea_cons <| ed_int <| ea_cons <| ed_int <| ea_nil ⟨(by show 2 ≤ sizeLine; decide), ea_nil ⟨rfl, cell, _, [6, 4], rfl, fun x hx => ?_, by omega, by omega, by decide, fun gs hg hb => ?_⟩⟩
      · simp only [List.mem_cons, List.not_mem_nil, or_false] at hx
        rcases hx with rfl | rfl <;> exact ⟨by decide, by decide⟩
      obtain ⟨n0, n1, rfl⟩ : ∃ n0 n1, gs = [n0, n1] := by
        match gs, hg with
        | [a, b], _ => exact ⟨a, b, rfl⟩
      obtain ⟨x1, x2⟩ := hb 1 n1 4 rfl rfl
      have hto0 := Int.emod_nonneg n1 (show ((m : Nat) : Int) ≠ 0 by omega)
      have hto1 := Int.emod_lt_of_pos n1 (show (0 : Int) < ((m : Nat) : Int) by omega)
      obtain ⟨t, ht⟩ : ∃ t : Nat, n1 % ((m : Nat) : Int) = (t : Int) := ⟨(n1 % ((m : Nat) : Int)).toNat, by omega⟩
      have wl := hw.len
      have wl2 : m * (tl z).length ≤ 4 * 4 := Nat.mul_le_mul m4 (by rw [← len_tl]; exact hz)
      refine wd_know 8 rfl <| wd_one <| w_if <| et_cmp <| ed_ix <| nl 8 rfl rfl rfl <| ed_int <| ix_lst rfl <| ed_int <| gt_ii ⟨fun _ => ?_, fun _ => ?_⟩
      · refine wd_one <| app 3 rfl (.inl rfl) rfl <| ed_tup <| ea_cons <| nl 4 rfl rfl rfl <| ea_cons <| nl 6 rfl rfl rfl <| ea_cons <| ed_bin <| ed_ix <| nl 8 rfl rfl rfl <| ed_int <| ix_lst rfl <| nl 1 rfl rfl rfl <| mod_ii (by omega) ?_
        rw [ht]
        refine ea_nil ⟨(by show 3 ≤ sizeLine; decide), by rw [List.length_map]; omega, ws ++ [(i, c, t)], some (false, intD j), some (false, .str ⟨#[c]⟩), some (false, .int (2 + pl)), some (false, .lst [.int n0, .int n1]), ?_, ⟨fun q hq => ?_, ?_⟩, fun q hq => ?_⟩
        · rw [List.map_append]; rfl
        · rcases List.mem_append.mp hq with h1 | h1
          · exact hw.k q h1
          · rw [List.mem_singleton.mp h1]
            exact ⟨hi, List.mem_of_getElem? hc, by show t < m; omega⟩
        · rw [List.map_append]
          refine List.nodup_append.mpr ⟨hw.n, (by simp), fun a ha b hb e => ?_⟩
          obtain ⟨q, hq, rfl⟩ := List.mem_map.mp ha
          have hb : b = (i, c) := by simpa using hb
          rw [hb] at e
          injection e with e1 e2
          rcases hwi q hq with h1 | ⟨_, h1⟩
          · omega
          · rw [e2] at h1
            exact take_new hnd hc h1
        · rcases List.mem_append.mp hq with h1 | h1
          · rcases hwi q h1 with h2 | ⟨h2, h3⟩
            · exact .inl h2
            · exact .inr ⟨h2, by rw [take_succ hc]; exact List.mem_append_left _ h3⟩
          · rw [List.mem_singleton.mp h1]
            exact .inr ⟨rfl, by rw [take_succ hc]; exact List.mem_append_right _ List.mem_cons_self⟩
      · refine wd_nil ⟨ws, some (false, intD j), some (false, .str ⟨#[c]⟩), some (false, .int (2 + pl)), some (false, .lst [.int n0, .int n1]), rfl, hw, fun q hq => ?_⟩
        rcases hwi q hq with h2 | ⟨h2, h3⟩
        · exact .inl h2
        · exact .inr ⟨h2, by rw [take_succ hc]; exact List.mem_append_left _ h3⟩
    · subst e
      exact ⟨ws, _, o5, o6, o7, o8, rfl, hw, fun q hq => by rcases hwi q hq with h2 | ⟨h2, h3⟩ <;> omega⟩
  · subst e
    exact wd_one <| w_retO (i := 3) rfl (.inl rfl) rfl rfl <| h ws hw
def phLawCounted : Ph := fun ds rt _ => ∃ (g : Gram) (cs : List Nat) (l : Nat), ds = [intD g.many, .lst (g.ways.map wayD), .lst (g.ends.map intD), intD l] ∧ g.Ok ∧ cs.Nodup ∧ (∀ q ∈ g.ways, q.2.1 ∈ cs) ∧ l ≤ 1000 ∧ rt false (intD (bwd g.ways g.ends cs l 0))
theorem p__law_counted (T : Txt K mg) : FnD P w K mg base 1 (He.fAd K ("_law_counted", none)) 4 phLawCounted := mk_law_counted T fun cdv A outer s H E hr ds rt xs hφ hl => by
  obtain ⟨g, cs, l, rfl, hg, hcs, hgc, hle, h⟩ := hφ
  have nd := sc_law_counted.nd
  have big : (2000 : Nat) ≤ sizeLine := by decide
  have m1 := hg.m1
  have m4 := hg.m4
  have wl := hg.wl
  refine wd_cons <| w_asgLc (i := 4) (own := [("_law_state", 7)]) rfl nd (blkOk_by rfl) rfl rfl (hsw := sw_true rfl rfl rfl rfl) <| rg1 T.zrange <| nl 0 rfl rfl rfl ⟨_, rfl, by omega, by omega, fun j acc => acc = ((List.range j).map fun x => intD (bwd g.ways g.ends cs 0 x)), rfl, fun j d acc hd hI s0 H0 C cl fp xe => ?_, fun acc hI => ?_⟩
  · obtain ⟨hj, rfl⟩ := rangeD_get hd
    rw [Int.zero_add]
    refine tc_name (i := 7) nd rfl (.inl rfl) (by simp) <| ets_nil ⟨fun _ => ?_, fun e => (nomatch e)⟩
    refine intB_ T.zint <| ed_cmp <| nl 7 rfl rfl rfl <| nc 2 rfl rfl rfl <| in_dl rfl (flat_nats _) ⟨_, rfl, ?_, ?_⟩
    · rw [hI, List.length_map, List.length_range]; omega
    · rw [show in4 (D.int ((j : Nat) : Int)) (g.ends.map intD) = decide (j ∈ g.ends) from in4_nats]
      dsimp only at hI ⊢
      rw [hI, List.range_succ, List.map_append]
      congr 1
      show [_] = [intD (bwd g.ways g.ends cs 0 j)]
      rw [bwd_zero]
      by_cases e : j ∈ g.ends
      · rw [decide_eq_true e, if_pos e]; rfl
      · rw [decide_eq_false e, if_neg e]; rfl
  rw [rangeD_length, show (((g.many : Nat) : Int)).toNat = g.many by omega] at hI
  subst hI
  refine wd_know 4 rfl <| wd_cons <| w_for rfl <| rg1 T.zrange <| nl 3 rfl rfl rfl ⟨_, rfl, by omega, by omega, fun k Γ => ∃ o5 o6 o7 o8 o9 : Option (Bool × D), Γ = [some (false, intD g.many), some (false, .lst (g.ways.map wayD)), some (false, .lst (g.ends.map intD)), some (false, intD l), some (false, .lst ((List.range g.many).map fun x => intD (bwd g.ways g.ends cs k x))), o5, o6, o7, o8, o9],
    ⟨none, none, none, none, none, rfl⟩, fun k d Γ' hd ⟨o5, o6, o7, o8, o9, e⟩ => ?_, fun Γ' ⟨o5, o6, o7, o8, o9, e⟩ => ?_⟩
  · subst e
    obtain ⟨hk, rfl⟩ := rangeD_get hd
    rw [Int.zero_add]
    have rep0 : (List.replicate ((g.many : Nat) : Int).toNat [D.int 0]).flatten = (List.range g.many).map fun x => intD ((([] : List Way).map fun q => if q.1 = x then bwd g.ways g.ends cs k q.2.2 else 0).sum) := by
      rw [List.flatten_replicate_singleton, show ((g.many : Nat) : Int).toNat = g.many by omega]
      apply List.ext_getElem?
      intro i
      rw [List.getElem?_replicate, List.getElem?_map]
      by_cases hi : i < g.many
      · rw [if_pos hi, List.getElem?_range hi]; rfl
      · rw [if_neg hi, List.getElem?_eq_none (by rw [List.length_range]; omega)]; rfl
    refine td_name (i := 5) nd rfl (.inl rfl) ?_
    refine wd_cons <| asg 6 nd rfl rfl <| ed_bin <| ed_lst <| ea_cons <| ed_int <| ea_nil ⟨(by show 1 ≤ sizeLine; decide), nl 0 rfl rfl rfl <| mul_li (by show 1 * ((g.many : Nat) : Int).toNat ≤ sizeLine; omega) (by omega) (by omega) ?_⟩
    rw [rep0]
    refine wd_cons <| w_for rfl <| ei_list <| nl 1 rfl rfl rfl <| .inl ⟨_, rfl, fun j Γ => ∃ o7 o8 o9 : Option (Bool × D), Γ = [some (false, intD g.many), some (false, .lst (g.ways.map wayD)), some (false, .lst (g.ends.map intD)), some (false, intD l), some (false, .lst ((List.range g.many).map fun x => intD (bwd g.ways g.ends cs k x))), some (false, intD k), some (true, .lst ((List.range g.many).map fun x => intD (((g.ways.take j).map fun q => if q.1 = x then bwd g.ways g.ends cs k q.2.2 else 0).sum))), o7, o8, o9],
      ⟨o7, o8, o9, rfl⟩, fun j d Γ' hd ⟨o7, o8, o9, e⟩ => ?_, fun Γ' ⟨o7, o8, o9, e⟩ => ?_⟩
    · subst e
      obtain ⟨q, hq, rfl⟩ := map_get hd
      obtain ⟨k1, k2, k3⟩ := hg.wk q (List.mem_of_getElem? hq)
      refine td_three rfl <| td_name (i := 7) nd rfl (.inl rfl) <| td_name (i := 8) nd rfl (.inl rfl) <| td_name (i := 9) nd rfl (.inl rfl) ?_
      have at1 : L2.atI ((List.range g.many).map fun x => intD (((g.ways.take j).map fun q => if q.1 = x then bwd g.ways g.ends cs k q.2.2 else 0).sum)) ((q.1 : Nat) : Int) = some (intD (((g.ways.take j).map fun q' => if q'.1 = q.1 then bwd g.ways g.ends cs k q'.2.2 else 0).sum)) := at_nat (by rw [List.getElem?_map, List.getElem?_range k1]; rfl)
      have at2 : L2.atI ((List.range g.many).map fun x => intD (bwd g.ways g.ends cs k x)) ((q.2.2 : Nat) : Int) = some (intD (bwd g.ways g.ends cs k q.2.2)) := at_nat (by rw [List.getElem?_map, List.getElem?_range k3]; rfl)
      refine wd_one <| w_setI (i := 6) rfl (.inl rfl) rfl (ed_flat <| ed_bin <| ed_ix <| nl 6 rfl rfl rfl <| nl 7 rfl rfl rfl <| ix_lst at1 <| ed_ix <| nl 4 rfl rfl rfl <| nl 9 rfl rfl rfl <| ix_lst at2 <| add_ii ⟨rfl, nl 7 rfl rfl rfl ⟨_, q.1, rfl, ixN_of (by rw [List.length_map, List.length_range]; exact k1), some (false, intD q.1), some (false, .str (oneS q.2.1)), some (false, intD q.2.2), ?_⟩⟩)
      rw [← Int.natCast_add]
      have e2 : ((List.range g.many).map fun x => intD (((g.ways.take j).map fun q => if q.1 = x then bwd g.ways g.ends cs k q.2.2 else 0).sum)).set q.1 (intD ((((g.ways.take j).map fun q' => if q'.1 = q.1 then bwd g.ways g.ends cs k q'.2.2 else 0).sum) + bwd g.ways g.ends cs k q.2.2)) = (List.range g.many).map fun x => intD (((g.ways.take (j + 1)).map fun q => if q.1 = x then bwd g.ways g.ends cs k q.2.2 else 0).sum) := by
        rw [set_range k1]
        refine List.map_congr_left fun x _ => ?_
        rw [take_succ hq, List.map_append, List.sum_append]
        by_cases ex : x = q.1
        · subst ex
          rw [if_pos rfl]; simp
        · have : ¬ q.1 = x := fun z => ex z.symm
          rw [if_neg ex]; simp [this]
      rw [← e2]; rfl
    · subst e
      rw [List.length_map, List.take_length]
      refine wd_know 6 rfl <| wd_one <| asg 4 nd rfl rfl <| nl 6 rfl rfl rfl ⟨some (false, intD k), some (false, .lst ((List.range g.many).map fun x => intD ((g.ways.map fun q => if q.1 = x then bwd g.ways g.ends cs k q.2.2 else 0).sum))), o7, o8, o9, ?_⟩
      have e3 : ((List.range g.many).map fun x => intD ((g.ways.map fun q => if q.1 = x then bwd g.ways g.ends cs k q.2.2 else 0).sum)) = (List.range g.many).map fun x => intD (bwd g.ways g.ends cs (k + 1) x) := List.map_congr_left fun x _ => by
        rw [bwd_succ hcs, hop_ways hcs _ x g.ways hgc hg.wn]
      rw [← e3]; rfl
  · subst e
    rw [rangeD_length, show (((l : Nat) : Int)).toNat = l by omega]
    have at0 : L2.atI ((List.range g.many).map fun x => intD (bwd g.ways g.ends cs l x)) 0 = some (intD (bwd g.ways g.ends cs l 0)) := at_nat (i := 0) (by rw [List.getElem?_map, List.getElem?_range (show 0 < g.many from m1)]; rfl)
    exact wd_one <| w_ret <| ed_ix <| nl 4 rfl rfl rfl <| ed_int <| ix_lst at0 h
def phLawTells : Ph := fun ds rt _ => ∃ (g : Gram) (z : Str), ds = [.lst (g.ways.map wayD), .lst (g.ends.map intD), .str z] ∧ g.Ok ∧ z.length ≤ 1000 ∧ tellsL g (tl z) = true ∧ rt false (.bl true)
theorem p__law_tells (T : Txt K mg) : FnD P w K mg base 1 (He.fAd K ("_law_tells", none)) 3 phLawTells := mk_law_tells T fun cdv A outer s H E hr ds rt xs hφ hl => by
  obtain ⟨g, z, rfl, hg, hz, ht, h⟩ := hφ
  have nd := sc_law_tells.nd
  have big : (2000 : Nat) ≤ sizeLine := by decide
  have wl := hg.wl
  obtain ⟨t0, t1, t2⟩ := tells_iff.mp ht
  refine wd_cons <| asgc 3 nd rfl rfl rfl <| ed_int ?_
  refine wd_cons <| w_for rfl <| ei_str <| nl 2 rfl rfl rfl ⟨z, rfl, fun i Γ => ∃ (st : Nat) (o4 o5 o6 o7 o8 : Option (Bool × D)), Γ = [some (false, .lst (g.ways.map wayD)), some (false, .lst (g.ends.map intD)), some (false, .str z), some (false, intD st), o4, o5, o6, o7, o8] ∧ leadsL g.ways (some 0) ((tl z).take i) = some st,
    ⟨0, none, none, none, none, none, rfl, rfl⟩, fun i d Γ' hd ⟨st, o4, o5, o6, o7, o8, e, hst⟩ => ?_, fun Γ' ⟨st, o4, o5, o6, o7, o8, e, hst⟩ => ?_⟩
  · subst e
    obtain ⟨c, hc, rfl⟩ := signs_get hd
    have hc : (tl z)[i]? = some c := hc
    obtain ⟨u, hu⟩ : ∃ u, stepK g.ways st c = some u := by
      have e1 : leadsL g.ways (some 0) ((tl z).take (i + 1)) = stepO g.ways (some st) c := by rw [take_succ hc, leadsL_app, hst]; rfl
      have e2 : leadsL g.ways (leadsL g.ways (some 0) ((tl z).take (i + 1))) ((tl z).drop (i + 1)) = some t0 := by rw [← leadsL_app, List.take_append_drop]; exact t2
      cases hs : stepK g.ways st c with
      | some u => exact ⟨u, rfl⟩
      | none =>
        have : stepO g.ways (some st) c = none := hs
        rw [e1, this, leadsL_none] at e2; cases e2
    refine td_name (i := 4) nd rfl (.inr rfl) ?_
    let pr := fun q : Way => decide (q.1 = st ∧ q.2.1 = c)
    refine wd_cons <| w_asgLc (i := 5) (own := [("_law_before", 6), ("_law_by", 7), ("_law_then", 8)]) rfl nd (blkOk_by rfl) rfl rfl (hsw := sw_true rfl rfl rfl rfl) <| ei_list <| nl 0 rfl rfl rfl <| .inl ⟨_, rfl, fun j acc => acc = (((g.ways.take j).filter pr).map fun q => intD q.2.2), rfl, fun j d acc hd hI s0 H0 C cl fp xe => ?_, fun acc hI => ?_⟩
    · obtain ⟨q, hq, rfl⟩ := map_get hd
      have hlen : ((g.ways.take j).filter pr).length < sizeLine := by
        have := List.length_filter_le pr (g.ways.take j)
        rw [List.length_take] at this
        omega
      have no : pr q = false → (fun j acc => acc = (((g.ways.take j).filter pr).map fun q => intD q.2.2)) (j + 1) acc := fun e => by
        dsimp only at hI ⊢
        rw [hI, take_succ hq, List.filter_append, List.filter_cons_of_neg (by rw [e]; exact Bool.false_ne_true)]
        simp
      refine tc_three rfl <| tc_name (i := 6) nd rfl (.inl rfl) (by simp) <| tc_name (i := 7) nd rfl (.inl rfl) (by simp) <| tc_name (i := 8) nd rfl (.inl rfl) (by simp) <| ets_one <| et_w <| ew_and <| et_cmp <| nl 6 rfl rfl rfl <| nc 3 rfl rfl rfl <| eq_ii ⟨fun e1 => ?_, fun e1 => ⟨fun e => (nomatch e), fun _ => no (decide_eq_false fun z => by have := of_decide_eq_false e1; omega)⟩⟩
      refine ew_and1 <| et_cmp <| nl 7 rfl rfl rfl <| nc 4 rfl rfl rfl <| eq_ss ⟨fun e2 => ?_, fun e2 => no (decide_eq_false fun z => (of_decide_eq_false e2) (by rw [z.2]; rfl))⟩
      have e3 : pr q = true := decide_eq_true ⟨by have := of_decide_eq_true e1; omega, oneS_inj (of_decide_eq_true e2)⟩
      refine nl 8 rfl rfl rfl ⟨by rw [hI, List.length_map]; exact hlen, ?_⟩
      dsimp only at hI ⊢
      rw [hI, take_succ hq, List.filter_append, List.filter_cons_of_pos e3, List.map_append]; rfl
    rw [List.length_map, List.take_length] at hI
    obtain ⟨q0, rest, hf, hq0⟩ : ∃ q0 rest, g.ways.filter pr = q0 :: rest ∧ q0.2.2 = u := by
      unfold stepK at hu
      obtain ⟨q0, h1, h2⟩ := Option.map_eq_some_iff.mp hu
      rw [← List.head?_filter] at h1
      cases hff : g.ways.filter pr with
      | nil => rw [show (g.ways.filter fun q => decide (q.1 = st ∧ q.2.1 = c)) = [] from hff] at h1; cases h1
      | cons a b =>
        rw [show (g.ways.filter fun q => decide (q.1 = st ∧ q.2.1 = c)) = a :: b from hff] at h1
        cases h1
        exact ⟨_, b, rfl, h2⟩
    have hI : acc = intD u :: rest.map fun q => intD q.2.2 := by rw [hI, hf, List.map_cons, hq0]
    subst hI
    have okl : eqOk (.lst (intD u :: rest.map fun q => intD q.2.2)) = true := by
      have : (intD u :: rest.map fun q => intD q.2.2) = ((u :: rest.map fun q => q.2.2).map fun n => ((n : Nat) : Int)).map D.int := by
        rw [List.map_map, List.map_cons, List.map_map]; rfl
      rw [this]
      exact Emb.int.lst.ok (by decide) fun _ _ => trivial
    refine wd_know 5 rfl <| wd_cons <| w_if <| et_cmp <| nl 5 rfl rfl rfl <| ed_lst <| ea_nil ⟨by decide, eq_dd hr.units okl (by decide +kernel) ?_⟩
    rw [eqD_nil]
    refine ⟨fun e => (nomatch e), fun _ => ?_⟩
    refine wd_nil <| wd_one <| asgc 3 nd rfl rfl rfl <| ed_ix <| nl 5 rfl rfl rfl <| ed_int <| ix_lst (at_nat (i := 0) rfl) ⟨u, some (false, .str ⟨#[c]⟩), some (false, .lst (intD u :: rest.map fun q => intD q.2.2)), o6, o7, o8, rfl, ?_⟩
    rw [take_succ hc, leadsL_app, hst]
    exact hu
  · subst e
    rw [List.length_map, signs_length, show z.cps.size = (tl z).length from (Array.length_toList).symm, List.take_length] at hst
    refine wd_one <| w_ret <| ed_cmp <| nc 3 rfl rfl rfl <| nl 1 rfl rfl rfl <| in_dl rfl (flat_nats _) ?_
    rw [show in4 (intD st) (g.ends.map intD) = decide (st ∈ g.ends) from in4_nats]
    rw [t2] at hst
    cases hst
    rw [decide_eq_true t1]
    exact h
end
end Lw

namespace Lw
open PySem L2 DL TL
def S99a : List Int := [4] ++ (List.replicate (4 : Int).toNat [94]).flatten ++ (List.replicate (60 : Int).toNat [36]).flatten
def S99b : List Int := [4, 17, 16] ++ (List.replicate (2 : Int).toNat [(10 : Int) ^ (18 : Int).toNat]).flatten
theorem S99_len : S99a.length = 65 ∧ S99b.length = 5 := by decide +kernel
theorem told_nums {d : Int} {t : Nat} {ms : List Int} (p1 : ms.Perm [d % max 1 (t : Int), (t : Int) - 1]) (p2 : ms.Pairwise (· ≤ ·)) :
    ∃ is : List Nat, cutD (ms.map D.int) none (some (2 * min 1 (t : Int))) = is.map intD ∧ (∀ i ∈ is, i < t) ∧ is.length ≤ 2 ∧ is.Pairwise (· ≤ ·) := by
  by_cases h : t = 0
  · subst h
    refine ⟨[], ?_, fun i hi => (nomatch hi), by decide, List.Pairwise.nil⟩
    rw [show (2 * min 1 (((0 : Nat) : Int))) = ((0 : Nat) : Int) by omega, cutD_to]; rfl
  · have hl := p1.length_eq
    obtain ⟨a, b, rfl⟩ : ∃ a b, ms = [a, b] := by
      match ms, hl with
      | [a, b], _ => exact ⟨a, b, rfl⟩
    have mx : max 1 (t : Int) = t := by omega
    rw [mx] at p1
    have m0 := Int.emod_nonneg d (show ((t : Nat) : Int) ≠ 0 by omega)
    have m1 := Int.emod_lt_of_pos d (show (0 : Int) < ((t : Nat) : Int) by omega)
    have bd : ∀ x ∈ [a, b], 0 ≤ x ∧ x < (t : Int) := fun x hx => by
      have := p1.mem_iff.mp hx
      simp only [List.mem_cons, List.not_mem_nil, or_false] at this
      rcases this with rfl | rfl
      · exact ⟨m0, m1⟩
      · omega
    obtain ⟨a0, a1⟩ := bd a List.mem_cons_self
    obtain ⟨b0, b1⟩ := bd b (List.mem_cons_of_mem _ List.mem_cons_self)
    obtain ⟨x, rfl⟩ : ∃ x : Nat, a = (x : Int) := ⟨a.toNat, by omega⟩
    obtain ⟨y, rfl⟩ : ∃ y : Nat, b = (y : Int) := ⟨b.toNat, by omega⟩
    have hab : (x : Int) ≤ (y : Int) := by
      have := List.pairwise_cons.mp p2
      exact this.1 _ List.mem_cons_self
    refine ⟨[x, y], ?_, fun i hi => ?_, (by show 2 ≤ 2; decide), ?_⟩
    · rw [show (2 * min 1 (t : Int)) = ((2 : Nat) : Int) by omega, cutD_to]; rfl
    · simp only [List.mem_cons, List.not_mem_nil, or_false] at hi
      rcases hi with rfl | rfl <;> omega
    · refine List.pairwise_cons.mpr ⟨fun z hz => ?_, List.pairwise_singleton _ _⟩
      rw [List.mem_singleton.mp hz]; omega
def toldR (s : Str) (rows : List Row) (g : Gram) (k i : Nat) : List Int := ((rowsL s rows g k (0, none))[i]?.getD []).map (idxI (pcs s rows))
def toldD (s : Str) (rows : List Row) (g : Gram) (k i : Nat) : D := .tup [intD i, .lst ((toldR s rows g k i).map D.int)]
section
variable {P : Program} {w : World} {K : PySem.W.Frag} {mg : Str → Option Value} {base : Heap}
theorem p_law (T : Txt K mg) : ∃ fd, (∀ (s : Shared) (u : Value), BindsTo s fd ⟨[u], []⟩ [("_law_script", u)]) ∧ ∀ base : Heap, FnOk P w K mg base (L2.CX P w) 28 (He.fAd K ("law", none)) fd ["_law_script"] (spD K 1 phLaw) := mklaw T fun base cdv A outer s H E hr ds rt xs hφ hl => by
  obtain ⟨ns, rfl, hn, h⟩ := hφ
  have nd := sclaw.nd
  have big : (200000 : Nat) ≤ sizeLine := by decide
  refine wd_cons <| asg 1 nd rfl rfl <| call_ (p__law_numbers T) (hr.mono (by decide)) T.g_law_numbers <| ea_cons <| call_ (p__law_cell_at T) (hr.mono (by decide)) T.g_law_cell_at <| ea_cons <| nl 0 rfl rfl rfl <| ea_cons <| ed_int <| ea_nil ⟨rfl, ns, 0, rfl, by decide, fun cell => ?_⟩
  refine ea_cons <| ed_int <| ea_cons <| ed_bin <| ed_bin <| ed_lst <| ea_cons <| ed_int <| ea_nil ⟨(by show 1 ≤ sizeLine; decide), ed_bin <| ed_lst <| ea_cons <| ed_int <| ea_nil ⟨(by show 1 ≤ sizeLine; decide), ed_int <| mul_li (by show 1 * 4 ≤ sizeLine; decide) (by decide) (by decide) <| add_ll (by show 1 + 4 ≤ sizeLine; decide) <| ed_bin <| ed_lst <| ea_cons <| ed_int <| ea_nil ⟨(by show 1 ≤ sizeLine; decide), ed_int <| mul_li (by show 1 * 60 ≤ sizeLine; decide) (by decide) (by decide) <| add_ll (by show 5 + 60 ≤ sizeLine; decide) <| ea_nil ⟨rfl, cell, _, S99a, rfl, by decide +kernel, by decide, by decide, by decide, fun gs hg hb => ?_⟩⟩⟩⟩
  rw [S99_len.1] at hg
  refine wd_n (by simp only [e0law, List.set_cons_zero, List.set_cons_succ]; rfl) ?_
  refine wd_know 1 rfl ?_
  have dig : ∀ (j : Nat) (s : Int), S99a[j]? = some s → ∃ n, gs[j]? = some n ∧ L2.atI (gs.map D.int) (j : Int) = some (.int n) ∧ 0 ≤ n ∧ n < s := fun j s hs => by
    have hj : j < gs.length := by rw [hg, ← S99_len.1]; exact (List.getElem?_eq_some_iff.mp hs).1
    have e := List.getElem?_eq_getElem hj
    exact ⟨gs[j], e, atI_map D.int (at_nat e), hb j _ s e hs⟩
  obtain ⟨a0, _, g0, l0, u0⟩ := dig 0 4 rfl
  obtain ⟨n0, rfl⟩ : ∃ n : Nat, a0 = (n : Int) := ⟨a0.toNat, by omega⟩
  have hc1 : cutD gs (some (1 : Int)) (some (2 + (n0 : Int))) = (gs.drop 1).take (1 + n0) := by
    have := cutD_nat gs 1 (2 + n0) (by omega) (by omega)
    rw [show 2 + n0 - 1 = 1 + n0 by omega] at this
    rw [show (2 + (n0 : Int)) = ((2 + n0 : Nat) : Int) by omega]
    exact this
  refine wd_n (by simp only [e0law, List.set_cons_zero, List.set_cons_succ]; rfl) ?_
  refine wd_cons <| asg 2 nd rfl rfl <| call_ (p__law_signs T) (hr.mono (by decide)) T.g_law_signs <| ea_cons <| ed_slice <| nl 1 rfl rfl rfl <| eo_some <| ed_int ⟨_, rfl, eo_some <| ed_bin <| ed_int <| ed_ix <| nl 1 rfl rfl rfl <| ed_int <| ix_lst g0 <| add_ii ⟨_, rfl, ea_nil ⟨rfl, cutD gs (some 1) (some (2 + (n0 : Int))), by rw [cutD_map], ?_, ?_, fun n hn => ?_, fun s hS hzl => ?_⟩⟩⟩
  · rw [hc1, List.length_take, List.length_drop]; omega
  · rw [hc1, List.length_take, List.length_drop]; omega
  · rw [hc1] at hn
    obtain ⟨j, hj⟩ := List.getElem?_of_mem hn
    have hj1 : j < 1 + n0 := by
      have := (List.getElem?_eq_some_iff.mp hj).1
      rw [List.length_take] at this; omega
    rw [List.getElem?_take_of_lt hj1, List.getElem?_drop] at hj
    have hs : S99a[1 + j]? = some 94 := by
      rcases (by omega : j = 0 ∨ j = 1 ∨ j = 2 ∨ j = 3) with h | h | h | h <;> subst h <;> rfl
    exact hb (1 + j) n 94 hj hs
  have hs4 : s.length ≤ 4 := by rw [hzl, hc1, List.length_take]; omega
  have hc2 : cutD gs (some (5 : Int)) none = gs.drop 5 := cutD_from gs 5 (by omega)
  refine wd_n (by simp only [e0law, List.set_cons_zero, List.set_cons_succ]; rfl) ?_
  refine wd_cons <| asg 3 nd rfl rfl <| call_ (p__law_rows T) (hr.mono (by decide)) T.g_law_rows <| ea_cons <| nl 2 rfl rfl rfl <| ea_cons <| ed_slice <| nl 1 rfl rfl rfl <| eo_some <| ed_int ⟨_, rfl, eo_none <| ea_nil ⟨rfl, s, cutD gs (some 5) none, by rw [cutD_map], hS, ?_, fun n hn => ?_, fun rows hT hrl0 => ?_⟩⟩
  · rw [hc2, List.length_drop]; omega
  · rw [hc2] at hn
    obtain ⟨j, hj⟩ := List.getElem?_of_mem hn
    rw [List.getElem?_drop] at hj
    have hjl := (List.getElem?_eq_some_iff.mp hj).1
    obtain ⟨s1, hs1⟩ : ∃ s1, S99a[5 + j]? = some s1 := ⟨_, List.getElem?_eq_getElem (by rw [S99_len.1]; omega)⟩
    exact (hb (5 + j) n s1 hj hs1).1
  obtain ⟨s1, s2, s3⟩ := tab_small hT
  have hrl : ∀ r ∈ rows, r.1.length ≤ 1000 ∧ r.2.length ≤ 1000 := fun r hr => by have := (tab_rows hT r hr).2.2; omega
  have hls := pcs_ls hT
  have hsig := signErr_none hS
  have hnd : (tl s).Nodup := signs_cps_nodup hT
  refine wd_know 3 rfl ?_
  refine wd_n (by simp only [e0law, List.set_cons_zero, List.set_cons_succ]; rfl) ?_
  -- the pieces
  refine wd_cons <| asgc 4 nd rfl rfl rfl <| ed_bin <| listT T.zlist <| nl 2 rfl rfl rfl ⟨s, rfl, by omega, ed_lc (own := [("_law_left", 16), ("_law_right", 17)]) rfl nd (blkOk_by rfl) <| ei_list <| nl 3 rfl rfl rfl <| .inl ⟨_, rfl, fun j acc => acc = ((rows.take j).map fun r => r.1 ++ r.2).map D.str, rfl, fun j d acc hd hI s0 H0 C cl fp xe => ?_, fun acc hI => ?_⟩⟩
  · obtain ⟨⟨l, r⟩, hr1, rfl⟩ := map_get hd
    have m3 := (tab_rows hT (l, r) (List.mem_of_getElem? hr1)).2.2
    have hj : j < rows.length := (List.getElem?_eq_some_iff.mp hr1).1
    dsimp only at m3
    refine tc_two rfl <| tc_name (i := 16) nd rfl (.inl rfl) (by simp) <| tc_name (i := 17) nd rfl (.inl rfl) (by simp) <| ets_nil ⟨fun _ => ?_, fun e => (nomatch e)⟩
    refine ed_bin <| nl 16 rfl rfl rfl <| nl 17 rfl rfl rfl <| add_ss (by show l.length + r.length ≤ sizeLine; omega) ⟨?_, ?_⟩
    · rw [hI, List.length_map, List.length_map, List.length_take]; omega
    · dsimp only at hI ⊢; rw [hI, take_succ hr1, List.map_append, List.map_append]; rfl
  rw [List.length_map, List.take_length] at hI
  refine add_ll (by rw [hI, List.length_map, List.length_map, List.length_map, signs_length]; show s.length + rows.length ≤ sizeLine; omega) ?_
  rw [hI, ← List.map_append]
  rw [show signs s ++ rows.map (fun r => r.1 ++ r.2) = pcs s rows from rfl]
  refine wd_know 4 rfl ?_
  refine wd_n (by simp only [List.set_cons_zero, List.set_cons_succ]; rfl) ?_
  -- the digits
  refine wd_cons <| asgc 5 nd rfl rfl rfl <| call_ (p__law_numbers T) (hr.mono (by decide)) T.g_law_numbers <| ea_cons <| call_ (p__law_cell_at T) (hr.mono (by decide)) T.g_law_cell_at <| ea_cons <| nl 0 rfl rfl rfl <| ea_cons <| ed_int <| ea_nil ⟨rfl, ns, 1, rfl, by decide, fun cell2 => ?_⟩
  refine ea_cons <| ed_int <| ea_cons <| ed_bin <| ed_lst <| ea_cons <| ed_int <| ea_cons <| ed_int <| ea_cons <| ed_int <| ea_nil ⟨(by show 3 ≤ sizeLine; decide), ed_bin <| ed_lst <| ea_cons <| ed_bin <| ed_int <| ed_int <| pow_ii ⟨by decide, by decide, by decide⟩ <| ea_nil ⟨(by show 1 ≤ sizeLine; decide), ed_int <| mul_li (by show 1 * 2 ≤ sizeLine; decide) (by decide) (by decide) <| add_ll (by show 3 + 2 ≤ sizeLine; decide) <| ea_nil ⟨rfl, cell2, _, S99b, rfl, by decide +kernel, by decide, by decide, by decide, fun gs2 hg2 hb2 => ?_⟩⟩⟩
  obtain ⟨d0, d1, d2, d3, d4, rfl⟩ : ∃ d0 d1 d2 d3 d4, gs2 = [d0, d1, d2, d3, d4] := by
    match gs2, hg2 with
    | [a, b, c, d, e], _ => exact ⟨a, b, c, d, e, rfl⟩
  obtain ⟨x1, x2⟩ := hb2 0 d0 4 rfl rfl
  obtain ⟨y1, y2⟩ := hb2 1 d1 17 rfl rfl
  clear hb2 hg2
  obtain ⟨m, rfl⟩ : ∃ n : Nat, d0 = (n : Int) := ⟨d0.toNat, by omega⟩
  obtain ⟨k, rfl⟩ : ∃ n : Nat, d1 = (n : Int) := ⟨d1.toNat, by omega⟩
  refine wd_know 5 rfl ?_
  refine wd_n (by simp only [List.set_cons_zero, List.set_cons_succ]; rfl) ?_
  refine wd_cons <| asg 6 nd rfl rfl <| ed_bin <| ed_int <| ed_ix <| nc 5 rfl rfl rfl <| ed_int <| ix_lst rfl <| add_ii ?_
  rw [show (1 + (m : Int)) = ((m + 1 : Nat) : Int) by omega]
  refine wd_cons <| w_asgLc (i := 7) (own := [("_law_state", 18)]) rfl nd (blkOk_by rfl) rfl rfl (hsw := sw_true rfl rfl rfl rfl) <| rg1 T.zrange <| nl 6 rfl rfl rfl ⟨_, rfl, by omega, by omega, fun j acc => ∃ es : List Nat, acc = es.map intD ∧ (∀ e ∈ es, e < j) ∧ es.Nodup, ⟨[], rfl, fun e he => (nomatch he), List.nodup_nil⟩, fun j d acc hd ⟨es, hI, he, hnn⟩ s0 H0 C cl fp xe => ?_, fun acc ⟨es, hI, he, hnn⟩ => ?_⟩
  · obtain ⟨hj, rfl⟩ := rangeD_get hd
    rw [Int.zero_add]
    have hlen : es.length ≤ j := by
      have := nodup_len (ys := List.range j) hnn fun e h => List.mem_range.mpr (he e h)
      rw [List.length_range] at this; exact this
    refine tc_name (i := 18) nd rfl (.inl rfl) (by simp) <| ets_one <| et_cmp <| ed_bin <| ed_bin <| ed_ix <| nc 5 rfl rfl rfl <| ed_int <| ix_lst rfl <| nl 18 rfl rfl rfl <| shr_ii (by omega) <| ed_int <| and_ii <| ed_int <| eq_ii ⟨fun _ => ?_, fun _ => ?_⟩
    · refine nl 18 rfl rfl rfl ⟨by rw [hI, List.length_map]; omega, es ++ [j], by rw [hI, List.map_append]; rfl, fun e h => ?_, ?_⟩
      · rcases List.mem_append.mp h with h | h
        · exact Nat.lt_succ_of_lt (he e h)
        · rw [List.mem_singleton.mp h]; exact Nat.lt_succ_self j
      · refine List.nodup_append.mpr ⟨hnn, (by simp), fun a ha b hb e => ?_⟩
        have hb : b = j := by simpa using hb
        have := he a ha
        omega
    · exact ⟨es, hI, fun e h => Nat.lt_succ_of_lt (he e h), hnn⟩
  rw [rangeD_length, show (((m + 1 : Nat) : Int)).toNat = m + 1 by omega] at he
  subst hI
  refine wd_know 7 rfl ?_
  refine wd_cons <| asg 8 nd rfl rfl <| call_ (p__law_ways T) (hr.mono (by decide)) T.g_law_ways <| ea_cons <| nl 0 rfl rfl rfl <| ea_cons <| nl 6 rfl rfl rfl <| ea_cons <| nl 2 rfl rfl rfl <| ea_nil ⟨rfl, ns, m + 1, s, rfl, by omega, by omega, hs4, hnd, fun ws hw => ?_⟩
  refine wd_know 8 rfl ?_
  have hg : (⟨m + 1, ws, es⟩ : Gram).Ok := gram_ok (by rw [← len_tl]; omega) hsig.2.2.2 (by omega) (by omega) hw he hnn
  refine wd_n (by simp only [List.set_cons_zero, List.set_cons_succ]; rfl) ?_
  refine wd_cons <| asg 9 nd rfl rfl <| make T.mkGrammar (p_Grammar_init T) (hr.mono (by decide)) T.gGrammar <| ea_cons <| nl 6 rfl rfl rfl <| ea_cons <| list_ T.zlist <| nl 8 rfl rfl rfl ⟨_, .inl rfl, ea_cons <| list_ T.zlist <| nl 7 rfl rfl rfl ⟨_, .inl rfl, ea_nil ⟨rfl, ⟨m + 1, ws, es⟩, rfl, hg, ?_⟩⟩⟩
  refine wd_know 9 rfl ?_
  refine wd_cons <| asg 10 nd rfl rfl <| make T.mkFollows (p_Follows_init T) (hr.mono (by decide)) T.gFollows <| ea_cons <| make T.mkTable (p_Table_init T) (hr.mono (by decide)) T.gTable <| ea_cons <| nl 2 rfl rfl rfl <| ea_cons <| list_ T.zlist <| nl 3 rfl rfl rfl ⟨_, .inl rfl, ea_nil ⟨rfl, s, rows, rfl, by omega, by omega, hrl, fun _ => ?_, fun a p e => by rw [hT] at e; cases e⟩⟩
  refine ea_nil ⟨rfl, s, rows, rfl, hT, ?_⟩
  refine wd_know 10 rfl ?_
  refine wd_n (by simp only [List.set_cons_zero, List.set_cons_succ]; rfl) ?_
  generalize hgr : (⟨m + 1, ws, es⟩ : Gram) = g at hg
  have e6 : intD (m + 1) = intD g.many := by rw [← hgr]
  have e8 : ws = g.ways := by rw [← hgr]
  have e7 : es = g.ends := by rw [← hgr]
  have hw2 : ∀ q ∈ g.ways, q.2.1 ∈ tl s := fun q hq => (hw.k q (e8 ▸ hq)).2.1
  refine wd_cons <| asg 11 nd rfl rfl <| call_ (p_how_many T) (hr.mono (by decide)) T.ghow_many <| ea_cons <| nl 10 rfl rfl rfl <| ea_cons <| nl 9 rfl rfl rfl <| ea_cons <| ed_ix <| nc 5 rfl rfl rfl <| ed_int <| ix_lst rfl <| ea_nil ⟨rfl, s, rows, g, k, by rw [← hgr]; rfl, hT, hg, by omega, ?_⟩
  have hcnt : cnt s rows g k (0, none) = bwd g.ways g.ends (tl s) k 0 := (cnt_texts hT hg k).trans (texts_bwd s g k)
  have hlen : (rowsL s rows g k (0, none)).length = cnt s rows g k (0, none) := rowsL_len k (0, none)
  have hnode : ((0, none) : Node) ∈ nodes s rows g := start_mem hg
  have hrn := rowsL_nodup hT hg k (0, none) hnode
  generalize ht : cnt s rows g k (0, none) = t at hcnt hlen
  refine wd_n (by simp only [List.set_cons_zero, List.set_cons_succ]; rfl) ?_
  refine wd_cons <| w_if <| et_w <| ew_or <| et_val <| isi_ "bool" T.zisinstance T.zbool bt_bool <| nl 11 rfl rfl rfl ⟨false, rfl, _, rfl, ⟨fun _ => ?_, fun e => (nomatch e)⟩⟩
  refine ew_or1 <| et_cmp <| nl 11 rfl rfl rfl <| call_ (p__law_counted T) (hr.mono (by decide)) T.g_law_counted <| ea_cons <| nl 6 rfl rfl rfl <| ea_cons <| nl 8 rfl rfl rfl <| ea_cons <| nl 7 rfl rfl rfl <| ea_cons <| ed_ix <| nc 5 rfl rfl rfl <| ed_int <| ix_lst rfl <| ea_nil ⟨rfl, g, tl s, k, by rw [← hgr]; rfl, hg, hnd, hw2, by omega, ne_ii ?_⟩
  rw [← hcnt, decide_eq_true rfl]
  refine ⟨fun e => (nomatch e), fun _ => wd_nil ?_⟩
  refine wd_cons <| asg 12 nd rfl rfl <| ed_lst <| ea_nil ⟨by decide, ?_⟩
  refine wd_n (by simp only [List.set_cons_zero, List.set_cons_succ]; rfl) ?_
  refine wd_cons <| w_for rfl <| ei_list <| ed_slice <| sorted_ T.zsorted <| ed_lst <| ea_cons <| ed_bin <| ed_ix <| nc 5 rfl rfl rfl <| ed_int <| ix_lst rfl <| max2_ T.zmax <| ed_int <| nl 11 rfl rfl rfl ⟨_, _, rfl, rfl, mod_ii (by omega) <| ea_cons <| ed_bin <| nl 11 rfl rfl rfl <| ed_int <| sub_ii <| ea_nil ⟨(by show 2 ≤ sizeLine; decide), [d3 % max 1 (t : Int), (t : Int) - 1], rfl, (by show 2 < 64; decide), fun ms p1 p2 => eo_none <| eo_some <| ed_bin <| ed_int <| min2_ T.zmin <| ed_int <| nl 11 rfl rfl rfl ⟨_, _, rfl, rfl, mul_ii (.inl ⟨by decide, by decide⟩) ⟨_, rfl, sl_lst ?_⟩⟩⟩⟩
  obtain ⟨is, i1, i2, i3, i4⟩ := told_nums p1 p2
  rw [i1]
  let Γ0 := fun (r : List (Option (Bool × D))) => [some (false, D.scr ns), some (false, .lst (gs.map D.int)), some (false, .str s), some (false, .lst (rows.map rowD)), some (false, .lst ((pcs s rows).map D.str)), some (false, .lst (([(m : Int), (k : Int), d2, d3, d4] : List Int).map D.int)), some (false, intD (m + 1)), some (false, .lst (es.map intD)), some (false, .lst (ws.map wayD)), some (false, graD K g), some (false, folD K s rows), some (false, intD t)] ++ r
  refine .inl ⟨_, rfl, fun i Γ => ∃ o13 o14 o15 : Option (Bool × D), Γ = Γ0 [some (true, .lst ((is.take i).map (toldD s rows g k))), o13, o14, o15, none, none, none, none],
    ⟨none, none, none, rfl⟩, fun i d Γ' hd ⟨o13, o14, o15, e⟩ => ?_, fun Γ' ⟨o13, o14, o15, e⟩ => ?_⟩
  · subst e
    obtain ⟨v, hv, rfl⟩ := map_get hd
    have hvt := i2 v (List.mem_of_getElem? hv)
    refine td_name (i := 13) nd rfl (.inl rfl) ?_
    refine wd_cons <| asg 14 nd rfl rfl <| call_ (p_cutting_of T) (hr.mono (by decide)) T.gcutting_of <| ea_cons <| nl 10 rfl rfl rfl <| ea_cons <| nl 9 rfl rfl rfl <| ea_cons <| ed_ix <| nc 5 rfl rfl rfl <| ed_int <| ix_lst rfl <| ea_cons <| nl 13 rfl rfl rfl <| ea_nil ⟨rfl, s, rows, g, k, intD v, by rw [← hgr]; rfl, hT, hg, by omega, ⟨rfl, rfl⟩, fun v' qs ev hq => ?_, fun hno => absurd (by rw [ht]; exact hvt) (hno v rfl)⟩
    obtain rfl : v' = v := by injection ev with ev; omega
    obtain ⟨q1, q2, q3, q4⟩ := (rows_iff hT hg k qs).mp (List.mem_of_getElem? hq)
    have qlen : qs.length ≤ k := by
      have hp : ∀ q ∈ qs, 1 ≤ q.length := fun q hq => pcs_pos hT q (q1 q hq)
      have : ∀ l : List Str, (∀ q ∈ l, 1 ≤ q.length) → l.length ≤ (flatL l).length := by
        intro l
        induction l with
        | nil => intro _; exact Nat.le_refl 0
        | cons a r ih =>
          intro hl
          have := ih fun q hq => hl q (List.mem_cons_of_mem _ hq)
          have h1 := hl a List.mem_cons_self
          rw [len_tl] at h1
          show r.length + 1 ≤ ((a :: r).map tl).flatten.length
          rw [List.map_cons, List.flatten_cons, List.length_append]
          have e : (flatL r).length = (r.map tl).flatten.length := rfl
          omega
      have := this qs hp
      omega
    have hjl : (Txt.join "" qs).length = k := by rw [len_tl, join_empty]; exact q4
    have htx : TxOf s (Txt.join "" qs) := fun c hc => by
      rw [show (Txt.join "" qs).cps.toList = _ from join_empty qs] at hc
      obtain ⟨x, hx, hc⟩ := List.mem_flatten.mp hc
      obtain ⟨q, hq, rfl⟩ := List.mem_map.mp hx
      exact pcs_signs hT q (q1 q hq) c hc
    have okq : eqOk (.lst (qs.map D.str)) = true := Emb.str.lst.ok (by decide) fun y hy => (hls y (q1 y hy)).2.strOk
    have htel : tellsL g (tl (Txt.join "" qs)) = true := by rw [join_empty]; exact q3
    refine wd_know 14 rfl <| wd_cons <| asg 15 nd rfl rfl <| ed_join <| ed_str ⟨_, rfl, nl 14 rfl rfl rfl ⟨qs, rfl, join_sum (n := 0) (by omega) (fun q hq => Nat.le_trans (pcs_len hT q (q1 q hq)) (by decide)), ?_⟩⟩
    generalize hz : Txt.join "" qs = z at *
    refine wd_n (by simp only [Γ0, List.cons_append, List.nil_append, List.set_cons_zero, List.set_cons_succ]; rfl) ?_
    refine wd_cons <| w_if <| et_w <| ew_or <| et_cmp <| nl 14 rfl rfl rfl <| call_ (p__law_cut T) (hr.mono (by decide)) T.g_law_cut <| ea_cons <| nl 3 rfl rfl rfl <| ea_cons <| nl 15 rfl rfl rfl <| ea_nil ⟨rfl, s, rows, z, rfl, hT, by omega, htx, ?_⟩
    rw [q2]
    refine ne_dd hr.units okq okq ?_
    rw [Emb.str.lst.dec qs qs, decide_eq_true rfl]
    refine ⟨fun _ => ?_, fun e => (nomatch e)⟩
    refine ew_or <| et_cmp <| len_ T.zlen <| nl 15 rfl rfl rfl ⟨_, len_str (by omega), ed_ix <| nc 5 rfl rfl rfl <| ed_int <| ix_lst rfl <| ne_ii ?_⟩
    rw [hjl, decide_eq_true rfl]
    refine ⟨fun _ => ?_, fun e => (nomatch e)⟩
    refine ew_or1 <| et_not <| et_val <| call_ (p__law_tells T) (hr.mono (by decide)) T.g_law_tells <| ea_cons <| nl 8 rfl rfl rfl <| ea_cons <| nl 7 rfl rfl rfl <| ea_cons <| nl 15 rfl rfl rfl <| ea_nil ⟨rfl, g, z, by rw [← hgr], hg, by omega, htel, _, rfl, ?_⟩
    refine ⟨fun e => (nomatch e), fun _ => wd_nil ?_⟩
    have hLs : LsK (.lst (qs.map D.str)) := ⟨rfl, fun xs e => by
      cases e
      exact ⟨by rw [List.length_map]; omega, fun x hx => by obtain ⟨q, _, rfl⟩ := List.mem_map.mp hx; rfl⟩⟩
    have strinj : ∀ qs' : List Str, D.lst (qs.map D.str) = .lst (qs'.map D.str) → qs' = qs := fun qs' e => by
      injection e with e
      exact ((List.map_inj_right (fun a b h => by injection h)).mp e).symm
    refine wd_cons <| w_if <| et_cmp <| call_ (p_number_of T) (hr.mono (by decide)) T.gnumber_of <| ea_cons <| nl 10 rfl rfl rfl <| ea_cons <| nl 9 rfl rfl rfl <| ea_cons <| nl 14 rfl rfl rfl <| ea_nil ⟨rfl, s, rows, g, .lst (qs.map D.str), by rw [← hgr]; rfl, hT, hg, hLs, fun qs' e => by rw [strinj qs' e]; omega, fun qs' e hw => ?_, fun kk p e => ?_⟩
    rotate_left
    · rw [(wrong_none hT q1).mpr (by rw [hz]; exact q2)] at e; cases e
    · obtain rfl := strinj qs' e
      refine ⟨fun ht' => (by rw [q3] at ht'; cases ht'), fun i' hi' => nl 13 rfl rfl rfl <| ne_ii ?_⟩
      rw [q4] at hi'
      obtain ⟨b1, b2⟩ := List.getElem?_eq_some_iff.mp hi'
      obtain ⟨c1, c2⟩ := List.getElem?_eq_some_iff.mp hq
      have : i' = v' := by
        have pw := List.pairwise_iff_getElem.mp hrn
        rcases Nat.lt_trichotomy i' v' with hh | hh | hh
        · exact absurd (b2.trans c2.symm) (pw i' v' b1 c1 hh)
        · exact hh
        · exact absurd (c2.trans b2.symm) (pw v' i' c1 b1 hh)
      subst this
      rw [decide_eq_true rfl]
      refine ⟨fun e => (nomatch e), fun _ => wd_nil ?_⟩
      refine wd_one <| app 12 rfl (.inl rfl) rfl <| ed_tup <| ea_cons <| nl 13 rfl rfl rfl <| ea_cons <| ed_lc (own := [("_law_piece", 19)]) rfl nd (blkOk_by rfl) <| ei_list <| nl 14 rfl rfl rfl <| .inl ⟨_, rfl, fun j acc => acc = ((qs'.take j).map fun q => D.int (idxI (pcs s rows) q)), rfl, fun j d acc hd hI s0 H0 C cl fp xe => ?_, fun acc hI => ?_⟩
      · obtain ⟨q, hqj, rfl⟩ := map_get hd
        have hj := (List.getElem?_eq_some_iff.mp hqj).1
        have hqm := q1 q (List.mem_of_getElem? hqj)
        obtain ⟨n, hn1, hn2⟩ := idx_lt hqm
        have hn3 := idx_some hn1
        refine tc_name (i := 19) nd rfl (.inl rfl) (by simp) <| ets_nil ⟨fun _ => ?_, fun e => (nomatch e)⟩
        refine lindex <| nc 4 rfl rfl rfl ⟨_, rfl, by rw [List.all_map, List.all_eq_true]; intro _ _; rfl, nl 19 rfl rfl rfl ⟨rfl, n, .str q, by rw [List.getElem?_map, hn3]; rfl, by show (q == q) = true; simp, fun m' z' hm hz' => ?_, ?_, ?_⟩⟩
        · rw [List.getElem?_map] at hz'
          obtain ⟨q', hq', rfl⟩ := Option.map_eq_some_iff.mp hz'
          have : q' ≠ q := fun e => by
            subst e
            have := idx_at (pcs_nodup hT) hq'
            rw [hn1] at this
            injection this with this
            omega
          show (q' == q) = false
          simpa using this
        · rw [hI, List.length_map, List.length_take]; omega
        · dsimp only at hI ⊢
          rw [hI, take_succ hqj, List.map_append]
          congr 1
          show [_] = [D.int (idxI (pcs s rows) q)]
          unfold idxI
          rw [hn1]; rfl
      · rw [List.length_map, List.take_length] at hI
        subst hI
        refine ea_nil ⟨(by show 2 ≤ sizeLine; decide), by rw [List.length_map, List.length_take]; omega, some (false, intD i'), some (false, .lst (qs'.map D.str)), some (false, .str z), ?_⟩
        have et : toldD s rows g k i' = .tup [intD i', .lst (qs'.map fun q => D.int (idxI (pcs s rows) q))] := by
          unfold toldD toldR
          rw [hq]
          show D.tup [intD i', .lst ((qs'.map (idxI (pcs s rows))).map D.int)] = _
          rw [List.map_map]; rfl
        have et2 : (is.take (i + 1)).map (toldD s rows g k) = (is.take i).map (toldD s rows g k) ++ [.tup [intD i', .lst (qs'.map fun q => D.int (idxI (pcs s rows) q))]] := by
          rw [take_succ hv, List.map_append, ← et]; rfl
        rw [et2]; rfl
  · subst e
    rw [List.length_map, List.take_length]
    refine wd_know 12 rfl <| wd_cons <| w_if <| et_cmp <| len_ T.zlen <| nl 12 rfl rfl rfl ⟨_, rfl, ed_int <| lt_ii ⟨fun _ => wd_one <| w_ret <| ed_bl h, fun e => wd_nil ?_⟩⟩
    have e := of_decide_eq_false e
    rw [List.length_map] at e
    obtain ⟨a, b, rfl⟩ : ∃ a b, is = [a, b] := by
      match is, (by omega : is.length = 2) with
      | [a, b], _ => exact ⟨a, b, rfl⟩
    have hab : a ≤ b := (List.pairwise_cons.mp i4).1 _ List.mem_cons_self
    have ha := i2 a List.mem_cons_self
    have hb := i2 b (List.mem_cons_of_mem _ List.mem_cons_self)
    refine wd_cons <| w_if <| et_cmp <| ed_ix <| ed_ix <| nl 12 rfl rfl rfl <| ed_int <| ix_lst (at_nat (i := 0) rfl) <| ed_int <| ix_tup (at_nat (i := 0) rfl) <| ed_ix <| ed_ix <| nl 12 rfl rfl rfl <| ed_int <| ix_lst (at_nat (i := 1) rfl) <| ed_int <| ix_tup (at_nat (i := 0) rfl) <| eq_ii ⟨fun e1 => ?_, fun e1 => wd_nil ?_⟩
    · have e1 := of_decide_eq_true e1
      obtain rfl : a = b := by omega
      have oki : eqOk (.lst ((toldR s rows g k a).map D.int)) = true := Emb.int.lst.ok (by decide) fun _ _ => trivial
      refine wd_one <| w_ret <| ed_cmp <| ed_ix <| ed_ix <| nl 12 rfl rfl rfl <| ed_int <| ix_lst (at_nat (i := 0) rfl) <| ed_int <| ix_tup (at_nat (i := 1) rfl) <| ed_ix <| ed_ix <| nl 12 rfl rfl rfl <| ed_int <| ix_lst (at_nat (i := 1) rfl) <| ed_int <| ix_tup (at_nat (i := 1) rfl) <| eq_dd hr.units oki oki ?_
      rw [Emb.int.lst.dec, decide_eq_true rfl]
      exact h
    · have e1 := of_decide_eq_false e1
      have lt : HT.lexLt (toldR s rows g k a) (toldR s rows g k b) = true := by
        have ga : (rowsL s rows g k (0, none))[a]? = some ((rowsL s rows g k (0, none))[a]'(by omega)) := List.getElem?_eq_getElem _
        have gb : (rowsL s rows g k (0, none))[b]? = some ((rowsL s rows g k (0, none))[b]'(by omega)) := List.getElem?_eq_getElem _
        unfold toldR
        rw [ga, gb]
        exact rows_lt hT hg hnode (by omega) ga gb
      refine wd_one <| w_ret <| ed_cmp <| ed_ix <| ed_ix <| nl 12 rfl rfl rfl <| ed_int <| ix_lst (at_nat (i := 0) rfl) <| ed_int <| ix_tup (at_nat (i := 1) rfl) <| ed_ix <| ed_ix <| nl 12 rfl rfl rfl <| ed_int <| ix_lst (at_nat (i := 1) rfl) <| ed_int <| ix_tup (at_nat (i := 1) rfl) <| lt_LL hr.units ?_
      rw [lt]
      exact h
end
end Lw

open PySem PySem.W PySem.Calls PyProof.Rows
set_option maxRecDepth 100000 in
set_option maxHeartbeats 0 in
theorem PySem.Challenge.cw_joinranks_k99_whole_numbered_at_full_tab_holds : PySem.Challenge.rw_joinranks_k99_whole_numbered_at_full_tab.Holds := by
  w_on; o_law
  refine HandSHeadRun.head_any (r := OpenLaw.row PySem.Challenge.rw_joinranks_k99_whole_numbered_at_full_tab) (q := view (OpenLaw.row PySem.Challenge.rw_joinranks_k99_whole_numbered_at_full_tab).prog [56]) (H := Lw.hk) (ob := Lw.ob) (M := 20000) (loose := Lw.loose) (d := HandSHeadRun.topDef (OpenLaw.row PySem.Challenge.rw_joinranks_k99_whole_numbered_at_full_tab).prog 56) (kwd := []) Lw.ob_eq
    (by kernel_rfl) (fun s => by kernel_rfl) Lw.run (by kernel_rfl) (by kernel_rfl) (by kernel_rfl) (by rfl) (by first | assumption | decide +kernel) (by decide +kernel) ⟨rfl, rfl, rfl, rfl, rfl, by decide +kernel⟩ ?hw ?hc
  case hw => w_witness2
  case hc =>
    refine DL.law_end (l := PySem.Challenge.rw_joinranks_k99_whole_numbered_at_full_tab) (k := 28) (x := "_law_script") rfl (by kernel_rfl) ⟨rfl, by decide, by decide⟩ ?F
    intro w mg fa h Y G hmg0
    obtain ⟨K, KX, c⟩ := Y
    have hmg : mg ("law" : PySem.Str) = some (.ref fa) := by
      have e : (HandSHeadRun.topDef (OpenLaw.row PySem.Challenge.rw_joinranks_k99_whole_numbered_at_full_tab).prog 56).name = ("law" : PySem.Str) := by kernel_rfl
      rw [← e]
      exact hmg0
    have T := Lw.txt_of KX G c
    have e := hmg.symm.trans T.glaw
    cases e
    obtain ⟨fd, hb, hF⟩ := Lw.p_law (P := (PySem.Challenge.rw_joinranks_k99_whole_numbered_at_full_tab).prog) (w := w) T
    exact ⟨K, KX, fd, hb, fun base _ _ => hF base⟩
#print axioms PySem.Challenge.cw_joinranks_k99_whole_numbered_at_full_tab_holds
