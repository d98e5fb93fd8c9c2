import PyProof.Rows.All
import HandS.ForMost
import HandS.Exc
import HandS.ExcOwn
import HandS.CallSlots
import HandS.WordsExc
import HandS.Walk
import HandS.Zip
import HandS.Wide
import HandS.More
import HandS.Codes
import HandS.IsInst
import HandS.TupAny
import HandS.TupMul
import KE.GoesEnum
import KE.GoesZip
import KE.GoesMore
import HandS.Style
import HandS.Defaults
import HandS.HeadHook2
import HandS.HeadHook3
import HandS.HeadHook4
import HandS.HeadWalk
import HandS.Head0
import HandS.Head1
import HandS.Head2
import PySem.Challenge.RW_tintbridge_k02_whole_curves
set_option Elab.async false
set_option linter.all false
set_option maxRecDepth 100000
set_option maxHeartbeats 4000000
/-! Tv1: values as trees, their standing in the heap, the state of a frame -/
namespace Tv
open PySem PySem.Spec PyProof.Rows L2

inductive D where
  | non | bl (b : Bool) | int (i : Int) | str (x : Str)
  | tup (ds : List D) | lst (ds : List D) | frz (ds : List D)
  | ins (c : Nat) (ds : List D)
  | cell (n : Nat)
  | fn (n : Nat)
  | dic (ks : List Key) (ds : List D)
  | exc (c : Nat) (ds : List D)
  | sf (c : Nat) (ds : List D)
  deriving Inhabited

/-- addresses of classes and defs, the fields' names of a class's instances -/
structure Tb where
  cls : Nat → Addr
  fn : Nat → Addr
  fl : Nat → List Str
  self : Option Addr := none

abbrev S := List D
inductive R (α : Type) where
  | ok (a : α) (s : S) | er (c : Nat) (ds : List D) (s : S) | no
def R.bind {α β : Type} (r : R α) (f : α → S → R β) : R β := match r with
  | .ok a s => f a s
  | .er c ds s => .er c ds s
  | .no => .no

inductive SD where
  | un | v (d : D) | own (d : D)
abbrev EM := List SD → S → R D
abbrev TM := List SD → S → R Bool
abbrev FM := List D → S → R D

mutual
inductive Rep (K : PySem.W.Frag) (T : Tb) (cm : List Addr) (G : Hp) : V → D → Prop
  | non : Rep K T cm G .non .non
  | bl (b : Bool) : Rep K T cm G (.bl b) (.bl b)
  | int (i : Int) : Rep K T cm G (.int i) (.int i)
  | str (x : Str) : Rep K T cm G (.str x) (.str x)
  | tup {a : Addr} {xs : List V} {ds : List D} : SqT K G a xs → Reps K T cm G xs ds → Rep K T cm G (.ref a) (.tup ds)
  | lst {a : Addr} {xs : List V} {ds : List D} : G a = some (.lst xs) → Reps K T cm G xs ds → Rep K T cm G (.ref a) (.lst ds)
  | frz {a : Addr} {xs : List V} {ds : List D} : SqL K G a xs → Reps K T cm G xs ds → Rep K T cm G (.ref a) (.frz ds)
  | ins {a dx : Addr} {c : Nat} {fs : List (Str × V)} {ds : List D} : G a = some (.ins (T.cls c) dx fs) → fs.map (·.1) = T.fl c → Reps K T cm G (fs.map (·.2)) ds → Rep K T cm G (.ref a) (.ins c ds)
  | cell {a : Addr} {n : Nat} : cm[n]? = some a → Rep K T cm G (.ref a) (.cell n)
  | fn (n : Nat) : Rep K T cm G (.ref (T.fn n)) (.fn n)
  | dic {a : Addr} {kvs : List (Key × V)} {ds : List D} : Rd G a (.dK kvs) → Reps K T cm G (kvs.map (·.2)) ds → Rep K T cm G (.ref a) (.dic (kvs.map (·.1)) ds)
inductive Reps (K : PySem.W.Frag) (T : Tb) (cm : List Addr) (G : Hp) : List V → List D → Prop
  | nil : Reps K T cm G [] []
  | cons {v : V} {d : D} {vs : List V} {ds : List D} : Rep K T cm G v d → Reps K T cm G vs ds → Reps K T cm G (v :: vs) (d :: ds)
end

/-! ### growing -/
def Sub (G G' : Hp) : Prop := ∀ a o, G a = some o → G' a = some o
theorem Sub.refl (G : Hp) : Sub G G := fun _ _ h => h
theorem Sub.trans {G G1 G2 : Hp} (a : Sub G G1) (b : Sub G1 G2) : Sub G G2 := fun c o h => b c o (a c o h)
theorem Sub.rd {G G' : Hp} {a : Addr} {u : HO} (e : Sub G G') (h : Rd G a u) : Rd G' a u := by
  rcases h with h | ⟨o, h⟩
  · exact .inl (e _ _ h)
  · exact .inr ⟨o, e _ _ h⟩
theorem Sub.seqL {K : PySem.W.Frag} {G G' : Hp} {a : Addr} {xs : List V} (e : Sub G G') (h : SqL K G a xs) : SqL K G' a xs := by
  rcases h with h | h
  · exact .inl (e.rd h)
  · exact .inr h
theorem Sub.seqT {K : PySem.W.Frag} {G G' : Hp} {a : Addr} {xs : List V} (e : Sub G G') (h : SqT K G a xs) : SqT K G' a xs := by
  rcases h with h | h
  · exact .inl (e.rd h)
  · exact .inr h
def Pre (cm cm' : List Addr) : Prop := ∃ l, cm' = cm ++ l
theorem Pre.refl (cm : List Addr) : Pre cm cm := ⟨[], by simp⟩
theorem Pre.trans {a b c : List Addr} (h : Pre a b) (h' : Pre b c) : Pre a c := by
  obtain ⟨l, rfl⟩ := h
  obtain ⟨m, rfl⟩ := h'
  exact ⟨l ++ m, by simp⟩
theorem Pre.get {a b : List Addr} (h : Pre a b) {n : Nat} {x : Addr} (e : a[n]? = some x) : b[n]? = some x := by
  obtain ⟨l, rfl⟩ := h
  have hn : n < a.length := (List.getElem?_eq_some_iff.mp e).1
  rw [List.getElem?_append_left hn]
  exact e
theorem Pre.mem {a b : List Addr} (h : Pre a b) {x : Addr} (e : x ∈ a) : x ∈ b := by
  obtain ⟨l, rfl⟩ := h
  exact List.mem_append_left _ e

section
variable {K : PySem.W.Frag} {T : Tb} {cm cm' : List Addr} {G G' : Hp}
mutual
theorem Rep.mono (hc : Pre cm cm') (hg : Sub G G') : ∀ (d : D) (v : V), Rep K T cm G v d → Rep K T cm' G' v d
  | .non, _, h => by cases h; exact .non
  | .bl b, _, h => by cases h; exact .bl b
  | .int i, _, h => by cases h; exact .int i
  | .str x, _, h => by cases h; exact .str x
  | .tup ds, _, h => by
    cases h with
    | tup hs hr => exact .tup (hg.seqT hs) (Reps.mono hc hg ds _ hr)
  | .lst ds, _, h => by
    cases h with
    | lst hs hr => exact .lst (hg _ _ hs) (Reps.mono hc hg ds _ hr)
  | .frz ds, _, h => by
    cases h with
    | frz hs hr => exact .frz (hg.seqL hs) (Reps.mono hc hg ds _ hr)
  | .ins c ds, _, h => by
    cases h with
    | ins ha hn hr => exact .ins (hg _ _ ha) hn (Reps.mono hc hg ds _ hr)
  | .cell n, _, h => by
    cases h with
    | cell e => exact .cell (hc.get e)
  | .fn n, _, h => by cases h; exact .fn n
  | .dic ks ds, _, h => by
    cases h with
    | dic ha hr => exact .dic (hg.rd ha) (Reps.mono hc hg ds _ hr)
  | .exc _ _, _, h => by cases h
  | .sf _ _, _, h => by cases h
theorem Reps.mono (hc : Pre cm cm') (hg : Sub G G') : ∀ (ds : List D) (vs : List V), Reps K T cm G vs ds → Reps K T cm' G' vs ds
  | [], _, h => by cases h; exact .nil
  | d :: ds, _, h => by
    cases h with
    | cons h1 h2 => exact .cons (Rep.mono hc hg d _ h1) (Reps.mono hc hg ds _ h2)
end
theorem Reps.len : ∀ {vs : List V} {ds : List D}, Reps K T cm G vs ds → vs.length = ds.length
  | _, _, .nil => rfl
  | _, _, .cons _ t => by simp [Reps.len t]
theorem Reps.app : ∀ {vs ws : List V} {ds es : List D}, Reps K T cm G vs ds → Reps K T cm G ws es → Reps K T cm G (vs ++ ws) (ds ++ es)
  | _, _, _, _, .nil, h => h
  | _, _, _, _, .cons r t, h => .cons r (Reps.app t h)
theorem Reps.get : ∀ {vs : List V} {ds : List D} {i : Nat} {d : D}, Reps K T cm G vs ds → ds[i]? = some d → ∃ v, vs[i]? = some v ∧ Rep K T cm G v d
  | _, _, _, _, .nil, e => by simp at e
  | _, _, 0, _, .cons r _, e => by simp at e; subst e; exact ⟨_, rfl, r⟩
  | _, _, i + 1, d, .cons _ t, e => by
    obtain ⟨v, h1, h2⟩ := Reps.get (i := i) (d := d) t (by simpa using e)
    exact ⟨v, by simpa using h1, h2⟩
theorem Reps.getV : ∀ {vs : List V} {ds : List D} {i : Nat} {v : V}, Reps K T cm G vs ds → vs[i]? = some v → ∃ d, ds[i]? = some d ∧ Rep K T cm G v d
  | _, _, _, _, .nil, e => by simp at e
  | _, _, 0, _, .cons r _, e => by simp at e; subst e; exact ⟨_, rfl, r⟩
  | _, _, i + 1, v, .cons _ t, e => by
    obtain ⟨d, h1, h2⟩ := Reps.getV (i := i) (v := v) t (by simpa using e)
    exact ⟨d, by simpa using h1, h2⟩
theorem Reps.set {v : V} {d : D} (r : Rep K T cm G v d) : ∀ {vs : List V} {ds : List D} (i : Nat), Reps K T cm G vs ds → Reps K T cm G (vs.set i v) (ds.set i d)
  | _, _, _, .nil => .nil
  | _, _, 0, .cons _ t => .cons r t
  | _, _, i + 1, .cons q t => .cons q (Reps.set r i t)
theorem Reps.take : ∀ {vs : List V} {ds : List D} (n : Nat), Reps K T cm G vs ds → Reps K T cm G (vs.take n) (ds.take n)
  | _, _, 0, _ => .nil
  | _, _, _ + 1, .nil => .nil
  | _, _, n + 1, .cons r t => .cons r (Reps.take n t)
theorem Reps.drop : ∀ {vs : List V} {ds : List D} (n : Nat), Reps K T cm G vs ds → Reps K T cm G (vs.drop n) (ds.drop n)
  | _, _, 0, r => r
  | _, _, _ + 1, .nil => .nil
  | _, _, n + 1, .cons _ t => Reps.drop n t
theorem Reps.reverse : ∀ {vs : List V} {ds : List D}, Reps K T cm G vs ds → Reps K T cm G vs.reverse ds.reverse
  | _, _, .nil => .nil
  | _, _, .cons r t => by
    rw [List.reverse_cons, List.reverse_cons]
    exact Reps.app (Reps.reverse t) (.cons r .nil)
theorem Reps.dropLast {vs : List V} {ds : List D} (h : Reps K T cm G vs ds) : Reps K T cm G vs.dropLast ds.dropLast := by
  rw [List.dropLast_eq_take, List.dropLast_eq_take, h.len]
  exact Reps.take _ h
end

/-! ### what is hidden -/
open Classical in
noncomputable def hid (p : Addr → Prop) (H : Hp) : Hp := fun a => if p a then none else H a
theorem hid_some {p : Addr → Prop} {H : Hp} {a : Addr} {o : HO} : hid p H a = some o ↔ ¬ p a ∧ H a = some o := by
  unfold hid
  by_cases h : p a
  · rw [if_pos h]
    exact ⟨fun (z : (none : Option HO) = some o) => (by cases z), fun z => absurd h z.1⟩
  · rw [if_neg h]
    exact ⟨fun z => ⟨h, z⟩, fun z => z.2⟩
theorem hid_sub {p p' : Addr → Prop} {H H' : Hp} (h : ∀ a o, ¬ p a → H a = some o → ¬ p' a ∧ H' a = some o) : Sub (hid p H) (hid p' H') := fun a o e => by
  obtain ⟨n, e⟩ := hid_some.mp e
  exact hid_some.mpr (h a o n e)

/-- owned: the list or instance of a slot that this frame made and has not handed on -/
def Ow (σ : L2.St) (ρ : List SD) (a : Addr) : Prop := ∃ (i : Nat) (d : D), ρ[i]? = some (.own d) ∧ σ[i]? = some (some (.ref a))
def HidP (cm : List Addr) (Z : Addr → Prop) (O : Addr → Prop) : Addr → Prop := fun a => a ∈ cm ∨ Z a ∨ O a
noncomputable abbrev GV (cm : List Addr) (Z O : Addr → Prop) (H : Hp) : Hp := hid (HidP cm Z O) H

/-- the object at a is d, its parts stand in G -/
def OwnRep (K : PySem.W.Frag) (T : Tb) (cm : List Addr) (G H : Hp) (a : Addr) : D → Prop
  | .lst ds => ∃ xs, H a = some (.lst xs) ∧ Reps K T cm G xs ds
  | .ins c ds => ∃ dx fs, H a = some (.ins (T.cls c) dx fs) ∧ fs.map (·.1) = (T.fl c).take ds.length ∧ Reps K T cm G (fs.map (·.2)) ds
  | .sf c ds => T.self = some a ∧ ∃ dx fs, H a = some (.ins (T.cls c) dx fs) ∧ fs.map (·.1) = (T.fl c).take ds.length ∧ Reps K T cm G (fs.map (·.2)) ds
  | _ => False
def D.isSf : D → Bool
  | .sf _ _ => true
  | _ => false

section
variable (K : PySem.W.Frag) (T : Tb)
structure Cells (Z O : Addr → Prop) (cm : List Addr) (H : Hp) (s : S) : Prop where
  len : cm.length = s.length
  nd : cm.Nodup
  at_ : ∀ (n : Nat) (a : Addr) (d : D), cm[n]? = some a → s[n]? = some d → OwnRep K T cm (GV cm Z O H) H a d
  there : ∀ a, a ∈ cm → H a ≠ none
  zok : ∀ a, Z a → H a ≠ none
  nosf : ∀ d, d ∈ s → d.isSf = false
/-- the state of a frame: the slots, the heap, against ρ and s. B: what is to stay; Z: hidden by callers -/
structure Rel (B : Hp) (Z : Addr → Prop) (cm : List Addr) (σ : L2.St) (H : Hp) (ρ : List SD) (s : S) : Prop where
  len : ρ.length = σ.length
  val : ∀ (i : Nat) (d : D), ρ[i]? = some (.v d) → ∃ v, σ[i]? = some (some v) ∧ Rep K T cm (GV cm Z (Ow σ ρ) H) v d
  own : ∀ (i : Nat) (d : D), ρ[i]? = some (.own d) → ∃ a, σ[i]? = some (some (.ref a)) ∧ OwnRep K T cm (GV cm Z (Ow σ ρ) H) H a d ∧ a ∉ cm ∧ ¬ Z a ∧ B a = none
  apart : ∀ (i j : Nat) (d e : D) (a : Addr), ρ[i]? = some (.own d) → ρ[j]? = some (.own e) → σ[i]? = some (some (.ref a)) → σ[j]? = some (some (.ref a)) → i = j
  cells : Cells K T Z (Ow σ ρ) cm H s
  base : ∀ a o, B a = some o → H a = some o ∧ a ∉ cm
/-- all but the cells stays, the cells grow by new ones -/
structure Ext (cm : List Addr) (H : Hp) (cm' : List Addr) (H' : Hp) : Prop where
  pre : Pre cm cm'
  keep : ∀ a o, H a = some o → a ∉ cm → H' a = some o ∧ a ∉ cm'
  there : ∀ a, H a ≠ none → H' a ≠ none
end
section
variable {K : PySem.W.Frag} {T : Tb} {B : Hp} {Z O : Addr → Prop} {cm cm1 cm2 : List Addr} {σ : L2.St} {H H1 H2 : Hp} {ρ : List SD} {s s1 : S}
theorem Ext.refl (cm : List Addr) (H : Hp) : Ext cm H cm H := ⟨.refl _, fun _ _ h n => ⟨h, n⟩, fun _ h => h⟩
theorem Ext.trans (a : Ext cm H cm1 H1) (b : Ext cm1 H1 cm2 H2) : Ext cm H cm2 H2 :=
  ⟨a.pre.trans b.pre, fun x o h n => b.keep x o (a.keep x o h n).1 (a.keep x o h n).2, fun x h => b.there x (a.there x h)⟩
theorem Ext.sub (e : Ext cm H cm1 H1) : Sub (GV cm Z O H) (GV cm1 Z O H1) := hid_sub fun a o (n : ¬ HidP cm Z O a) h => by
  have nc : a ∉ cm := fun z => n (.inl z)
  obtain ⟨h1, h2⟩ := e.keep a o h nc
  refine ⟨fun (z : HidP cm1 Z O a) => ?_, h1⟩
  · rcases z with z | z
    · exact h2 z
    · exact n (.inr z)
/-- a new thing at p -/
theorem Ext.new {p : Addr} {o : HO} (h : H p = none) (hc : ∀ a, a ∈ cm → H a ≠ none) : Ext cm H cm (upd H p o) :=
  ⟨.refl _, fun a u e n => ⟨by rw [upd_ne (ne_of_none e h)]; exact e, n⟩, fun a e => by
    by_cases q : a = p
    · rw [q, upd_same]; intro z; cases z
    · rw [upd_ne q]; exact e⟩
theorem OwnRep.ext {G G1 : Hp} {a : Addr} {d : D} (r : OwnRep K T cm G H a d) (hc : Pre cm cm1) (hg : Sub G G1) (ha : ∀ o, H a = some o → H1 a = some o) : OwnRep K T cm1 G1 H1 a d := by
  cases d with
  | lst ds =>
    obtain ⟨xs, e, q⟩ := r
    exact ⟨xs, ha _ e, Reps.mono hc hg _ _ q⟩
  | ins c ds =>
    obtain ⟨dx, fs, e, n, q⟩ := r
    exact ⟨dx, fs, ha _ e, n, Reps.mono hc hg _ _ q⟩
  | sf c ds =>
    obtain ⟨es, dx, fs, e, n, q⟩ := r
    exact ⟨es, dx, fs, ha _ e, n, Reps.mono hc hg _ _ q⟩
  | _ => exact r.elim
theorem OwnRep.there {G : Hp} {a : Addr} {d : D} (r : OwnRep K T cm G H a d) : H a ≠ none := by
  cases d with
  | lst ds =>
    obtain ⟨xs, e, q⟩ := r
    rw [e]; intro z; cases z
  | ins c ds =>
    obtain ⟨dx, fs, e, n, q⟩ := r
    rw [e]; intro z; cases z
  | sf c ds =>
    obtain ⟨es, dx, fs, e, n, q⟩ := r
    rw [e]; intro z; cases z
  | _ => exact r.elim
/-- the state behind an expression -/
theorem Rel.ext (r : Rel K T B Z cm σ H ρ s) (e : Ext cm H cm1 H1) (c : Cells K T Z (Ow σ ρ) cm1 H1 s1) : Rel K T B Z cm1 σ H1 ρ s1 where
  len := r.len
  val := fun i d h => by
    obtain ⟨v, h1, h2⟩ := r.val i d h
    exact ⟨v, h1, Rep.mono e.pre e.sub _ _ h2⟩
  own := fun i d h => by
    obtain ⟨a, h1, h2, h3, h4, h5⟩ := r.own i d h
    have q : ∃ o, H a = some o := by
      cases z : H a with
      | none => exact absurd z h2.there
      | some o => exact ⟨o, rfl⟩
    obtain ⟨o, q⟩ := q
    refine ⟨a, h1, h2.ext e.pre e.sub (fun o z => (e.keep a o z h3).1), (e.keep a o q h3).2, h4, h5⟩
  apart := r.apart
  cells := c
  base := fun a o h => by
    obtain ⟨h1, h2⟩ := r.base a o h
    exact e.keep a o h1 h2
/-- the cells where the heap grows and no cell is touched -/
theorem Cells.grow (c : Cells K T Z O cm H s) (h : Sub H H1) : Cells K T Z O cm H1 s where
  len := c.len
  nd := c.nd
  at_ := fun n a d e1 e2 => (c.at_ n a d e1 e2).ext (.refl _) (hid_sub fun b o n e => ⟨n, h b o e⟩) fun o e => h a o e
  there := fun a m => by
    have q := c.there a m
    cases z : H a with
    | none => exact absurd z q
    | some o => rw [h a o z]; intro z; cases z
  zok := fun a m => by
    have q := c.zok a m
    cases z : H a with
    | none => exact absurd z q
    | some o => rw [h a o z]; intro z; cases z
  nosf := c.nosf
theorem Ext.grow (h : Sub H H1) : Ext cm H cm H1 := ⟨.refl _, fun a o e n => ⟨h a o e, n⟩, fun a e => by
  cases z : H a with
  | none => exact absurd z e
  | some o => rw [h a o z]; intro z; cases z⟩
theorem sub_upd {p : Addr} {o : HO} (h : H p = none) : Sub H (upd H p o) := fun a u e => by rw [upd_ne (ne_of_none e h)]; exact e
end
end Tv

/-! Tv2: what an expression is to reach; joining -/
namespace Tv
open PySem PySem.Spec PyProof.Rows L2

/-- a frame's fixed things while an expression runs -/
structure Fm where
  B : Hp
  Z : Addr → Prop
  σ : L2.St
  ρ : List SD
abbrev Fm.O (F : Fm) : Addr → Prop := Ow F.σ F.ρ
noncomputable abbrev Fm.G (F : Fm) (cm : List Addr) (H : Hp) : Hp := GV cm F.Z F.O H
abbrev FRel (K : PySem.W.Frag) (T : Tb) (F : Fm) (cm : List Addr) (H : Hp) (s : S) : Prop := Rel K T F.B F.Z cm F.σ H F.ρ s

/-- an exception of the class c with the fields' values ds -/
def ErrRep (K : PySem.W.Frag) (T : Tb) (cm : List Addr) (G H : Hp) (cls : Value) (d : Option Addr) (c : Nat) (ds : List D) : Prop :=
  cls = .ref (T.cls c) ∧ ((ds = [] ∧ d = none) ∨ ∃ dx gs, d = some dx ∧ H dx = some (.xd gs) ∧ gs.map (·.1) = T.fl c ∧ Reps K T cm G (gs.map (·.2)) ds)

abbrev AK (α β : Type) := Fm → Hp → List Addr → Hp → S → β → α → Prop
section
variable (K : PySem.W.Frag) (T : Tb)
def Post {α β : Type} (F : Fm) (cm : List Addr) (H : Hp) (W : WX) (A : AK α β) (r : R α) (Q : β → Hp → Prop) : Prop := match r with
  | .ok a s' => ∀ b H' cm', Ext cm H cm' H' → FRel K T F cm' H' s' → A F H cm' H' s' b a → Q b H'
  | .er c ds s' => ∀ cls dx H' cm', Ext cm H cm' H' → FRel K T F cm' H' s' → ErrRep K T cm' (F.G cm' H') H' cls dx c ds → W cls dx F.σ H'
  | .no => False
def tP {α β : Type} (W : WX) (A : AK α β) (m : List SD → S → R α) : L2.St → Hp → (β → Hp → Prop) → Prop := fun σ H Q =>
  ∃ B Z cm ρ s, Rel K T B Z cm σ H ρ s ∧ Post K T ⟨B, Z, σ, ρ⟩ cm H W A (m ρ s) Q
/-- a value | a value, or an owned list as it stands | values | a test | a new list or instance that nobody else has -/
def AR : AK D V := fun F _ cm H _ v d => Rep K T cm (F.G cm H) v d
def AB : AK D V := fun F _ cm H _ v d => Rep K T cm (F.G cm H) v d ∨ ∃ a, v = .ref a ∧ F.O a ∧ OwnRep K T cm (F.G cm H) H a d
def AL : AK (List D) (List V) := fun F _ cm H _ v d => Reps K T cm (F.G cm H) v d
def AT : AK Bool Bool := fun _ _ _ _ _ v d => v = d
def AF : AK D V := fun F H0 cm H s v d => ∃ p ds xs, v = .ref p ∧ d = .lst ds ∧ H0 p = none ∧ p ∉ cm ∧ Rel K T F.B (fun a => F.Z a ∨ a = p) cm F.σ H F.ρ s ∧ H p = some (.lst xs) ∧ Reps K T cm (GV cm (fun a => F.Z a ∨ a = p) F.O H) xs ds
def Up {α β : Type} (A : AK α β) : Prop := ∀ F H H1 cm2 H2 s b a, (∀ x, H x ≠ none → H1 x ≠ none) → A F H1 cm2 H2 s b a → A F H cm2 H2 s b a
end
section
variable {K : PySem.W.Frag} {T : Tb}
theorem up_AR : Up (AR K T) := fun _ _ _ _ _ _ _ _ _ h => h
theorem up_AB : Up (AB K T) := fun _ _ _ _ _ _ _ _ _ h => h
theorem up_AL : Up (AL K T) := fun _ _ _ _ _ _ _ _ _ h => h
theorem up_AT : Up AT := fun _ _ _ _ _ _ _ _ _ h => h
theorem none_of_there {H H1 : Hp} {p : Addr} (h : ∀ x, H x ≠ none → H1 x ≠ none) (e : H1 p = none) : H p = none := by
  cases z : H p with
  | none => rfl
  | some o => exact absurd e (h p (by rw [z]; intro z; cases z))
theorem up_AF : Up (AF K T) := fun _ _ _ _ _ _ _ _ h z => by
  obtain ⟨p, ds, xs, e, ed, hp, r⟩ := z
  exact ⟨p, ds, xs, e, ed, none_of_there h hp, r⟩
section
variable {α β α' β' : Type} {F : Fm} {cm cm1 : List Addr} {H H1 : Hp} {W : WX} {A : AK α β} {A' : AK α' β'} {r : R α} {Q Q' : β → Hp → Prop} {s s1 : S}
theorem Post.mono (h : Post K T F cm H W A r Q) (q : ∀ b H', Q b H' → Q' b H') : Post K T F cm H W A r Q' := by
  cases r with
  | ok a s' => exact fun b H' cm' e r z => q b H' (h b H' cm' e r z)
  | er c ds s' => exact h
  | no => exact h
/-- from further on -/
theorem Post.later (h : Post K T F cm H W A r Q) (e : Ext cm H cm1 H1) (up : Up A) : Post K T F cm1 H1 W A r Q := by
  cases r with
  | ok a s' => exact fun b H' cm' e' r z => h b H' cm' (e.trans e') r (up _ _ _ _ _ _ _ _ e.there z)
  | er c ds s' => exact fun cls dx H' cm' e' r z => h cls dx H' cm' (e.trans e') r z
  | no => exact h
/-- what stands behind the first part -/
def Mid (K : PySem.W.Frag) (T : Tb) {α β α' β' : Type} (F : Fm) (cm : List Addr) (H : Hp) (W : WX) (A : AK α β) (A' : AK α' β') (f : α → S → R α') (Q : β' → Hp → Prop) : β → Hp → Prop := fun b H1 =>
  ∃ cm1 a s1, Ext cm H cm1 H1 ∧ FRel K T F cm1 H1 s1 ∧ A F H cm1 H1 s1 b a ∧ Post K T F cm1 H1 W A' (f a s1) Q
theorem Post.bind {f : α → S → R α'} {Q : β' → Hp → Prop} (h : Post K T F cm H W A' (r.bind f) Q) (up : Up A') : Post K T F cm H W A r (Mid K T F cm H W A A' f Q) := by
  cases r with
  | ok a s' => exact fun b H' cm' e r z => ⟨cm', a, s', e, r, z, Post.later h e up⟩
  | er c ds s' => exact h
  | no => exact h
/-- the first part of a joined reading -/
theorem tP.bind {m : List SD → S → R α} {f : List SD → α → S → R α'} {σ : L2.St} {Q : β' → Hp → Prop} {k : β → Hp → Prop} (A : AK α β)
    (h : tP K T W A' (fun ρ s => (m ρ s).bind (f ρ)) σ H Q) (up : Up A')
    (q : ∀ B Z cm ρ b H1, Mid K T ⟨B, Z, σ, ρ⟩ cm H W A A' (f ρ) Q b H1 → k b H1) : tP K T W A m σ H k := by
  obtain ⟨B, Z, cm, ρ, s, r, p⟩ := h
  exact ⟨B, Z, cm, ρ, s, r, (p.bind (A := A) up).mono fun b H1 z => q B Z cm ρ b H1 z⟩
theorem tP.of {m : List SD → S → R α} {σ : L2.St} {B : Hp} {Z : Addr → Prop} {ρ : List SD} (r : FRel K T ⟨B, Z, σ, ρ⟩ cm H s) (p : Post K T ⟨B, Z, σ, ρ⟩ cm H W A (m ρ s) Q) : tP K T W A m σ H Q := ⟨B, Z, cm, ρ, s, r, p⟩
/-- the end: nothing more is made -/
theorem Post.fin {a : α} {b : β} (h : Post K T F cm H W A (.ok a s) Q) (r : FRel K T F cm H s) (z : A F H cm H s b a) : Q b H := h b H cm (Ext.refl _ _) r z
/-- the end: a new thing stands at p -/
theorem FRel.grow (r : FRel K T F cm H s) (g : Sub H H1) : FRel K T F cm H1 s := Rel.ext r (Ext.grow g) (Rel.cells r |>.grow g)
theorem Post.fin_new {a : α} {b : β} (h : Post K T F cm H W A (.ok a s) Q) (r : FRel K T F cm H s) (g : Sub H H1) (z : A F H cm H1 s b a) : Q b H1 := h b H1 cm (Ext.grow g) (r.grow g) z
end

/-! ### a value is a value -/
theorem Rel.hidden {B : Hp} {Z : Addr → Prop} {cm : List Addr} {σ : L2.St} {H : Hp} {ρ : List SD} {s : S} (r : Rel K T B Z cm σ H ρ s) {a : Addr} (h : HidP cm Z (Ow σ ρ) a) : H a ≠ none := by
  rcases h with h | h | ⟨i, d, e1, e2⟩
  · exact r.cells.there a h
  · exact r.cells.zok a h
  · obtain ⟨b, q1, q2, _⟩ := r.own i d e1
    have e : b = a := by rw [q1] at e2; cases e2; rfl
    subst e
    exact q2.there
theorem FRel.new_vis {F : Fm} {cm : List Addr} {H : Hp} {s : S} (r : FRel K T F cm H s) {p : Addr} (h : H p = none) : ¬ HidP cm F.Z F.O p := fun z => Rel.hidden r z h
/-- a new thing is seen -/
theorem vis_new {F : Fm} {cm : List Addr} {H : Hp} {s : S} (r : FRel K T F cm H s) {p : Addr} {o : HO} (h : H p = none) : F.G cm (upd H p o) p = some o := hid_some.mpr ⟨r.new_vis h, upd_same⟩
theorem sub_new {F : Fm} {cm : List Addr} {H : Hp} {s : S} (r : FRel K T F cm H s) {p : Addr} {o : HO} (h : H p = none) : Sub (F.G cm H) (F.G cm (upd H p o)) := hid_sub fun a u n e => ⟨n, sub_upd h a u e⟩
theorem rep_tup {F : Fm} {cm : List Addr} {H : Hp} {s : S} (r : FRel K T F cm H s) {p : Addr} {xs : List V} {ds : List D} (h : H p = none) (q : Reps K T cm (F.G cm H) xs ds) :
    Rep K T cm (F.G cm (upd H p (.tup xs))) (.ref p) (.tup ds) := .tup (.inl (.inl (vis_new r h))) (Reps.mono (.refl _) (sub_new r h) _ _ q)
/-- a new list, its own -/
theorem rep_lst {F : Fm} {cm : List Addr} {H : Hp} {s : S} (r : FRel K T F cm H s) {p : Addr} {xs : List V} {ds : List D} (h : H p = none) (q : Reps K T cm (F.G cm H) xs ds) :
    AF K T F H cm (upd H p (.lst xs)) s (.ref p) (.lst ds) := by
  have nc : p ∉ cm := fun z => r.new_vis h (.inl z)
  have sub : Sub (F.G cm H) (GV cm (fun a => F.Z a ∨ a = p) F.O (upd H p (.lst xs))) := hid_sub fun a u n e => ⟨fun z => by
    rcases z with z | z | z
    · exact n (.inl z)
    · rcases z with z | z
      · exact n (.inr (.inl z))
      · rw [z, h] at e; cases e
    · exact n (.inr (.inr z)), sub_upd h a u e⟩
  refine ⟨p, ds, xs, rfl, rfl, h, nc, ?_, upd_same, Reps.mono (.refl _) sub _ _ q⟩
  have g := sub_upd (o := .lst xs) h
  refine ⟨r.len, fun i d e => ?_, fun i d e => ?_, r.apart, ⟨r.cells.len, r.cells.nd, fun n a d e1 e2 => ?_, fun a m => (r.cells.grow g).there a m, fun a m => ?_, r.cells.nosf⟩, fun a o e => ?_⟩
  · obtain ⟨v, h1, h2⟩ := r.val i d e
    exact ⟨v, h1, Rep.mono (.refl _) sub _ _ h2⟩
  · obtain ⟨a, h1, h2, h3, h4, h5⟩ := r.own i d e
    refine ⟨a, h1, h2.ext (.refl _) sub fun o z => g a o z, h3, fun z => ?_, h5⟩
    rcases z with z | z
    · exact h4 z
    · exact h2.there (by rw [z]; exact h)
  · exact (r.cells.at_ n a d e1 e2).ext (.refl _) sub fun o z => g a o z
  · rcases m with m | m
    · exact (r.cells.grow g).zok a m
    · rw [m, upd_same]; intro z; cases z
  · obtain ⟨h1, h2⟩ := r.base a o e
    exact ⟨g a o h1, h2⟩
/-- the new list as a value -/
theorem AF.val {F : Fm} {H0 : Hp} {cm : List Addr} {H : Hp} {s : S} {v : V} {d : D} {cm0 : List Addr} {s0 : S} (r0 : FRel K T F cm0 H0 s0) (z : AF K T F H0 cm H s v d) : Rep K T cm (F.G cm H) v d := by
  obtain ⟨p, ds, xs, rfl, rfl, hp, hc, r, e, q⟩ := z
  have nv := r0.new_vis hp
  have sub : Sub (GV cm (fun a => F.Z a ∨ a = p) F.O H) (F.G cm H) := hid_sub fun a u n e => ⟨fun z => by
    rcases z with z | z | z
    · exact n (.inl z)
    · exact n (.inr (.inl (.inl z)))
    · exact n (.inr (.inr z)), e⟩
  have vis : F.G cm H p = some (.lst xs) := hid_some.mpr ⟨fun z => by
    rcases z with z | z
    · exact hc z
    · exact nv (.inr z), e⟩
  exact .lst vis (Reps.mono (.refl _) sub _ _ q)
end
/-! ### the judgements -/
abbrev QE (X : Cx) (T : Tb) (W : WX) (e : Expr) (m : EM) : Prop := PE X e (tP X.K T W (AR X.K T) m)
abbrev QB (X : Cx) (T : Tb) (W : WX) (e : Expr) (m : EM) : Prop := PE X e (tP X.K T W (AB X.K T) m)
abbrev QF (X : Cx) (T : Tb) (W : WX) (e : Expr) (m : EM) : Prop := PE X e (tP X.K T W (AF X.K T) m)
abbrev QT (X : Cx) (T : Tb) (W : WX) (e : Expr) (m : TM) : Prop := PT X e (tP X.K T W AT m)
abbrev QW (X : Cx) (T : Tb) (W : WX) (e : Expr) (m : TM) : Prop := PW X e (tP X.K T W AT m)
abbrev QA (X : Cx) (T : Tb) (W : WX) (es : List Expr) (m : List SD → S → R (List D)) : Prop := PA X es (tP X.K T W (AL X.K T) m)
theorem _root_.L2.PE.conv {X : Cx} {e : Expr} {t t' : TE} (h : PE X e t) (c : ∀ σ H Q, t' σ H Q → t σ H Q) : PE X e t' := ⟨fun pins s σ H Q I w => h.run pins s σ H Q I (c σ H Q w)⟩
theorem _root_.L2.PT.conv {X : Cx} {e : Expr} {t t' : TT} (h : PT X e t) (c : ∀ σ H Q, t' σ H Q → t σ H Q) : PT X e t' := ⟨fun pins s σ H Q I w => h.run pins s σ H Q I (c σ H Q w)⟩
theorem _root_.L2.PW.conv {X : Cx} {e : Expr} {t t' : TT} (h : PW X e t) (c : ∀ σ H Q, t' σ H Q → t σ H Q) : PW X e t' := ⟨fun wh pins s σ H Q I w => h.run wh pins s σ H Q I (c σ H Q w)⟩
theorem _root_.L2.PA.conv {X : Cx} {es : List Expr} {t t' : TA} (h : PA X es t) (c : ∀ σ H Q, t' σ H Q → t σ H Q) : PA X es t' := ⟨fun po pins s σ H Q I w => h.run po pins s σ H Q I (c σ H Q w)⟩
section
variable {X : Cx} {T : Tb} {W : WX} {e : Expr} {m : EM}
theorem tP.imp {K : PySem.W.Frag} {T : Tb} {α β : Type} {W : WX} {A A' : AK α β} {m : List SD → S → R α} {σ : L2.St} {H : Hp} {Q : β → Hp → Prop} (h : tP K T W A' m σ H Q)
    (i : ∀ F cm0 H0 s0 cm H s b a, FRel K T F cm0 H0 s0 → Ext cm0 H0 cm H → FRel K T F cm H s → A F H0 cm H s b a → A' F H0 cm H s b a) : tP K T W A m σ H Q := by
  obtain ⟨B, Z, cm, ρ, s, r, p⟩ := h
  refine ⟨B, Z, cm, ρ, s, r, ?_⟩
  cases hm : m ρ s with
  | ok a s' => rw [hm] at p; exact fun b H' cm' e r' z => p b H' cm' e r' (i _ _ _ _ _ _ _ _ _ r e r' z)
  | er c ds s' => rw [hm] at p; exact p
  | no => rw [hm] at p; exact p
/-- a value where an owned one might stand | a new list as a value -/
theorem qb (h : QE X T W e m) : QB X T W e m := PE.conv h fun _ _ _ z => z.imp fun _ _ _ _ _ _ _ _ _ _ _ _ q => .inl q
theorem qf (h : QF X T W e m) : QE X T W e m := PE.conv h fun _ _ _ z => z.imp fun _ _ _ _ _ _ _ _ _ r _ _ q => AF.val r q
end
end Tv

/-! Tv3: expressions -/
namespace Tv
open PySem PySem.Spec PyProof.Rows L2

/-! ### what they reckon -/
def mVar (i : Nat) : EM := fun ρ s => match ρ[i]? with | some (.v d) => .ok d s | _ => .no
def mVarB (i : Nat) : EM := fun ρ s => match ρ[i]? with | some (.v d) => .ok d s | some (.own d) => .ok d s | _ => .no
def mC (d : D) : EM := fun _ s => .ok d s
def mOp (g : D → D → S → R D) (a b : EM) : EM := fun ρ s => (a ρ s).bind fun x s1 => (b ρ s1).bind fun y s2 => g x y s2
def mUn (g : D → S → R D) (a : EM) : EM := fun ρ s => (a ρ s).bind fun x s1 => g x s1
def mNil : List SD → S → R (List D) := fun _ s => .ok [] s
def mCons (a : EM) (r : List SD → S → R (List D)) : List SD → S → R (List D) := fun ρ s => (a ρ s).bind fun x s1 => (r ρ s1).bind fun xs s2 => .ok (x :: xs) s2
def mTup (a : List SD → S → R (List D)) : EM := fun ρ s => (a ρ s).bind fun xs s1 => .ok (.tup xs) s1
def mLst (a : List SD → S → R (List D)) : EM := fun ρ s => (a ρ s).bind fun xs s1 => .ok (.lst xs) s1
def mTest (a : EM) : TM := fun ρ s => (a ρ s).bind fun x s1 => match x with | .bl b => .ok b s1 | _ => .no
def mB (a : TM) : EM := fun ρ s => (a ρ s).bind fun x s1 => .ok (.bl x) s1
def mAnd (a b : TM) : TM := fun ρ s => (a ρ s).bind fun x s1 => match x with | true => b ρ s1 | false => .ok false s1
def mOr (a b : TM) : TM := fun ρ s => (a ρ s).bind fun x s1 => match x with | true => .ok true s1 | false => b ρ s1
def mNot (a : TM) : TM := fun ρ s => (a ρ s).bind fun x s1 => .ok (!x) s1
def mIf (c : TM) (a b : EM) : EM := fun ρ s => (c ρ s).bind fun x s1 => match x with | true => a ρ s1 | false => b ρ s1
def mAndV (a b : EM) : EM := fun ρ s => (a ρ s).bind fun x s1 => match x with | .bl true => b ρ s1 | .bl false => .ok (.bl false) s1 | _ => .no
def mOrV (a b : EM) : EM := fun ρ s => (a ρ s).bind fun x s1 => match x with | .bl true => .ok (.bl true) s1 | .bl false => b ρ s1 | _ => .no
def mNotV (a : EM) : EM := fun ρ s => (a ρ s).bind fun x s1 => match x with | .bl b => .ok (.bl (!b)) s1 | _ => .no
def mChain (g g' : D → D → S → R D) (a b c : EM) : EM := fun ρ s => (a ρ s).bind fun x s1 => (b ρ s1).bind fun y s2 => (g x y s2).bind fun z s3 => match z with
  | .bl true => (c ρ s3).bind fun w s4 => g' y w s4
  | .bl false => .ok (.bl false) s3
  | _ => .no

section
variable {K : PySem.W.Frag} {T : Tb} {F : Fm} {cm cm1 : List Addr} {H H1 : Hp} {s s1 : S} {v : V} {d : D}
theorem AB.ext {H0 H0' : Hp} (r : FRel K T F cm H s) (e : Ext cm H cm1 H1) (z : AB K T F H0 cm H s v d) : AB K T F H0' cm1 H1 s1 v d := by
  rcases z with z | ⟨a, rfl, o, q⟩
  · exact .inl (Rep.mono e.pre e.sub _ _ z)
  · refine .inr ⟨a, rfl, o, q.ext e.pre e.sub fun u h => (e.keep a u h ?_).1⟩
    obtain ⟨i, dd, h1, h2⟩ := o
    obtain ⟨b, q1, _, q3, _⟩ := r.own i dd h1
    have e : b = a := by rw [q1] at h2; cases h2; rfl
    rw [← e]
    exact q3
theorem AR.ext {H0 H0' : Hp} (e : Ext cm H cm1 H1) (z : AR K T F H0 cm H s v d) : AR K T F H0' cm1 H1 s1 v d := Rep.mono e.pre e.sub _ _ z
theorem AB.of (z : Rep K T cm (F.G cm H) v d) {H0 : Hp} : AB K T F H0 cm H s v d := .inl z
theorem AB.int {H0 : Hp} {i : Int} (z : AB K T F H0 cm H s v (.int i)) : v = .int i := by
  rcases z with z | ⟨a, rfl, o, q⟩
  · cases z; rfl
  · exact q.elim
theorem AB.bl {H0 : Hp} {b : Bool} (z : AB K T F H0 cm H s v (.bl b)) : v = .bl b := by
  rcases z with z | ⟨a, rfl, o, q⟩
  · cases z; rfl
  · exact q.elim
theorem AB.non {H0 : Hp} (z : AB K T F H0 cm H s v .non) : v = .non := by
  rcases z with z | ⟨a, rfl, o, q⟩
  · cases z; rfl
  · exact q.elim
theorem AB.str {H0 : Hp} {x : Str} (z : AB K T F H0 cm H s v (.str x)) : v = .str x := by
  rcases z with z | ⟨a, rfl, o, q⟩
  · cases z; rfl
  · exact q.elim
theorem Sub.hidH {p : Addr → Prop} {H : Hp} : Sub (hid p H) H := fun a o e => (hid_some.mp e).2
theorem AB.tup {H0 : Hp} {ds : List D} (z : AB K T F H0 cm H s v (.tup ds)) : ∃ a xs, v = .ref a ∧ SqT K H a xs ∧ SqT K (F.G cm H) a xs ∧ Reps K T cm (F.G cm H) xs ds := by
  rcases z with z | ⟨a, rfl, o, q⟩
  · cases z with
    | tup h1 h2 => exact ⟨_, _, rfl, Sub.hidH.seqT h1, h1, h2⟩
  · exact q.elim
theorem AB.lst {H0 : Hp} {ds : List D} (z : AB K T F H0 cm H s v (.lst ds)) : ∃ a xs, v = .ref a ∧ H a = some (.lst xs) ∧ Reps K T cm (F.G cm H) xs ds := by
  rcases z with z | ⟨a, rfl, o, q⟩
  · cases z with
    | lst h1 h2 => exact ⟨_, _, rfl, Sub.hidH _ _ h1, h2⟩
  · obtain ⟨xs, h1, h2⟩ := q
    exact ⟨a, xs, rfl, h1, h2⟩
theorem AB.frz {H0 : Hp} {ds : List D} (z : AB K T F H0 cm H s v (.frz ds)) : ∃ a xs, v = .ref a ∧ SqL K H a xs ∧ Reps K T cm (F.G cm H) xs ds := by
  rcases z with z | ⟨a, rfl, o, q⟩
  · cases z with
    | frz h1 h2 => exact ⟨_, _, rfl, Sub.hidH.seqL h1, h2⟩
  · exact q.elim
theorem AB.ins {H0 : Hp} {c : Nat} {ds : List D} (z : AB K T F H0 cm H s v (.ins c ds)) : ∃ a dx fs, v = .ref a ∧ H a = some (.ins (T.cls c) dx fs) ∧ (fs.map (·.1) = (T.fl c).take ds.length) ∧ Reps K T cm (F.G cm H) (fs.map (·.2)) ds := by
  rcases z with z | ⟨a, rfl, o, q⟩
  · cases z with
    | @ins a dx c fs ds h1 h2 h3 =>
      have hl := h3.len
      rw [List.length_map] at hl
      have hl2 := congrArg List.length h2
      rw [List.length_map] at hl2
      exact ⟨_, _, _, rfl, Sub.hidH _ _ h1, by rw [h2, ← hl, hl2, List.take_length], h3⟩
  · obtain ⟨dx, xs, h1, h2, h3⟩ := q
    exact ⟨a, dx, xs, rfl, h1, h2, h3⟩
/-- a list or a tuple: its items -/
def seqD : D → Option (List D)
  | .tup ds => some ds | .lst ds => some ds | .frz ds => some ds | _ => none
theorem AB.seq {H0 : Hp} {ds : List D} (h : seqD d = some ds) (z : AB K T F H0 cm H s v d) : ∃ a xs, v = .ref a ∧ (SqL K H a xs ∨ SqT K H a xs) ∧ Reps K T cm (F.G cm H) xs ds := by
  cases d with
  | tup es =>
    obtain rfl : es = ds := Option.some.inj h
    obtain ⟨a, xs, e, h1, _, h2⟩ := z.tup
    exact ⟨a, xs, e, .inr h1, h2⟩
  | lst es =>
    obtain rfl : es = ds := Option.some.inj h
    obtain ⟨a, xs, e, h1, h2⟩ := z.lst
    exact ⟨a, xs, e, .inl (.of h1), h2⟩
  | frz es =>
    obtain rfl : es = ds := Option.some.inj h
    obtain ⟨a, xs, e, h1, h2⟩ := z.frz
    exact ⟨a, xs, e, .inl h1, h2⟩
  | _ => cases h
end

/-! ### names, constants -/
section
variable {X : Cx} {T : Tb} {W : WX} {a b c e : Expr} {es : List Expr} {ma mb mc : EM} {pos : Pos}
theorem qv (i : Nat) {x : Str} {pos : Pos} (hN : X.N[i]? = some x := by rfl) (hv : Vis X.env.scope x := by first | exact Or.inl rfl | exact Or.inr (Or.inl rfl) | exact Or.inr (Or.inr rfl)) (hd : (x == ("__debug__" : Str)) = false := by decide)
    (hcd : (x == ("__classdict__" : Str)) = false := by decide) : QE X T W (.Name x pos) (mVar i) := PE.conv (pe_var hN hv hd hcd) fun σ H Q h => by
  obtain ⟨B, Z, cm, ρ, s, r, p⟩ := h
  unfold mVar at p
  cases e : ρ[i]? with
  | none => rw [e] at p; exact p.elim
  | some z =>
    rw [e] at p
    cases z with
    | v d =>
      obtain ⟨v, h1, h2⟩ := r.val i d e
      exact ⟨v, h1, p.fin (F := ⟨B, Z, σ, ρ⟩) r h2⟩
    | un => exact p.elim
    | own d => exact p.elim
theorem qvB (i : Nat) {x : Str} {pos : Pos} (hN : X.N[i]? = some x := by rfl) (hv : Vis X.env.scope x := by first | exact Or.inl rfl | exact Or.inr (Or.inl rfl) | exact Or.inr (Or.inr rfl)) (hd : (x == ("__debug__" : Str)) = false := by decide)
    (hcd : (x == ("__classdict__" : Str)) = false := by decide) : QB X T W (.Name x pos) (mVarB i) := PE.conv (pe_var hN hv hd hcd) fun σ H Q h => by
  obtain ⟨B, Z, cm, ρ, s, r, p⟩ := h
  unfold mVarB at p
  cases e : ρ[i]? with
  | none => rw [e] at p; exact p.elim
  | some z =>
    rw [e] at p
    cases z with
    | v d =>
      obtain ⟨v, h1, h2⟩ := r.val i d e
      exact ⟨v, h1, p.fin (F := ⟨B, Z, σ, ρ⟩) r (.inl h2)⟩
    | un => exact p.elim
    | own d =>
      obtain ⟨v, h1, h2, _⟩ := r.own i d e
      exact ⟨.ref v, h1, p.fin (F := ⟨B, Z, σ, ρ⟩) r (.inr ⟨v, rfl, ⟨i, d, e, h1⟩, h2⟩)⟩
theorem q_c {v : V} {d : D} (h : PE X e (tC v)) (hr : ∀ cm G, Rep X.K T cm G v d) : QE X T W e (mC d) := PE.conv h fun σ H Q h => by
  obtain ⟨B, Z, cm, ρ, s, r, p⟩ := h
  exact p.fin (F := ⟨B, Z, σ, ρ⟩) r (hr _ _)
theorem q_int {i : Int} {j} : QE X T W (.Constant (.int i) j pos) (mC (.int i)) := q_c pe_int fun _ _ => .int i
theorem q_bl {i : Bool} {j} : QE X T W (.Constant (.bool i) j pos) (mC (.bl i)) := q_c pe_bl fun _ _ => .bl i
theorem q_non {j} : QE X T W (.Constant .none j pos) (mC .non) := q_c pe_non fun _ _ => .non
theorem q_str {x : Str} {j} : QE X T W (.Constant (.str x) j pos) (mC (.str x)) := q_c pe_str fun _ _ => .str x
/-- a constant of the module: an int, a text -/
theorem q_gint {x : Str} {i : Int} {t : Tok} (hg : Gl X x) (hm : X.mg x = some (.int i t)) (hd : (x == ("__debug__" : Str)) = false := by decide) : QE X T W (.Name x pos) (mC (.int i)) := q_c (v := .int i) (pe_glob hg hm ⟨t, rfl⟩ hd) fun _ _ => .int i
theorem q_gstr {x y : Str} {t : Tok} (hg : Gl X x) (hm : X.mg x = some (.str y t)) (hd : (x == ("__debug__" : Str)) = false := by decide) : QE X T W (.Name x pos) (mC (.str y)) := q_c (v := .str y) (pe_glob hg hm ⟨t, rfl⟩ hd) fun _ _ => .str y

/-! ### two operands -/
def O2 (X : Cx) (T : Tb) (A : AK D V) (r : R2) (g : D → D → S → R D) : Prop := ∀ (F : Fm) (cm : List Addr) (H : Hp) (s : S) (W : WX) (x y : V) (dx dy : D) (Q : VK),
  FRel X.K T F cm H s → AB X.K T F H cm H s x dx → AB X.K T F H cm H s y dy → Post X.K T F cm H W A (g dx dy s) Q → r x y H Q
theorem tOp_of {A : AK D V} {r : R2} {g : D → D → S → R D} (hg : O2 X T A r g) (up : Up A) {σ : L2.St} {H : Hp} {Q : VK} (h : tP X.K T W A (mOp g ma mb) σ H Q) :
    tOp r (tP X.K T W (AB X.K T) ma) (tP X.K T W (AB X.K T) mb) σ H Q := by
  refine h.bind (AB X.K T) up fun B Z cm ρ x H1 ⟨cm1, dx, s1, e1, r1, a1, p1⟩ => ?_
  refine ⟨B, Z, cm1, ρ, s1, r1, (p1.bind (A := AB X.K T) up).mono fun y H2 ⟨cm2, dy, s2, e2, r2, a2, p2⟩ => ?_⟩
  exact hg ⟨B, Z, σ, ρ⟩ cm2 H2 s2 W x y dx dy Q r2 (a1.ext r1 e2) a2 p2
theorem q_op {A : AK D V} {op : Operator} {r : R2} {g : D → D → S → R D} (ho : OpR X (binaryOp op) r) (hg : O2 X T A r g) (up : Up A) (ha : QB X T W a ma) (hb : QB X T W b mb) : PE X (.BinOp a op b pos) (tP X.K T W A (mOp g ma mb)) :=
  PE.conv (pe_op ho ha hb) fun _ _ _ h => tOp_of hg up h
theorem q_cmp {op : CmpOp} {r : R2} {g : D → D → S → R D} (ho : OpR X (compareOp op) r) (hg : O2 X T (AR X.K T) r g) (ha : QB X T W a ma) (hb : QB X T W b mb) (hm : behindInMarks op b = false) : QE X T W (.Compare a [op] [b] pos) (mOp g ma mb) :=
  PE.conv (pe_cmpR ho ha hb hm) fun _ _ _ h => tOp_of hg up_AR h
theorem tTest_of {t : TE} (hc : ∀ σ H Q, tP X.K T W (AR X.K T) ma σ H Q → t σ H Q) {σ : L2.St} {H : Hp} {Q : Bool → Hp → Prop} (h : tP X.K T W AT (mTest ma) σ H Q) : tTest t σ H Q := by
  refine hc _ _ _ (h.bind (AR X.K T) up_AT fun B Z cm ρ x H1 ⟨cm1, dx, s1, e1, r1, a1, p1⟩ => ?_)
  cases dx with
  | bl k =>
    cases a1
    exact ⟨k, rfl, p1.fin r1 rfl⟩
  | _ => exact p1.elim
theorem qt_cmp {op : CmpOp} {r : R2} {g : D → D → S → R D} (ho : OpR X (compareOp op) r) (hg : O2 X T (AR X.K T) r g) (ha : QB X T W a ma) (hb : QB X T W b mb) (hm : behindInMarks op b = false) : QT X T W (.Compare a [op] [b] pos) (mTest (mOp g ma mb)) :=
  PT.conv (pt_cmpR ho ha hb hm) fun _ _ _ h => tTest_of (fun _ _ _ h => tOp_of hg up_AR h) h
theorem qt_val (h : QE X T W e ma) (he : ∀ whole, isTrue e X.env whole = (do let v ← whole; standAt e.pos; holding [v] (truthy v)) := by intro _; rfl) : QT X T W e (mTest ma) :=
  PT.conv (pt_val h he) fun _ _ _ h => tTest_of (fun _ _ _ h => h) h

/-! ### tests joined -/
variable {ta tb tc : TM} {rest : List Expr}
theorem qw_and1 (ha : QT X T W a ta) : QW X T W (.BoolOp .And [a] pos) ta := pw_and1 ha
theorem qw_or1 (ha : QT X T W a ta) : QW X T W (.BoolOp .Or [a] pos) ta := pw_or1 ha
theorem qw_and (ha : QT X T W a ta) (hb : QW X T W (.BoolOp .And (b :: rest) pos) tb) : QW X T W (.BoolOp .And (a :: b :: rest) pos) (mAnd ta tb) := PW.conv (pw_and ha hb) fun σ H Q h => by
  refine h.bind AT up_AT fun B Z cm ρ x H1 ⟨cm1, dx, s1, e1, r1, a1, p1⟩ => ?_
  cases a1
  cases x with
  | true =>
    rw [if_pos rfl]
    exact ⟨B, Z, cm1, ρ, s1, r1, p1⟩
  | false =>
    rw [if_neg Bool.false_ne_true]
    exact p1.fin r1 rfl
theorem qw_or (ha : QT X T W a ta) (hb : QW X T W (.BoolOp .Or (b :: rest) pos) tb) : QW X T W (.BoolOp .Or (a :: b :: rest) pos) (mOr ta tb) := PW.conv (pw_or ha hb) fun σ H Q h => by
  refine h.bind AT up_AT fun B Z cm ρ x H1 ⟨cm1, dx, s1, e1, r1, a1, p1⟩ => ?_
  cases a1
  cases x with
  | true =>
    rw [if_pos rfl]
    exact p1.fin r1 rfl
  | false =>
    rw [if_neg Bool.false_ne_true]
    exact ⟨B, Z, cm1, ρ, s1, r1, p1⟩
theorem qw_pt (h : QW X T W e ta) : QT X T W e ta := PW.pt h
theorem qt_not (ha : QT X T W a ta) : QT X T W (.UnaryOp .Not a pos) (mNot ta) := PT.conv (pt_not ha) fun σ H Q h => by
  refine h.bind AT up_AT fun B Z cm ρ x H1 ⟨cm1, dx, s1, e1, r1, a1, p1⟩ => ?_
  cases a1
  exact p1.fin r1 rfl
/-- as values -/
theorem q_one {op} (h : QE X T W a ma) : QE X T W (.BoolOp op [a] pos) ma := pe_one h
theorem q_and (ha : QE X T W a ma) (hb : QE X T W (.BoolOp .And (b :: rest) pos) mb) : QE X T W (.BoolOp .And (a :: b :: rest) pos) (mAndV ma mb) := PE.conv (pe_and ha hb) fun σ H Q h => by
  refine h.bind (AR X.K T) up_AR fun B Z cm ρ x H1 ⟨cm1, dx, s1, e1, r1, a1, p1⟩ => ?_
  cases dx with
  | bl k =>
    cases a1
    cases k with
    | true => exact ⟨true, rfl, by rw [if_pos rfl]; exact ⟨B, Z, cm1, ρ, s1, r1, p1⟩⟩
    | false => exact ⟨false, rfl, by rw [if_neg Bool.false_ne_true]; exact p1.fin r1 (.bl false)⟩
  | _ => exact p1.elim
theorem q_or (ha : QE X T W a ma) (hb : QE X T W (.BoolOp .Or (b :: rest) pos) mb) : QE X T W (.BoolOp .Or (a :: b :: rest) pos) (mOrV ma mb) := PE.conv (pe_or ha hb) fun σ H Q h => by
  refine h.bind (AR X.K T) up_AR fun B Z cm ρ x H1 ⟨cm1, dx, s1, e1, r1, a1, p1⟩ => ?_
  cases dx with
  | bl k =>
    cases a1
    cases k with
    | true => exact ⟨true, rfl, by rw [if_pos rfl]; exact p1.fin r1 (.bl true)⟩
    | false => exact ⟨false, rfl, by rw [if_neg Bool.false_ne_true]; exact ⟨B, Z, cm1, ρ, s1, r1, p1⟩⟩
  | _ => exact p1.elim
theorem q_not (ha : QE X T W a ma) : QE X T W (.UnaryOp .Not a pos) (mNotV ma) := PE.conv (pe_not ha) fun σ H Q h => by
  refine h.bind (AR X.K T) up_AR fun B Z cm ρ x H1 ⟨cm1, dx, s1, e1, r1, a1, p1⟩ => ?_
  cases dx with
  | bl k =>
    cases a1
    exact ⟨k, rfl, p1.fin r1 (.bl _)⟩
  | _ => exact p1.elim
theorem q_ifExp {A : AK D V} (hc : QT X T W c tc) (up : Up A) (ha : PE X a (tP X.K T W A ma)) (hb : PE X b (tP X.K T W A mb)) : PE X (.IfExp c a b pos) (tP X.K T W A (mIf tc ma mb)) := PE.conv (pe_ifExp hc ha hb) fun σ H Q h => by
  refine h.bind AT up fun B Z cm ρ x H1 ⟨cm1, dx, s1, e1, r1, a1, p1⟩ => ?_
  cases a1
  cases x with
  | true =>
    rw [if_pos rfl]
    exact ⟨B, Z, cm1, ρ, s1, r1, p1⟩
  | false =>
    rw [if_neg Bool.false_ne_true]
    exact ⟨B, Z, cm1, ρ, s1, r1, p1⟩
theorem q_if (hc : QT X T W c tc) (ha : QE X T W a ma) (hb : QE X T W b mb) : QE X T W (.IfExp c a b pos) (mIf tc ma mb) := q_ifExp hc up_AR ha hb
theorem q_ifF (hc : QT X T W c tc) (ha : QF X T W a ma) (hb : QF X T W b mb) : QF X T W (.IfExp c a b pos) (mIf tc ma mb) := q_ifExp hc up_AF ha hb
theorem tChain_of {r r' : R2} {g g' : D → D → S → R D} (hg : O2 X T (AR X.K T) r g) (hg' : O2 X T (AR X.K T) r' g') {σ : L2.St} {H : Hp} {Q : VK} (h : tP X.K T W (AR X.K T) (mChain g g' ma mb mc) σ H Q) :
    tChain r r' (tP X.K T W (AB X.K T) ma) (tP X.K T W (AB X.K T) mb) (tP X.K T W (AB X.K T) mc) σ H Q := by
  refine h.bind (AB X.K T) up_AR fun B Z cm ρ x H1 ⟨cm1, dx, s1, e1, r1, a1, p1⟩ => ?_
  refine ⟨B, Z, cm1, ρ, s1, r1, (p1.bind (A := AB X.K T) up_AR).mono fun y H2 ⟨cm2, dy, s2, e2, r2, a2, p2⟩ => ?_⟩
  refine hg ⟨B, Z, σ, ρ⟩ cm2 H2 s2 W x y dx dy _ r2 (a1.ext r1 e2) a2 ((p2.bind (A := AR X.K T) up_AR).mono fun z H3 ⟨cm3, dz, s3, e3, r3, a3, p3⟩ => ?_)
  cases dz with
  | bl k =>
    cases a3
    refine ⟨k, rfl, ?_⟩
    cases k with
    | true =>
      rw [if_pos rfl]
      refine ⟨B, Z, cm3, ρ, s3, r3, (p3.bind (A := AB X.K T) up_AR).mono fun w H4 ⟨cm4, dw, s4, e4, r4, a4, p4⟩ => ?_⟩
      exact hg' ⟨B, Z, σ, ρ⟩ cm4 H4 s4 W y w dy dw Q r4 (a2.ext r2 (e3.trans e4)) a4 p4
    | false =>
      rw [if_neg Bool.false_ne_true]
      exact p3.fin r3 (.bl false)
  | _ => exact p3.elim
end
end Tv

/-! Tv4: operators, comparisons, subscripts -/
namespace Tv
open PySem PySem.Spec PyProof.Rows L2

/-! ### what they reckon -/
def gAdd : D → D → S → R D := fun x y s => match x, y with
  | .int i, .int j => .ok (.int (i + j)) s
  | .str a, .str b => if a.length + b.length ≤ sizeLine then .ok (.str (a ++ b)) s else .no
  | .tup a, .tup b => if a.length + b.length ≤ sizeLine then .ok (.tup (a ++ b)) s else .no
  | _, _ => .no
def gCat : D → D → S → R D := fun x y s => match x, y with
  | .lst a, .lst b => if a.length + b.length ≤ sizeLine then .ok (.lst (a ++ b)) s else .no
  | _, _ => .no
def gRep : D → D → S → R D := fun x y s => match x, y with
  | .lst a, .int k => if k < 2 ^ 63 ∧ -(2 ^ 63) ≤ k ∧ a.length * k.toNat ≤ sizeLine then .ok (.lst (List.replicate k.toNat a).flatten) s else .no
  | _, _ => .no
def gSub : D → D → S → R D := fun x y s => match x, y with
  | .int i, .int j => .ok (.int (i - j)) s
  | _, _ => .no
def gMul : D → D → S → R D := fun x y s => match x, y with
  | .int i, .int j => if i.natAbs.log2 + j.natAbs.log2 < 1000000 then .ok (.int (i * j)) s else .no
  | .tup a, .int k => if a ≠ [] ∧ 2 ≤ k ∧ k ≤ 1000 ∧ a.length ≤ 1000 then .ok (.tup (List.replicate k.toNat a).flatten) s else .no
  | _, _ => .no
def gDiv : D → D → S → R D := fun x y s => match x, y with
  | .int i, .int j => if 0 < j ∧ j.natAbs.log2 < 9000 then .ok (.int (i / j)) s else .no
  | _, _ => .no
def gMod : D → D → S → R D := fun x y s => match x, y with
  | .int i, .int j => if 0 < j then .ok (.int (i % j)) s else .no
  | _, _ => .no
def gPow : D → D → S → R D := fun x y s => match x, y with
  | .int i, .int j => if 0 ≤ j ∧ j ≤ 1000000 ∧ i.natAbs < 2 ^ 64 then .ok (.int (i ^ j.toNat)) s else .no
  | _, _ => .no
def gLt : D → D → S → R D := fun x y s => match x, y with
  | .int i, .int j => .ok (.bl (decide (i < j))) s
  | .str i, .str j => .ok (.bl (decide (i.cps.toList < j.cps.toList))) s
  | _, _ => .no
def gLe : D → D → S → R D := fun x y s => match x, y with
  | .int i, .int j => .ok (.bl (decide (i ≤ j))) s
  | _, _ => .no
def gGt : D → D → S → R D := fun x y s => match x, y with
  | .int i, .int j => .ok (.bl (decide (j < i))) s
  | _, _ => .no
def gGe : D → D → S → R D := fun x y s => match x, y with
  | .int i, .int j => .ok (.bl (decide (j ≤ i))) s
  | _, _ => .no
def gNeg : D → S → R D := fun x s => match x with
  | .int i => .ok (.int (-i)) s
  | _ => .no
mutual
def D.py : D → Option PyData
  | .non => some .none
  | .bl b => some (.bool b)
  | .int i => some (.int i)
  | .str x => some (.str x)
  | .tup ds => (D.pys ds).map .tuple
  | .lst ds => (D.pys ds).map .list
  | _ => none
def D.pys : List D → Option (List PyData)
  | [] => some []
  | d :: ds => match d.py, D.pys ds with
    | some a, some b => some (a :: b)
    | _, _ => none
end
def eqD (x y : D) : Option Bool := match x.py, y.py with
  | some a, some b => if SeqAt.shaped a = true ∧ SeqAt.shaped b = true then some (PyData.eqv a b) else none
  | _, _ => none
def gEq : D → D → S → R D := fun x y s => match eqD x y with
  | some b => .ok (.bl b) s
  | none => .no
def gNe : D → D → S → R D := fun x y s => match eqD x y with
  | some b => .ok (.bl (!b)) s
  | none => .no
def isNon : D → Bool
  | .non => true | _ => false
def gIs : D → D → S → R D := fun x y s => match y with
  | .non => .ok (.bl (isNon x)) s
  | _ => .no
def gIsNot : D → D → S → R D := fun x y s => match y with
  | .non => .ok (.bl (!isNon x)) s
  | _ => .no
def gIx : D → D → S → R D := fun x y s => match x, y with
  | .tup a, .int i => match atI a i with | some d => .ok d s | none => .no
  | .lst a, .int i => match atI a i with | some d => .ok d s | none => .no
  | .frz a, .int i => match atI a i with | some d => .ok d s | none => .no
  | .str z, .int i => if z.length ≤ sizeLine then match atI z.cps.toList i with | some c => .ok (.str ⟨#[c]⟩) s | none => .no else .no
  | .cell n, .int i => match s[n]? with
    | some (.lst a) => match atI a i with | some d => .ok d s | none => .no
    | _ => .no
  | _, _ => .no

section
variable {X : Cx} {T : Tb}
theorem post_no {K : PySem.W.Frag} {T : Tb} {α β : Type} {F : Fm} {cm : List Addr} {H : Hp} {W : WX} {A : AK α β} {Q : β → Hp → Prop} {P : Prop} (h : Post K T F cm H W A .no Q) : P := h.elim
def rAddAll (K : PySem.W.Frag) : R2 := fun x y H Q => rI0 (fun i j => .int (i + j)) x y H Q ∨ ((∃ i j, x = .str i ∧ y = .str j ∧ i.length + j.length ≤ sizeLine ∧ Q (.str (i ++ j)) H) ∨ rCatA K x y H Q)
theorem op_addAll : OpR X (binaryOp .Add) (rAddAll X.K) := op_add.or (op_add_str.or op_catA)
theorem o2_add : O2 X T (AR X.K T) (rAddAll X.K) gAdd := by
  intro F cm H s W x y dx dy Q r a b p
  unfold gAdd at p
  split at p
  · cases a.int
    cases b.int
    exact .inl ⟨_, _, rfl, rfl, p.fin r (.int _)⟩
  · split at p
    · cases a.str
      cases b.str
      exact .inr (.inl ⟨_, _, rfl, rfl, by assumption, p.fin r (.str _)⟩)
    · exact p.elim
  · split at p
    · rename_i ds es hl
      obtain ⟨p1, xs, rfl, h1, h2, h3⟩ := a.tup
      obtain ⟨p2, ys, rfl, k1, k2, k3⟩ := b.tup
      have l1 := h3.len
      have l2 := k3.len
      refine .inr (.inr ⟨p1, p2, xs, ys, rfl, rfl, h1, k1, by omega, fun e => ?_, fun _ e => ?_, fun _ _ q hq => ?_⟩)
      · subst e
        cases h3
        exact p.fin r (.tup k2 k3)
      · subst e
        cases k3
        exact p.fin r (.tup h2 (by rw [List.append_nil]; exact h3))
      · exact p.fin_new r (sub_upd hq) (rep_tup r hq (h3.app k3))
    · exact p.elim
  · exact p.elim
theorem o2_cat : O2 X T (AF X.K T) rCat gCat := by
  intro F cm H s W x y dx dy Q r a b p
  unfold gCat at p
  split at p
  · split at p
    · obtain ⟨p1, xs, rfl, h1, h3⟩ := a.lst
      obtain ⟨p2, ys, rfl, k1, k3⟩ := b.lst
      have l1 := h3.len
      have l2 := k3.len
      exact ⟨p1, p2, xs, ys, rfl, rfl, h1, k1, by omega, fun q hq => p.fin_new r (sub_upd hq) (rep_lst r hq (h3.app k3))⟩
    · exact p.elim
  · exact p.elim
theorem Reps.rep {K : PySem.W.Frag} {T : Tb} {cm : List Addr} {G : Hp} {xs : List V} {ds : List D} (h : Reps K T cm G xs ds) : ∀ n : Nat, Reps K T cm G (List.replicate n xs).flatten (List.replicate n ds).flatten
  | 0 => .nil
  | n + 1 => by
    rw [List.replicate_succ, List.replicate_succ, List.flatten_cons, List.flatten_cons]
    exact h.app (Reps.rep h n)
theorem o2_rep : O2 X T (AF X.K T) rRep gRep := by
  intro F cm H s W x y dx dy Q r a b p
  unfold gRep at p
  split at p
  · split at p
    · rename_i hk
      obtain ⟨p1, xs, rfl, h1, h3⟩ := a.lst
      cases b.int
      have l1 := h3.len
      exact ⟨p1, _, xs, rfl, rfl, h1, hk.2.1, hk.1, by rw [l1]; exact hk.2.2, fun q hq => p.fin_new r (sub_upd hq) (rep_lst r hq (h3.rep _))⟩
    · exact p.elim
  · exact p.elim
theorem o2_sub : O2 X T (AR X.K T) (rI0 fun i j => .int (i - j)) gSub := by
  intro F cm H s W x y dx dy Q r a b p
  unfold gSub at p
  split at p
  · cases a.int
    cases b.int
    exact ⟨_, _, rfl, rfl, p.fin r (.int _)⟩
  · exact p.elim
def rMulAll (K : PySem.W.Frag) : R2 := fun x y H Q => rI CMulW (fun i j => .int (i * j)) x y H Q ∨ rRepT K x y H Q
theorem op_mulAll : OpR X (binaryOp .Mult) (rMulAll X.K) := op_mulW.or op_repT
theorem o2_mul : O2 X T (AR X.K T) (rMulAll X.K) gMul := by
  intro F cm H s W x y dx dy Q r a b p
  unfold gMul at p
  split at p
  · split at p
    · rename_i hk
      cases a.int
      cases b.int
      exact .inl ⟨_, _, rfl, rfl, hk, p.fin r (.int _)⟩
    · exact p.elim
  · split at p
    · rename_i hk
      obtain ⟨p1, xs, rfl, h1, _, h3⟩ := a.tup
      cases b.int
      have l1 := h3.len
      refine .inr ⟨p1, _, xs, rfl, rfl, h1, fun e => ?_, hk.2.1, hk.2.2.1, by omega, fun q hq => p.fin_new r (sub_upd hq) (rep_tup r hq (h3.rep _))⟩
      subst e
      cases h3
      exact hk.1 rfl
    · exact p.elim
  · exact p.elim
theorem o2_div : O2 X T (AR X.K T) (rI CDivW fun i j => .int (i / j)) gDiv := by
  intro F cm H s W x y dx dy Q r a b p
  unfold gDiv at p
  split at p
  · split at p
    · rename_i hk
      cases a.int
      cases b.int
      exact ⟨_, _, rfl, rfl, hk, p.fin r (.int _)⟩
    · exact p.elim
  · exact p.elim
theorem o2_mod : O2 X T (AR X.K T) (rI (fun _ j => 0 < j) fun i j => .int (i % j)) gMod := by
  intro F cm H s W x y dx dy Q r a b p
  unfold gMod at p
  split at p
  · split at p
    · rename_i hk
      cases a.int
      cases b.int
      exact ⟨_, _, rfl, rfl, hk, p.fin r (.int _)⟩
    · exact p.elim
  · exact p.elim
theorem o2_pow : O2 X T (AR X.K T) (rI CPow fun i j => .int (i ^ j.toNat)) gPow := by
  intro F cm H s W x y dx dy Q r a b p
  unfold gPow at p
  split at p
  · split at p
    · rename_i hk
      cases a.int
      cases b.int
      exact ⟨_, _, rfl, rfl, hk, p.fin r (.int _)⟩
    · exact p.elim
  · exact p.elim
def rLtAll : R2 := fun x y H Q => rI0 (fun i j => .bl (decide (i < j))) x y H Q ∨ ∃ i j, x = .str i ∧ y = .str j ∧ Q (.bl (decide (i.cps.toList < j.cps.toList))) H
theorem op_ltAll : OpR X (compareOp .Lt) rLtAll := op_lt.or op_lt_str
theorem o2_lt : O2 X T (AR X.K T) rLtAll gLt := by
  intro F cm H s W x y dx dy Q r a b p
  unfold gLt at p
  split at p
  · cases a.int
    cases b.int
    exact .inl ⟨_, _, rfl, rfl, p.fin r (.bl _)⟩
  · cases a.str
    cases b.str
    exact .inr ⟨_, _, rfl, rfl, p.fin r (.bl _)⟩
  · exact p.elim
theorem o2_le : O2 X T (AR X.K T) (rI0 fun i j => .bl (decide (i ≤ j))) gLe := by
  intro F cm H s W x y dx dy Q r a b p
  unfold gLe at p
  split at p
  · cases a.int
    cases b.int
    exact ⟨_, _, rfl, rfl, p.fin r (.bl _)⟩
  · exact p.elim
theorem o2_gt : O2 X T (AR X.K T) (rI0 fun i j => .bl (decide (j < i))) gGt := by
  intro F cm H s W x y dx dy Q r a b p
  unfold gGt at p
  split at p
  · cases a.int
    cases b.int
    exact ⟨_, _, rfl, rfl, p.fin r (.bl _)⟩
  · exact p.elim
theorem o2_ge : O2 X T (AR X.K T) (rI0 fun i j => .bl (decide (j ≤ i))) gGe := by
  intro F cm H s W x y dx dy Q r a b p
  unfold gGe at p
  split at p
  · cases a.int
    cases b.int
    exact ⟨_, _, rfl, rfl, p.fin r (.bl _)⟩
  · exact p.elim
mutual
theorem dp_of {K : PySem.W.Frag} {cm : List Addr} {G H : Hp} (hs : Sub G H) : ∀ (d : D) (v : V) (p : PyData), Rep K T cm G v d → d.py = some p → Dp K H v p
  | .non, _, _, h, e => by cases h; cases e; exact .non
  | .bl b, _, _, h, e => by cases h; cases e; exact .bl b
  | .int b, _, _, h, e => by cases h; cases e; exact .int b
  | .str b, _, _, h, e => by cases h; cases e; exact .str b
  | .tup ds, _, _, h, e => by
    cases h with
    | tup h1 h2 =>
      unfold D.py at e
      cases q : D.pys ds with
      | none => rw [q] at e; cases e
      | some l =>
        rw [q] at e
        cases e
        exact .tup (hs.seqT h1) (dps_of hs ds _ _ h2 q)
  | .lst ds, _, _, h, e => by
    cases h with
    | lst h1 h2 =>
      unfold D.py at e
      cases q : D.pys ds with
      | none => rw [q] at e; cases e
      | some l =>
        rw [q] at e
        cases e
        exact .lst (.of (hs _ _ h1)) (dps_of hs ds _ _ h2 q)
  | .frz _, _, _, _, e => by cases e
  | .ins _ _, _, _, _, e => by cases e
  | .cell _, _, _, _, e => by cases e
  | .fn _, _, _, _, e => by cases e
  | .dic _ _, _, _, _, e => by cases e
  | .exc _ _, _, _, _, e => by cases e
theorem dps_of {K : PySem.W.Frag} {cm : List Addr} {G H : Hp} (hs : Sub G H) : ∀ (ds : List D) (vs : List V) (ps : List PyData), Reps K T cm G vs ds → D.pys ds = some ps → DpAll K H vs ps
  | [], _, _, h, e => by cases h; cases e; exact .nil
  | d :: ds, _, _, h, e => by
    cases h with
    | cons h1 h2 =>
      unfold D.pys at e
      cases q1 : d.py with
      | none => rw [q1] at e; cases e
      | some a =>
        cases q2 : D.pys ds with
        | none => rw [q1, q2] at e; cases e
        | some b =>
          rw [q1, q2] at e
          cases e
          exact .cons (dp_of hs d _ _ h1 q1) (dps_of hs ds _ _ h2 q2)
end
theorem AB.dp {K : PySem.W.Frag} {F : Fm} {H0 H : Hp} {cm : List Addr} {s : S} {v : V} {d : D} {p : PyData} (z : AB K T F H0 cm H s v d) (e : d.py = some p) : Dp K H v p := by
  rcases z with z | ⟨a, rfl, o, q⟩
  · exact dp_of Sub.hidH _ _ _ z e
  · cases d with
    | lst ds =>
      obtain ⟨xs, h1, h2⟩ := q
      unfold D.py at e
      cases q : D.pys ds with
      | none => rw [q] at e; cases e
      | some l =>
        rw [q] at e
        cases e
        exact .lst (.of h1) (dps_of Sub.hidH ds _ _ h2 q)
    | ins _ _ => cases e
    | sf _ _ => cases e
    | _ => exact q.elim
theorem eqD_some {x y : D} {b : Bool} (h : eqD x y = some b) : ∃ p q, x.py = some p ∧ y.py = some q ∧ SeqAt.shaped p = true ∧ SeqAt.shaped q = true ∧ b = PyData.eqv p q := by
  unfold eqD at h
  split at h
  · rename_i e1 e2
    split at h
    · rename_i hs
      exact ⟨_, _, e1, e2, hs.1, hs.2, (Option.some.inj h).symm⟩
    · cases h
  · cases h
theorem o2_eq : O2 X T (AR X.K T) (rEqD X.K) gEq := by
  intro F cm H s W x y dx dy Q r a b p
  unfold gEq at p
  split at p
  · rename_i h
    obtain ⟨u, v, e1, e2, s1, s2, rfl⟩ := eqD_some h
    exact ⟨u, v, a.dp e1, b.dp e2, s1, s2, p.fin r (.bl _)⟩
  · exact p.elim
theorem o2_ne : O2 X T (AR X.K T) (rNeD X.K) gNe := by
  intro F cm H s W x y dx dy Q r a b p
  unfold gNe at p
  split at p
  · rename_i h
    obtain ⟨u, v, e1, e2, s1, s2, rfl⟩ := eqD_some h
    exact ⟨u, v, a.dp e1, b.dp e2, s1, s2, p.fin r (.bl _)⟩
  · exact p.elim
theorem AB.isNon {K : PySem.W.Frag} {F : Fm} {H0 H : Hp} {cm : List Addr} {s : S} {v : V} {d : D} (z : AB K T F H0 cm H s v d) : decide (v = .non) = isNon d := by
  rcases z with z | ⟨a, rfl, o, q⟩
  · cases z <;> first | rfl | exact decide_eq_false (fun z => nomatch z)
  · cases d with
    | lst ds => exact decide_eq_false (fun z => nomatch z)
    | ins c ds => exact decide_eq_false (fun z => nomatch z)
    | sf c ds => exact decide_eq_false (fun z => nomatch z)
    | _ => exact q.elim
theorem o2_is : O2 X T (AR X.K T) (fun x y H Q => y = .non ∧ Q (.bl (decide (x = .non))) H) gIs := by
  intro F cm H s W x y dx dy Q r a b p
  unfold gIs at p
  split at p
  · refine ⟨b.non, ?_⟩
    rw [a.isNon]
    exact p.fin r (.bl _)
  · exact p.elim
theorem o2_isNot : O2 X T (AR X.K T) (fun x y H Q => y = .non ∧ Q (.bl (!decide (x = .non))) H) gIsNot := by
  intro F cm H s W x y dx dy Q r a b p
  unfold gIsNot at p
  split at p
  · refine ⟨b.non, ?_⟩
    rw [a.isNon]
    exact p.fin r (.bl _)
  · exact p.elim
/-! ### subscripts -/
theorem atI_len {α β : Type} {xs : List α} {ds : List β} (h : xs.length = ds.length) {i : Int} {d : β} (e : atI ds i = some d) : ∃ j : Nat, ds[j]? = some d ∧ atI xs i = xs[j]? := by
  unfold atI at e ⊢
  rw [h]
  cases q : ixN ds.length i with
  | none => rw [q] at e; cases e
  | some j =>
    rw [q] at e
    exact ⟨j, e, rfl⟩
theorem Reps.atI {K : PySem.W.Frag} {cm : List Addr} {G : Hp} {xs : List V} {ds : List D} (h : Reps K T cm G xs ds) {i : Int} {d : D} (e : L2.atI ds i = some d) : ∃ v, L2.atI xs i = some v ∧ Rep K T cm G v d := by
  obtain ⟨j, e1, e2⟩ := atI_len h.len e
  obtain ⟨v, h1, h2⟩ := h.get e1
  exact ⟨v, e2.trans h1, h2⟩
theorem o2_ix : O2 X T (AR X.K T) (rIx X.K) gIx := by
  intro F cm H s W x y dx dy Q r a b p
  unfold gIx at p
  split at p
  · split at p
    · rename_i e
      obtain ⟨p1, xs, rfl, h1, _, h3⟩ := a.tup
      cases b.int
      obtain ⟨v, e1, e2⟩ := h3.atI e
      exact .inr (.inl ⟨p1, xs, _, v, rfl, rfl, h1, e1, p.fin r e2⟩)
    · exact p.elim
  · split at p
    · rename_i e
      obtain ⟨p1, xs, rfl, h1, h3⟩ := a.lst
      cases b.int
      obtain ⟨v, e1, e2⟩ := h3.atI e
      exact .inl ⟨p1, xs, _, v, rfl, rfl, .of h1, e1, p.fin r e2⟩
    · exact p.elim
  · split at p
    · rename_i e
      obtain ⟨p1, xs, rfl, h1, h3⟩ := a.frz
      cases b.int
      obtain ⟨v, e1, e2⟩ := h3.atI e
      exact .inl ⟨p1, xs, _, v, rfl, rfl, h1, e1, p.fin r e2⟩
    · exact p.elim
  · split at p
    · rename_i hl
      split at p
      · rename_i e
        cases a.str
        cases b.int
        exact .inr (.inr ⟨_, _, _, rfl, rfl, hl, e, p.fin r (.str _)⟩)
      · exact p.elim
    · exact p.elim
  · split at p
    · rename_i n i o es e0
      split at p
      · rename_i e
        cases b.int
        have hc : ∃ c, x = .ref c ∧ cm[n]? = some c := by
          rcases a with z | ⟨c, rfl, o, q⟩
          · cases z with
            | cell h => exact ⟨_, rfl, h⟩
          · exact q.elim
        obtain ⟨c, rfl, hc⟩ := hc
        obtain ⟨xs, h1, h3⟩ := r.cells.at_ n c _ hc e0
        obtain ⟨v, e1, e2⟩ := h3.atI e
        exact .inl ⟨c, xs, _, v, rfl, rfl, .of h1, e1, p.fin r e2⟩
      · exact p.elim
    · exact p.elim
  · exact p.elim

/-! ### in short -/
variable {W : WX} {a b c e : Expr} {ma mb mc : EM} {pos : Pos}
theorem q_add (ha : QB X T W a ma) (hb : QB X T W b mb) : QE X T W (.BinOp a .Add b pos) (mOp gAdd ma mb) := q_op op_addAll o2_add up_AR ha hb
theorem q_cat (ha : QB X T W a ma) (hb : QB X T W b mb) : QF X T W (.BinOp a .Add b pos) (mOp gCat ma mb) := q_op op_cat o2_cat up_AF ha hb
theorem q_rep (ha : QB X T W a ma) (hb : QB X T W b mb) : QF X T W (.BinOp a .Mult b pos) (mOp gRep ma mb) := q_op op_rep o2_rep up_AF ha hb
theorem q_sub (ha : QB X T W a ma) (hb : QB X T W b mb) : QE X T W (.BinOp a .Sub b pos) (mOp gSub ma mb) := q_op op_sub o2_sub up_AR ha hb
theorem q_mul (ha : QB X T W a ma) (hb : QB X T W b mb) : QE X T W (.BinOp a .Mult b pos) (mOp gMul ma mb) := q_op op_mulAll o2_mul up_AR ha hb
theorem q_div (ha : QB X T W a ma) (hb : QB X T W b mb) : QE X T W (.BinOp a .FloorDiv b pos) (mOp gDiv ma mb) := q_op op_fdivW o2_div up_AR ha hb
theorem q_mod (ha : QB X T W a ma) (hb : QB X T W b mb) : QE X T W (.BinOp a .Mod b pos) (mOp gMod ma mb) := q_op op_mod o2_mod up_AR ha hb
theorem q_pow (ha : QB X T W a ma) (hb : QB X T W b mb) : QE X T W (.BinOp a .Pow b pos) (mOp gPow ma mb) := q_op op_pow o2_pow up_AR ha hb
theorem q_lt (ha : QB X T W a ma) (hb : QB X T W b mb) : QE X T W (.Compare a [.Lt] [b] pos) (mOp gLt ma mb) := q_cmp op_ltAll o2_lt ha hb (nomark _)
theorem q_le (ha : QB X T W a ma) (hb : QB X T W b mb) : QE X T W (.Compare a [.LtE] [b] pos) (mOp gLe ma mb) := q_cmp op_le o2_le ha hb (nomark _)
theorem q_gt (ha : QB X T W a ma) (hb : QB X T W b mb) : QE X T W (.Compare a [.Gt] [b] pos) (mOp gGt ma mb) := q_cmp op_gt o2_gt ha hb (nomark _)
theorem q_ge (ha : QB X T W a ma) (hb : QB X T W b mb) : QE X T W (.Compare a [.GtE] [b] pos) (mOp gGe ma mb) := q_cmp op_ge o2_ge ha hb (nomark _)
theorem q_eq (hu : X.A.units + 64 < cLine) (ha : QB X T W a ma) (hb : QB X T W b mb) : QE X T W (.Compare a [.Eq] [b] pos) (mOp gEq ma mb) := q_cmp (op_eqD hu) o2_eq ha hb (nomark _)
theorem q_ne (hu : X.A.units + 64 < cLine) (ha : QB X T W a ma) (hb : QB X T W b mb) : QE X T W (.Compare a [.NotEq] [b] pos) (mOp gNe ma mb) := q_cmp (op_neD hu) o2_ne ha hb (nomark _)
theorem q_is (ha : QB X T W a ma) (hb : QB X T W b mb) : QE X T W (.Compare a [.Is] [b] pos) (mOp gIs ma mb) := q_cmp op_isN o2_is ha hb (nomark _)
theorem q_isNot (ha : QB X T W a ma) (hb : QB X T W b mb) : QE X T W (.Compare a [.IsNot] [b] pos) (mOp gIsNot ma mb) := q_cmp op_notN o2_isNot ha hb (nomark _)
theorem qt_lt (ha : QB X T W a ma) (hb : QB X T W b mb) : QT X T W (.Compare a [.Lt] [b] pos) (mTest (mOp gLt ma mb)) := qt_cmp op_ltAll o2_lt ha hb (nomark _)
theorem qt_le (ha : QB X T W a ma) (hb : QB X T W b mb) : QT X T W (.Compare a [.LtE] [b] pos) (mTest (mOp gLe ma mb)) := qt_cmp op_le o2_le ha hb (nomark _)
theorem qt_gt (ha : QB X T W a ma) (hb : QB X T W b mb) : QT X T W (.Compare a [.Gt] [b] pos) (mTest (mOp gGt ma mb)) := qt_cmp op_gt o2_gt ha hb (nomark _)
theorem qt_ge (ha : QB X T W a ma) (hb : QB X T W b mb) : QT X T W (.Compare a [.GtE] [b] pos) (mTest (mOp gGe ma mb)) := qt_cmp op_ge o2_ge ha hb (nomark _)
theorem qt_eq (hu : X.A.units + 64 < cLine) (ha : QB X T W a ma) (hb : QB X T W b mb) : QT X T W (.Compare a [.Eq] [b] pos) (mTest (mOp gEq ma mb)) := qt_cmp (op_eqD hu) o2_eq ha hb (nomark _)
theorem qt_ne (hu : X.A.units + 64 < cLine) (ha : QB X T W a ma) (hb : QB X T W b mb) : QT X T W (.Compare a [.NotEq] [b] pos) (mTest (mOp gNe ma mb)) := qt_cmp (op_neD hu) o2_ne ha hb (nomark _)
theorem qt_is (ha : QB X T W a ma) (hb : QB X T W b mb) : QT X T W (.Compare a [.Is] [b] pos) (mTest (mOp gIs ma mb)) := qt_cmp op_isN o2_is ha hb (nomark _)
theorem qt_isNot (ha : QB X T W a ma) (hb : QB X T W b mb) : QT X T W (.Compare a [.IsNot] [b] pos) (mTest (mOp gIsNot ma mb)) := qt_cmp op_notN o2_isNot ha hb (nomark _)
theorem q_chain {op op' : CmpOp} {r r' : R2} {g g' : D → D → S → R D} (ho : OpR X (compareOp op) r) (hg : O2 X T (AR X.K T) r g) (ho' : OpR X (compareOp op') r') (hg' : O2 X T (AR X.K T) r' g') (ha : QB X T W a ma) (hb : QB X T W b mb) (hc : QB X T W c mc)
    (hm : lastMarks [op, op'] [b, c] = false := by with_unfolding_all rfl) : QE X T W (.Compare a [op, op'] [b, c] pos) (mChain g g' ma mb mc) := PE.conv (pe_chain ho ho' ha hb hc hm) fun _ _ _ h => tChain_of hg hg' h
theorem qt_chain {op op' : CmpOp} {r r' : R2} {g g' : D → D → S → R D} (ho : OpR X (compareOp op) r) (hg : O2 X T (AR X.K T) r g) (ho' : OpR X (compareOp op') r') (hg' : O2 X T (AR X.K T) r' g') (ha : QB X T W a ma) (hb : QB X T W b mb) (hc : QB X T W c mc)
    (hm : lastMarks [op, op'] [b, c] = false := by with_unfolding_all rfl) : QT X T W (.Compare a [op, op'] [b, c] pos) (mTest (mChain g g' ma mb mc)) := PT.conv (pt_chain ho ho' ha hb hc hm) fun _ _ _ h => tTest_of (fun _ _ _ h => tChain_of hg hg' h) h
theorem q_ix (ha : QB X T W a ma) (hb : QB X T W b mb) (hs : PlainIx b := by exact fun _ _ => rfl) : QE X T W (.Subscript a b pos) (mOp gIx ma mb) := PE.conv (pe_ix ix_seq ha hb hs) fun _ _ _ h => tOp_of o2_ix up_AR h
theorem q_neg (ha : QB X T W a ma) : QE X T W (.UnaryOp .USub a pos) (mUn gNeg ma) := PE.conv (pe_un un_neg ha) fun σ H Q h => by
  refine h.bind (AB X.K T) up_AR fun B Z cm ρ x H1 ⟨cm1, dx, s1, e1, r1, a1, p1⟩ => ?_
  unfold gNeg at p1
  dsimp only at p1
  split at p1
  · cases a1.int
    exact ⟨_, rfl, p1.fin r1 (.int _)⟩
  · exact p1.elim
end
end Tv

/-! Tv5: argument lists, displays, built-ins, fields, slices -/
namespace Tv
open PySem PySem.Spec PyProof.Rows L2

inductive ABs (K : PySem.W.Frag) (T : Tb) (F : Fm) (H0 : Hp) (cm : List Addr) (H : Hp) (s : S) : List V → List D → Prop
  | nil : ABs K T F H0 cm H s [] []
  | cons {v : V} {d : D} {vs : List V} {ds : List D} : AB K T F H0 cm H s v d → ABs K T F H0 cm H s vs ds → ABs K T F H0 cm H s (v :: vs) (d :: ds)
def ALn (K : PySem.W.Frag) (T : Tb) (n : Nat) : AK (List D) (List V) := fun F _ cm H _ vs ds => Reps K T cm (F.G cm H) vs ds ∧ vs.length = n
def ALB (K : PySem.W.Frag) (T : Tb) (n : Nat) : AK (List D) (List V) := fun F H0 cm H s vs ds => ABs K T F H0 cm H s vs ds ∧ vs.length = n
abbrev LM := List SD → S → R (List D)
abbrev QS (X : Cx) (T : Tb) (W : WX) (n : Nat) (es : List Expr) (m : LM) : Prop := PA X es (tP X.K T W (ALn X.K T n) m)
abbrev QSB (X : Cx) (T : Tb) (W : WX) (n : Nat) (es : List Expr) (m : LM) : Prop := PA X es (tP X.K T W (ALB X.K T n) m)
theorem up_ALn {K : PySem.W.Frag} {T : Tb} {n : Nat} : Up (ALn K T n) := fun _ _ _ _ _ _ _ _ _ h => h
theorem ABs.ext {K : PySem.W.Frag} {T : Tb} {F : Fm} {cm cm1 : List Addr} {H H1 : Hp} {s s1 : S} {H0 H0' : Hp} (r : FRel K T F cm H s) (e : Ext cm H cm1 H1) : ∀ {vs : List V} {ds : List D}, ABs K T F H0 cm H s vs ds → ABs K T F H0' cm1 H1 s1 vs ds
  | _, _, .nil => .nil
  | _, _, .cons a t => .cons (a.ext r e) (ABs.ext r e t)
theorem ABs.h0 {K : PySem.W.Frag} {T : Tb} {F : Fm} {cm : List Addr} {H : Hp} {s s1 : S} {H0 H0' : Hp} : ∀ {vs : List V} {ds : List D}, ABs K T F H0 cm H s vs ds → ABs K T F H0' cm H s1 vs ds
  | _, _, .nil => .nil
  | _, _, .cons a t => .cons a (ABs.h0 t)
theorem up_ALB {K : PySem.W.Frag} {T : Tb} {n : Nat} : Up (ALB K T n) := fun F H H1 cm2 H2 s b a _ h => ⟨ABs.h0 (H0 := H1) (s := s) h.1, h.2⟩
section
variable {X : Cx} {T : Tb} {W : WX} {n : Nat} {e : Expr} {es : List Expr} {m : EM} {lm : LM} {pos : Pos}
theorem qs_nil : QS X T W 0 [] mNil := PA.conv pa_nil fun σ H Q h => by
  obtain ⟨B, Z, cm, ρ, s, r, p⟩ := h
  exact p.fin (F := ⟨B, Z, σ, ρ⟩) r ⟨.nil, rfl⟩
theorem qs_cons (ha : QE X T W e m) (hr : QS X T W n es lm) (hs : starEach (e :: es) X.env = (false, eval e X.env) :: starEach es X.env := by rfl) : QS X T W (n + 1) (e :: es) (mCons m lm) := PA.conv (pa_cons ha hr hs) fun σ H Q h => by
  refine h.bind (AR X.K T) up_ALn fun B Z cm ρ x H1 ⟨cm1, dx, s1, e1, r1, a1, p1⟩ => ?_
  refine ⟨B, Z, cm1, ρ, s1, r1, (p1.bind (A := ALn X.K T n) up_ALn).mono fun y H2 ⟨cm2, dy, s2, e2, r2, a2, p2⟩ => ?_⟩
  exact p2.fin r2 ⟨.cons (AR.ext (H0' := H) (s1 := s2) e2 a1) a2.1, by rw [List.length_cons, a2.2]⟩
theorem qb_nil : QSB X T W 0 [] mNil := PA.conv pa_nil fun σ H Q h => by
  obtain ⟨B, Z, cm, ρ, s, r, p⟩ := h
  exact p.fin (F := ⟨B, Z, σ, ρ⟩) r ⟨.nil, rfl⟩
theorem qb_cons (ha : QB X T W e m) (hr : QSB X T W n es lm) (hs : starEach (e :: es) X.env = (false, eval e X.env) :: starEach es X.env := by rfl) : QSB X T W (n + 1) (e :: es) (mCons m lm) := PA.conv (pa_cons ha hr hs) fun σ H Q h => by
  refine h.bind (AB X.K T) up_ALB fun B Z cm ρ x H1 ⟨cm1, dx, s1, e1, r1, a1, p1⟩ => ?_
  refine ⟨B, Z, cm1, ρ, s1, r1, (p1.bind (A := ALB X.K T n) up_ALB).mono fun y H2 ⟨cm2, dy, s2, e2, r2, a2, p2⟩ => ?_⟩
  exact p2.fin r2 ⟨.cons (a1.ext r1 e2) (a2.1.h0), by rw [List.length_cons, a2.2]⟩
theorem q_tup {x1} (h : QS X T W n es lm) (hn : n ≤ 1000 := by decide) : QE X T W (.Tuple es x1 pos) (mTup lm) := PE.conv (pe_tup h) fun σ H Q h => by
  refine h.bind (ALn X.K T n) up_AR fun B Z cm ρ x H1 ⟨cm1, dx, s1, e1, r1, a1, p1⟩ => ?_
  refine ⟨by rw [a1.2, sizeLine_eq]; omega, fun p hp => ?_⟩
  exact p1.fin_new r1 (sub_upd hp) (rep_tup r1 hp a1.1)
theorem q_lst (h : QS X T W n es lm) (hn : n ≤ 1000 := by decide) : QF X T W (.List es pos) (mLst lm) := PE.conv (pe_lst h) fun σ H Q h => by
  refine h.bind (ALn X.K T n) up_AF fun B Z cm ρ x H1 ⟨cm1, dx, s1, e1, r1, a1, p1⟩ => ?_
  refine ⟨by rw [a1.2, sizeLine_eq]; omega, fun p hp => ?_⟩
  exact p1.fin_new r1 (sub_upd hp) (rep_lst r1 hp a1.1)

/-! ### built-ins by name -/
def mCall (g : List D → S → R D) (lm : LM) : EM := fun ρ s => (lm ρ s).bind fun ds s1 => g ds s1
def OC (X : Cx) (T : Tb) (A : AK D V) (r : List V → Hp → VK → Prop) (g : List D → S → R D) : Prop := ∀ (F : Fm) (cm : List Addr) (H : Hp) (s : S) (W : WX) (xs : List V) (ds : List D) (Q : VK),
  FRel X.K T F cm H s → ABs X.K T F H cm H s xs ds → Post X.K T F cm H W A (g ds s) Q → r xs H Q
theorem tCB_of {A : AK D V} {r : List V → Hp → VK → Prop} {g : List D → S → R D} (hg : OC X T A r g) (up : Up A) {σ : L2.St} {H : Hp} {Q : VK} (h : tP X.K T W A (mCall g lm) σ H Q) : tCB r (tP X.K T W (ALB X.K T n) lm) σ H Q := by
  refine h.bind (ALB X.K T n) up fun B Z cm ρ x H1 ⟨cm1, dx, s1, e1, r1, a1, p1⟩ => ?_
  exact hg _ _ _ _ _ _ _ _ r1 a1.1.h0 p1
theorem q_callB {A : AK D V} {id : String} {x : Str} {p : Pos} {r : List V → Hp → VK → Prop} {g : List D → S → R D} (hc : CallR X (.builtin id) r) (hg : OC X T A r g) (up : Up A) (hgl : Gl X x) (hm : X.mg x = none) (hv : bootBuiltins x = some (.builtin id)) (ha : QSB X T W n (e :: es) lm) (hn : x ≠ "__name__" := by decide) (hdb : (x == ("__debug__" : Str)) = false := by decide)
    (he : starEach (e :: es) X.env = (false, eval e X.env) :: starEach es X.env := by rfl) (hpl : (backTo pos (starEach es X.env)).any (·.1) = false := by rfl) : PE X (.Call (.Name x p) (e :: es) [] pos) (tP X.K T W A (mCall g lm)) :=
  PE.conv (pe_callB hc hgl hm hv ha hn hdb he hpl) fun _ _ _ h => tCB_of hg up h
theorem q_callTy {A : AK D V} {id : String} {x : Str} {p : Pos} {r : List V → Hp → VK → Prop} {g : List D → S → R D} (hc : CallR X (.type id) r) (hg : OC X T A r g) (up : Up A) (hgl : Gl X x) (hm : X.mg x = none) (hv : bootBuiltins x = some (.type id)) (ha : QSB X T W n (e :: es) lm) (hn : x ≠ "__name__" := by decide) (hdb : (x == ("__debug__" : Str)) = false := by decide)
    (he : starEach (e :: es) X.env = (false, eval e X.env) :: starEach es X.env := by rfl) (hpl : (backTo pos (starEach es X.env)).any (·.1) = false := by rfl) : PE X (.Call (.Name x p) (e :: es) [] pos) (tP X.K T W A (mCall g lm)) :=
  PE.conv (pe_callTy hc hgl hm hv ha hn hdb he hpl) fun _ _ _ h => tCB_of hg up h

def gLen : List D → S → R D := fun ds s => match ds with
  | [.tup a] => .ok (.int a.length) s
  | [.lst a] => .ok (.int a.length) s
  | [.frz a] => .ok (.int a.length) s
  | [.str z] => if z.length ≤ sizeLine then .ok (.int z.length) s else .no
  | _ => .no
def rLenAll (K : PySem.W.Frag) : List V → Hp → VK → Prop := fun xs H Q => (∃ p ys, xs = [.ref p] ∧ (SqL K H p ys ∨ SqT K H p ys) ∧ Q (.int ys.length) H) ∨ ∃ z, xs = [.str z] ∧ z.length ≤ sizeLine ∧ Q (.int z.length) H
theorem call_lenAll : CallR X (.builtin "len") (rLenAll X.K) := call_len_seq.or call_len_str
theorem oc_len : OC X T (AR X.K T) (rLenAll X.K) gLen := by
  intro F cm H s W xs ds Q r a p
  unfold gLen at p
  split at p
  · cases a with
    | cons a t =>
      cases t
      obtain ⟨c, ys, rfl, h1, _, h3⟩ := a.tup
      exact .inl ⟨c, ys, rfl, .inr h1, by rw [h3.len]; exact p.fin r (.int _)⟩
  · cases a with
    | cons a t =>
      cases t
      obtain ⟨c, ys, rfl, h1, h3⟩ := a.lst
      exact .inl ⟨c, ys, rfl, .inl (.of h1), by rw [h3.len]; exact p.fin r (.int _)⟩
  · cases a with
    | cons a t =>
      cases t
      obtain ⟨c, ys, rfl, h1, h3⟩ := a.frz
      exact .inl ⟨c, ys, rfl, .inl h1, by rw [h3.len]; exact p.fin r (.int _)⟩
  · split at p
    · cases a with
      | cons a t =>
        cases t
        cases a.str
        exact .inr ⟨_, rfl, by assumption, p.fin r (.int _)⟩
    · exact p.elim
  · exact p.elim
def gAbs : List D → S → R D := fun ds s => match ds with
  | [.int i] => .ok (.int (if i < 0 then -i else i)) s
  | _ => .no
theorem oc_abs : OC X T (AR X.K T) (fun xs H Q => ∃ i, xs = [.int i] ∧ Q (.int (if i < 0 then -i else i)) H) gAbs := by
  intro F cm H s W xs ds Q r a p
  unfold gAbs at p
  split at p
  · cases a with
    | cons a t =>
      cases t
      cases a.int
      exact ⟨_, rfl, p.fin r (.int _)⟩
  · exact p.elim
def gMin : List D → S → R D := fun ds s => match ds with
  | [.int i, .int j] => .ok (.int (if j < i then j else i)) s
  | _ => .no
theorem oc_min : OC X T (AR X.K T) (fun xs H Q => ∃ i j, xs = [.int i, .int j] ∧ Q (.int (if j < i then j else i)) H) gMin := by
  intro F cm H s W xs ds Q r a p
  unfold gMin at p
  split at p
  · cases a with
    | cons a t =>
      cases t with
      | cons b t =>
        cases t
        cases a.int
        cases b.int
        exact ⟨_, _, rfl, p.fin r (.int _)⟩
  · exact p.elim
def gMax : List D → S → R D := fun ds s => match ds with
  | [.int i, .int j] => .ok (.int (if j > i then j else i)) s
  | _ => .no
theorem oc_max : OC X T (AR X.K T) (fun xs H Q => ∃ i j, xs = [.int i, .int j] ∧ Q (.int (if j > i then j else i)) H) gMax := by
  intro F cm H s W xs ds Q r a p
  unfold gMax at p
  split at p
  · cases a with
    | cons a t =>
      cases t with
      | cons b t =>
        cases t
        cases a.int
        cases b.int
        exact ⟨_, _, rfl, p.fin r (.int _)⟩
  · exact p.elim
def gInt : List D → S → R D := fun ds s => match ds with
  | [.int i] => .ok (.int i) s
  | [.bl b] => .ok (.int (if b then 1 else 0)) s
  | _ => .no
theorem oc_int : OC X T (AR X.K T) (fun xs H Q => (∃ i, xs = [.int i] ∧ Q (.int i) H) ∨ ∃ k, xs = [.bl k] ∧ Q (.int (if k then 1 else 0)) H) gInt := by
  intro F cm H s W xs ds Q r a p
  unfold gInt at p
  split at p
  · cases a with
    | cons a t =>
      cases t
      cases a.int
      exact .inl ⟨_, rfl, p.fin r (.int _)⟩
  · cases a with
    | cons a t =>
      cases t
      cases a.bl
      exact .inr ⟨_, rfl, p.fin r (.int _)⟩
  · exact p.elim
def bls : List D → Option (List Bool)
  | [] => some []
  | .bl b :: r => (bls r).map (b :: ·)
  | _ :: _ => none
theorem bls_of {K : PySem.W.Frag} {cm : List Addr} {G : Hp} : ∀ {ds : List D} {bs : List Bool} {xs : List V}, bls ds = some bs → Reps K T cm G xs ds → xs = bs.map V.bl
  | [], bs, xs, h, r => by
    cases r
    cases h
    rfl
  | d :: ds, bs, xs, h, r => by
    cases r with
    | cons r1 r2 =>
      cases d with
      | bl b =>
        unfold bls at h
        cases q : bls ds with
        | none => rw [q] at h; cases h
        | some cs =>
          rw [q] at h
          cases h
          cases r1
          rw [bls_of q r2]
          rfl
      | _ => cases h
def gAll : List D → S → R D := fun ds s => match ds with
  | [.lst a] => match bls a with | some bs => .ok (.bl (bs.all id)) s | none => .no
  | _ => .no
def gAny : List D → S → R D := fun ds s => match ds with
  | [.lst a] => match bls a with | some bs => .ok (.bl (bs.any id)) s | none => .no
  | _ => .no
theorem oc_all : OC X T (AR X.K T) (rAll X.K) gAll := by
  intro F cm H s W xs ds Q r a p
  unfold gAll at p
  split at p
  · split at p
    · rename_i e
      cases a with
      | cons a t =>
        cases t
        obtain ⟨c, ys, rfl, h1, h3⟩ := a.lst
        obtain rfl := bls_of e h3
        exact ⟨c, _, rfl, .of h1, p.fin r (.bl _)⟩
    · exact p.elim
  · exact p.elim
theorem oc_any : OC X T (AR X.K T) (rAny X.K) gAny := by
  intro F cm H s W xs ds Q r a p
  unfold gAny at p
  split at p
  · split at p
    · rename_i e
      cases a with
      | cons a t =>
        cases t
        obtain ⟨c, ys, rfl, h1, h3⟩ := a.lst
        obtain rfl := bls_of e h3
        exact ⟨c, _, rfl, .of h1, p.fin r (.bl _)⟩
    · exact p.elim
  · exact p.elim
def gTuple : List D → S → R D := fun ds s => match ds with
  | [.tup a] => .ok (.tup a) s
  | [.lst a] => .ok (.tup a) s
  | [.frz a] => .ok (.tup a) s
  | _ => .no
theorem oc_tuple : OC X T (AR X.K T) (fun xs H Q => ∃ p ys, xs = [.ref p] ∧ ((SqL X.K H p ys ∧ ∀ l, H l = none → Q (.ref l) (upd H l (.tup ys))) ∨ (SqT X.K H p ys ∧ Q (.ref p) H))) gTuple := by
  intro F cm H s W xs ds Q r a p
  unfold gTuple at p
  split at p
  · cases a with
    | cons a t =>
      cases t
      obtain ⟨c, ys, rfl, h1, h2, h3⟩ := a.tup
      exact ⟨c, ys, rfl, .inr ⟨h1, p.fin r (.tup h2 h3)⟩⟩
  · cases a with
    | cons a t =>
      cases t
      obtain ⟨c, ys, rfl, h1, h3⟩ := a.lst
      exact ⟨c, ys, rfl, .inl ⟨.of h1, fun q hq => p.fin_new r (sub_upd hq) (rep_tup r hq h3)⟩⟩
  · cases a with
    | cons a t =>
      cases t
      obtain ⟨c, ys, rfl, h1, h3⟩ := a.frz
      exact ⟨c, ys, rfl, .inl ⟨h1, fun q hq => p.fin_new r (sub_upd hq) (rep_tup r hq h3)⟩⟩
  · exact p.elim
def gList : List D → S → R D := fun ds s => match ds with
  | [.tup a] => .ok (.lst a) s
  | [.lst a] => .ok (.lst a) s
  | [.frz a] => .ok (.lst a) s
  | _ => .no
theorem oc_list : OC X T (AF X.K T) (fun xs H Q => ∃ p ys, xs = [.ref p] ∧ (SqL X.K H p ys ∨ SqT X.K H p ys) ∧ ∀ l, H l = none → Q (.ref l) (upd H l (.lst ys))) gList := by
  intro F cm H s W xs ds Q r a p
  unfold gList at p
  split at p
  · cases a with
    | cons a t =>
      cases t
      obtain ⟨c, ys, rfl, h1, h2, h3⟩ := a.tup
      exact ⟨c, ys, rfl, .inr h1, fun q hq => p.fin_new r (sub_upd hq) (rep_lst r hq h3)⟩
  · cases a with
    | cons a t =>
      cases t
      obtain ⟨c, ys, rfl, h1, h3⟩ := a.lst
      exact ⟨c, ys, rfl, .inl (.of h1), fun q hq => p.fin_new r (sub_upd hq) (rep_lst r hq h3)⟩
  · cases a with
    | cons a t =>
      cases t
      obtain ⟨c, ys, rfl, h1, h3⟩ := a.frz
      exact ⟨c, ys, rfl, .inl h1, fun q hq => p.fin_new r (sub_upd hq) (rep_lst r hq h3)⟩
  · exact p.elim
def intsD : List D → Option (List Int)
  | [] => some []
  | .int b :: r => (intsD r).map (b :: ·)
  | _ :: _ => none
theorem intsD_of {K : PySem.W.Frag} {cm : List Addr} {G : Hp} : ∀ {ds : List D} {bs : List Int} {xs : List V}, intsD ds = some bs → Reps K T cm G xs ds → xs = bs.map V.int
  | [], bs, xs, h, r => by
    cases r
    cases h
    rfl
  | d :: ds, bs, xs, h, r => by
    cases r with
    | cons r1 r2 =>
      cases d with
      | int b =>
        unfold intsD at h
        cases q : intsD ds with
        | none => rw [q] at h; cases h
        | some cs =>
          rw [q] at h
          cases h
          cases r1
          rw [intsD_of q r2]
          rfl
      | _ => cases h

/-! ### fields -/
def fldIx (fl : List Str) (f : Str) : Option Nat := match fl with
  | [] => none
  | g :: r => if f = g then some 0 else (fldIx r f).map (· + 1)
theorem lookup_fld {f : Str} : ∀ {fs : List (Str × V)} {j : Nat}, fldIx (fs.map (·.1)) f = some j → fs.lookup f = (fs.map (·.2))[j]?
  | [], j, h => by cases h
  | (g, v) :: r, j, h => by
    have h : (if f = g then some 0 else (fldIx (r.map (·.1)) f).map (· + 1)) = some j := h
    by_cases e : f = g
    · rw [if_pos e] at h
      cases h
      subst e
      simp [List.lookup]
    · rw [if_neg e] at h
      have e' : (f == g) = false := by simpa using e
      cases q : fldIx (r.map (·.1)) f with
      | none =>
        have h' : (fldIx (r.map (·.1)) f).map (· + 1) = some j := h
        rw [q] at h'
        cases h'
      | some i =>
        have h' : (fldIx (r.map (·.1)) f).map (· + 1) = some j := h
        rw [q] at h'
        cases h'
        show List.lookup f ((g, v) :: r) = _
        rw [List.lookup_cons, e']
        exact lookup_fld q
/-- ixs: for each class that may stand here the field's place -/
def mFld (ixs : List (Nat × Nat)) (m : EM) : EM := fun ρ s => (m ρ s).bind fun x s1 => match x with
  | .ins c ds => match ixs.lookup c with
    | some j => match ds[j]? with | some d => .ok d s1 | none => .no
    | none => .no
  | .cell n => match s1[n]? with
    | some (.ins c ds) => match ixs.lookup c with
      | some j => match ds[j]? with | some d => .ok d s1 | none => .no
      | none => .no
    | _ => .no
  | _ => .no
/-- what the classes give -/
def ClsOk (K : PySem.W.Frag) (T : Tb) (c : Nat) : Prop := Cls K (T.cls c) ∧ ∀ f ∈ T.fl c, NoAttr K (T.cls c) f
def FldOk (T : Tb) (f : Str) (ixs : List (Nat × Nat)) : Prop := ∀ p ∈ ixs, fldIx (T.fl p.1) f = some p.2
theorem fldIx_mem {f : Str} : ∀ {l : List Str} {j : Nat}, fldIx l f = some j → f ∈ l
  | [], j, h => by cases h
  | g :: r, j, h => by
    unfold fldIx at h
    by_cases e : f = g
    · rw [e]; exact List.mem_cons_self
    · rw [if_neg e] at h
      cases q : fldIx r f with
      | none => rw [q] at h; cases h
      | some i => exact List.mem_cons_of_mem _ (fldIx_mem q)
theorem fldIx_take {f : Str} : ∀ {l : List Str} {j n : Nat}, fldIx l f = some j → j < n → fldIx (l.take n) f = some j
  | [], j, n, h, _ => by cases h
  | g :: r, j, 0, h, hj => absurd hj (Nat.not_lt_zero _)
  | g :: r, j, n + 1, h, hj => by
    unfold fldIx at h ⊢
    rw [List.take_succ_cons]
    by_cases e : f = g
    · rw [if_pos e] at h
      show (if f = g then some 0 else _) = _
      rw [if_pos e]
      exact h
    · rw [if_neg e] at h
      show (if f = g then some 0 else (fldIx (r.take n) f).map (· + 1)) = _
      rw [if_neg e]
      cases q : fldIx r f with
      | none => rw [q] at h; cases h
      | some i =>
        rw [q] at h
        cases h
        have hj : i + 1 < n + 1 := hj
        rw [fldIx_take q (by omega)]
        rfl
theorem lookup_mem {α β : Type} [BEq α] [LawfulBEq α] {a : α} {b : β} : ∀ {l : List (α × β)}, l.lookup a = some b → (a, b) ∈ l
  | [], h => by cases h
  | (c, d) :: r, h => by
    rw [List.lookup_cons] at h
    cases q : a == c with
    | true =>
      rw [q] at h
      cases h
      rw [eq_of_beq q]
      exact List.mem_cons_self
    | false =>
      rw [q] at h
      exact List.mem_cons_of_mem _ (lookup_mem h)
theorem q_fld {f : Str} {ixs : List (Nat × Nat)} (hc : ∀ p ∈ ixs, ClsOk X.K T p.1) (hf : FldOk T f ixs) (he : QB X T W e m) (hb : attributeBase e f X.env (eval e X.env) = eval e X.env := by rfl) : QE X T W (.Attribute e f pos) (mFld ixs m) := PE.conv (pe_fld he hb) fun σ H Q h => by
  refine h.bind (AB X.K T) up_AR fun B Z cm ρ x H1 ⟨cm1, dx, s1, e1, r1, a1, p1⟩ => ?_
  have key : ∀ (a dxx : Addr) (fs : List (Str × V)) (c : Nat) (ds : List D) (j : Nat) (d : D), H1 a = some (.ins (T.cls c) dxx fs) → fs.map (·.1) = (T.fl c).take ds.length → Reps X.K T cm1 (Fm.G ⟨B, Z, σ, ρ⟩ cm1 H1) (fs.map (·.2)) ds → ixs.lookup c = some j → ds[j]? = some d →
      Post X.K T ⟨B, Z, σ, ρ⟩ cm1 H1 W (AR X.K T) (.ok d s1) Q → ∃ a' C dx fs v, V.ref a = .ref a' ∧ H1 a' = some (.ins C dx fs) ∧ Cls X.K C ∧ NoAttr X.K C f ∧ fs.lookup f = some v ∧ Q v H1 := fun a dxx fs c ds j d ha hn hr hl hd pp => by
    have hm := lookup_mem hl
    obtain ⟨v, h1, h2⟩ := hr.get hd
    have hx := hf _ hm
    have hj : j < ds.length := (List.getElem?_eq_some_iff.mp hd).1
    have hx2 : fldIx (fs.map (·.1)) f = some j := by rw [hn]; exact fldIx_take hx hj
    exact ⟨a, _, dxx, fs, v, rfl, ha, (hc _ hm).1, (hc _ hm).2 f (fldIx_mem hx), by rw [lookup_fld hx2]; exact h1, pp.fin r1 h2⟩
  dsimp only at p1
  split at p1
  · split at p1
    · rename_i hl
      split at p1
      · rename_i hd
        obtain ⟨a, dxx, fs, rfl, ha, hn, hr⟩ := a1.ins
        exact key a dxx fs _ _ _ _ ha hn hr hl hd p1
      · exact p1.elim
    · exact p1.elim
  · split at p1
    · rename_i n o c ds e0
      split at p1
      · rename_i hl
        split at p1
        · rename_i hd
          have hc' : ∃ a, x = .ref a ∧ cm1[n]? = some a := by
            rcases a1 with z | ⟨c, rfl, o, q⟩
            · cases z with
              | cell h => exact ⟨_, rfl, h⟩
            · exact q.elim
          obtain ⟨a, rfl, hca⟩ := hc'
          obtain ⟨dxx, fs, h1, h2, h3⟩ := r1.cells.at_ n a _ hca e0
          exact key a dxx fs _ _ _ _ h1 h2 h3 hl hd p1
        · exact p1.elim
      · exact p1.elim
    · exact p1.elim
  · exact p1.elim

/-! ### slices -/
def cutD {α : Type} (xs : List α) (lo hi : Option Int) : List α := (xs.drop (HT.sIx xs.length 0 lo)).take (HT.sIx xs.length xs.length hi - HT.sIx xs.length 0 lo)
def gSlice (x : D) (lo hi : Option Int) (s : S) : R D := match x with
  | .tup a => .ok (.tup (cutD a lo hi)) s
  | .str z => if z.length ≤ sizeLine then .ok (.str (cutS z lo hi)) s else .no
  | _ => .no
def gSliceL (x : D) (lo hi : Option Int) (s : S) : R D := match x with
  | .lst a => .ok (.lst (cutD a lo hi)) s
  | .frz a => .ok (.lst (cutD a lo hi)) s
  | _ => .no
abbrev OM := List SD → S → R (Option Int)
def mNoPart : OM := fun _ s => .ok none s
def mPart (m : EM) : OM := fun ρ s => (m ρ s).bind fun x s1 => match x with | .int i => .ok (some i) s1 | _ => .no
def mSlice (g : D → Option Int → Option Int → S → R D) (m : EM) (lo hi : OM) : EM := fun ρ s => (m ρ s).bind fun x s1 => (lo ρ s1).bind fun l s2 => (hi ρ s2).bind fun u s3 => g x l u s3
def AO : AK (Option Int) (Option Int) := fun _ _ _ _ _ v d => v = d
theorem up_AO : Up AO := fun _ _ _ _ _ _ _ _ _ h => h
abbrev QO (X : Cx) (T : Tb) (W : WX) (e : Option Expr) (m : OM) : Prop := PO X e (tP X.K T W AO m)
theorem _root_.L2.PO.conv {X : Cx} {e : Option Expr} {t t' : TO} (h : PO X e t) (c : ∀ σ H Q, t' σ H Q → t σ H Q) : PO X e t' := ⟨fun pins s σ H Q I w => h.run pins s σ H Q I (c σ H Q w)⟩
theorem qo_none : QO X T W none mNoPart := PO.conv po_none fun σ H Q h => by
  obtain ⟨B, Z, cm, ρ, s, r, p⟩ := h
  exact p.fin (F := ⟨B, Z, σ, ρ⟩) r rfl
theorem qo_some (he : QE X T W e m) : QO X T W (some e) (mPart m) := PO.conv (po_some he) fun σ H Q h => by
  refine h.bind (AR X.K T) up_AO fun B Z cm ρ x H1 ⟨cm1, dx, s1, e1, r1, a1, p1⟩ => ?_
  cases dx with
  | int i =>
    cases a1
    exact ⟨i, rfl, p1.fin r1 rfl⟩
  | _ => exact p1.elim
def OSl (X : Cx) (T : Tb) (A : AK D V) (r : V → Option Int → Option Int → Hp → VK → Prop) (g : D → Option Int → Option Int → S → R D) : Prop := ∀ (F : Fm) (cm : List Addr) (H : Hp) (s : S) (W : WX) (x : V) (d : D) (lo hi : Option Int) (Q : VK),
  FRel X.K T F cm H s → AB X.K T F H cm H s x d → Post X.K T F cm H W A (g d lo hi s) Q → r x lo hi H Q
theorem tSl_of {A : AK D V} {r : V → Option Int → Option Int → Hp → VK → Prop} {g : D → Option Int → Option Int → S → R D} {lo hi : OM} (hg : OSl X T A r g) (up : Up A) {σ : L2.St} {H : Hp} {Q : VK} (h : tP X.K T W A (mSlice g m lo hi) σ H Q) :
    tSl r (tP X.K T W (AB X.K T) m) (tP X.K T W AO lo) (tP X.K T W AO hi) σ H Q := by
  refine h.bind (AB X.K T) up fun B Z cm ρ x H1 ⟨cm1, dx, s1, e1, r1, a1, p1⟩ => ?_
  refine ⟨B, Z, cm1, ρ, s1, r1, (p1.bind (A := AO) up).mono fun l H2 ⟨cm2, dl, s2, e2, r2, a2, p2⟩ => ?_⟩
  refine ⟨B, Z, cm2, ρ, s2, r2, (p2.bind (A := AO) up).mono fun u H3 ⟨cm3, du, s3, e3, r3, a3, p3⟩ => ?_⟩
  cases a2
  cases a3
  exact hg _ _ _ _ _ _ _ _ _ _ r3 (a1.ext r1 (e2.trans e3)) p3
theorem Reps.cut {K : PySem.W.Frag} {cm : List Addr} {G : Hp} {xs : List V} {ds : List D} (h : Reps K T cm G xs ds) (lo hi : Option Int) : Reps K T cm G (cutV xs lo hi) (cutD ds lo hi) := by
  unfold cutV cutD
  rw [h.len]
  exact Reps.take _ (Reps.drop _ h)
theorem cutD_whole {α : Type} {xs : List α} {lo hi : Option Int} (h : HT.sIx xs.length 0 lo = 0 ∧ HT.sIx xs.length xs.length hi = xs.length) : cutD xs lo hi = xs := by
  unfold cutD
  rw [h.1, h.2, List.drop_zero, Nat.sub_zero, List.take_length]

theorem osl_tup : OSl X T (AR X.K T) (fun x lo hi H Q => rSlA X.K x lo hi H Q ∨ rSlS x lo hi H Q) gSlice := by
  intro F cm H s W x d lo hi Q r a p
  unfold gSlice at p
  split at p
  · obtain ⟨c, xs, rfl, h1, h2, h3⟩ := a.tup
    refine .inl ⟨c, xs, rfl, h1, fun hw => ?_, fun hw q hq => ?_⟩
    · refine p.fin r (.tup h2 ?_)
      rw [cutD_whole (by rw [← h3.len]; exact hw)]
      exact h3
    · exact p.fin_new r (sub_upd hq) (rep_tup r hq (h3.cut lo hi))
  · split at p
    · cases a.str
      exact .inr ⟨_, rfl, by assumption, p.fin r (.str _)⟩
    · exact p.elim
  · exact p.elim
theorem osl_lst : OSl X T (AF X.K T) (rSlL X.K) gSliceL := by
  intro F cm H s W x d lo hi Q r a p
  unfold gSliceL at p
  split at p
  · obtain ⟨c, xs, rfl, h1, h3⟩ := a.lst
    exact ⟨c, xs, rfl, .of h1, fun q hq => p.fin_new r (sub_upd hq) (rep_lst r hq (h3.cut lo hi))⟩
  · obtain ⟨c, xs, rfl, h1, h3⟩ := a.frz
    exact ⟨c, xs, rfl, h1, fun q hq => p.fin_new r (sub_upd hq) (rep_lst r hq (h3.cut lo hi))⟩
  · exact p.elim
variable {lo hi : Option Expr} {lom him : OM} {p2 : Pos}
theorem q_slice (he : QB X T W e m) (hl : QO X T W lo lom) (hh : QO X T W hi him) : QE X T W (.Subscript e (.Slice lo hi none p2) pos) (mSlice gSlice m lom him) :=
  PE.conv (pe_slice (sl_tupA.or sl_str) he hl hh) fun _ _ _ h => tSl_of osl_tup up_AR h
theorem q_sliceL (he : QB X T W e m) (hl : QO X T W lo lom) (hh : QO X T W hi him) : QF X T W (.Subscript e (.Slice lo hi none p2) pos) (mSlice gSliceL m lom him) :=
  PE.conv (pe_slice sl_list he hl hh) fun _ _ _ h => tSl_of osl_lst up_AF h
/-! built-ins in short -/
variable {p : Pos}
theorem q_len (hg : Gl X "len") (hm : X.mg "len" = none) (ha : QB X T W e m) (hs : starEach [e] X.env = (false, eval e X.env) :: starEach [] X.env := by rfl) (hpl : (backTo pos (starEach [] X.env)).any (·.1) = false := by rfl) : QE X T W (.Call (.Name "len" p) [e] [] pos) (mCall gLen (mCons m mNil)) :=
  q_callB call_lenAll oc_len up_AR hg hm PySem.boot_len (qb_cons ha qb_nil hs) (by decide) (by decide) hs hpl
theorem q_abs (hg : Gl X "abs") (hm : X.mg "abs" = none) (ha : QB X T W e m) (hs : starEach [e] X.env = (false, eval e X.env) :: starEach [] X.env := by rfl) (hpl : (backTo pos (starEach [] X.env)).any (·.1) = false := by rfl) : QE X T W (.Call (.Name "abs" p) [e] [] pos) (mCall gAbs (mCons m mNil)) :=
  q_callB call_abs oc_abs up_AR hg hm PyProof.Rows.boot_abs (qb_cons ha qb_nil hs) (by decide) (by decide) hs hpl
theorem q_all (hc : X.calm = true) (hg : Gl X "all") (hm : X.mg "all" = none) (ha : QB X T W e m) (hs : starEach [e] X.env = (false, eval e X.env) :: starEach [] X.env := by rfl) (hpl : (backTo pos (starEach [] X.env)).any (·.1) = false := by rfl) : QE X T W (.Call (.Name "all" p) [e] [] pos) (mCall gAll (mCons m mNil)) :=
  q_callB (cr_all hc) oc_all up_AR hg hm PyProof.Rows.boot_all (qb_cons ha qb_nil hs) (by decide) (by decide) hs hpl
theorem q_any (hc : X.calm = true) (hg : Gl X "any") (hm : X.mg "any" = none) (ha : QB X T W e m) (hs : starEach [e] X.env = (false, eval e X.env) :: starEach [] X.env := by rfl) (hpl : (backTo pos (starEach [] X.env)).any (·.1) = false := by rfl) : QE X T W (.Call (.Name "any" p) [e] [] pos) (mCall gAny (mCons m mNil)) :=
  q_callB (cr_any hc) oc_any up_AR hg hm PyProof.Rows.boot_any (qb_cons ha qb_nil hs) (by decide) (by decide) hs hpl
theorem q_tupleOf (hg : Gl X "tuple") (hm : X.mg "tuple" = none) (ha : QB X T W e m) (hs : starEach [e] X.env = (false, eval e X.env) :: starEach [] X.env := by rfl) (hpl : (backTo pos (starEach [] X.env)).any (·.1) = false := by rfl) : QE X T W (.Call (.Name "tuple" p) [e] [] pos) (mCall gTuple (mCons m mNil)) :=
  q_callTy call_tuple_of oc_tuple up_AR hg hm PyProof.Rows.boot_tuple (qb_cons ha qb_nil hs) (by decide) (by decide) hs hpl
theorem q_listOf (hg : Gl X "list") (hm : X.mg "list" = none) (ha : QB X T W e m) (hs : starEach [e] X.env = (false, eval e X.env) :: starEach [] X.env := by rfl) (hpl : (backTo pos (starEach [] X.env)).any (·.1) = false := by rfl) : QF X T W (.Call (.Name "list" p) [e] [] pos) (mCall gList (mCons m mNil)) :=
  q_callTy call_list_of oc_list up_AF hg hm PyProof.Rows.boot_list (qb_cons ha qb_nil hs) (by decide) (by decide) hs hpl
theorem q_intOf (hg : Gl X "int") (hm : X.mg "int" = none) (ha : QB X T W e m) (hs : starEach [e] X.env = (false, eval e X.env) :: starEach [] X.env := by rfl) (hpl : (backTo pos (starEach [] X.env)).any (·.1) = false := by rfl) : QE X T W (.Call (.Name "int" p) [e] [] pos) (mCall gInt (mCons m mNil)) :=
  q_callTy call_int1 oc_int up_AR hg hm PyProof.Rows.boot_int (qb_cons ha qb_nil hs) (by decide) (by decide) hs hpl
variable {e2 : Expr} {m2 : EM}
theorem q_min2 (hc : X.calm = true) (hg : Gl X "min") (hm : X.mg "min" = none) (ha : QB X T W e m) (hb : QB X T W e2 m2) (hs : starEach [e, e2] X.env = (false, eval e X.env) :: starEach [e2] X.env := by rfl) (hs2 : starEach [e2] X.env = (false, eval e2 X.env) :: starEach [] X.env := by rfl) (hpl : (backTo pos (starEach [e2] X.env)).any (·.1) = false := by rfl) :
    QE X T W (.Call (.Name "min" p) [e, e2] [] pos) (mCall gMin (mCons m (mCons m2 mNil))) := q_callB (call_min2 hc) oc_min up_AR hg hm PyProof.Rows.boot_min (qb_cons ha (qb_cons hb qb_nil hs2) hs) (by decide) (by decide) hs hpl
theorem q_max2 (hc : X.calm = true) (hg : Gl X "max") (hm : X.mg "max" = none) (ha : QB X T W e m) (hb : QB X T W e2 m2) (hs : starEach [e, e2] X.env = (false, eval e X.env) :: starEach [e2] X.env := by rfl) (hs2 : starEach [e2] X.env = (false, eval e2 X.env) :: starEach [] X.env := by rfl) (hpl : (backTo pos (starEach [e2] X.env)).any (·.1) = false := by rfl) :
    QE X T W (.Call (.Name "max" p) [e, e2] [] pos) (mCall gMax (mCons m (mCons m2 mNil))) := q_callB (call_max2 hc) oc_max up_AR hg hm PyProof.Rows.boot_max (qb_cons ha (qb_cons hb qb_nil hs2) hs) (by decide) (by decide) hs hpl

/-! ### isinstance -/
/-- what isinstance asks of an own class -/
structure InsT (K : PySem.W.Frag) (C : Addr) : Prop where
  cl : Cls K C
  ha : PySem.W.findIn K (.ref C) "__class__" = some (some (.builtin "object.__class__"))
  hn : PySem.W.specialIn K (.builtin "object.__class__") "__get__" = some (some (.builtin "getset_descriptor.__get__"))
  htk : PySem.W.takesIn K (.builtin "object.__class__") = some true
  hm : PySem.W.mroIn K C (.type "object") = some true
def tyD (T : Tb) (d : D) : Option Value := match d with
  | .non => some (.type "NoneType")
  | .bl _ => some (.type "bool")
  | .int _ => some (.type "int")
  | .str _ => some (.type "str")
  | .tup _ => some (.type "tuple")
  | .lst _ => some (.type "list")
  | .dic _ _ => some (.type "dict")
  | .ins c _ => some (.ref (T.cls c))
  | _ => none
theorem tyX_of {F : Fm} {H0 H : Hp} {cm : List Addr} {s : S} {v : V} {d : D} {t : Value} (hi : ∀ c ds, d = .ins c ds → InsT X.K (T.cls c)) (z : AB X.K T F H0 cm H s v d) (h : tyD T d = some t) : TyX X.K H v t := by
  cases d with
  | non => cases h; cases z.non; exact .base .non
  | bl b => cases h; cases z.bl; exact .base (.bl b)
  | int b => cases h; cases z.int; exact .base (.int b)
  | str b => cases h; cases z.str; exact .base (.str b)
  | tup ds =>
    cases h
    obtain ⟨a, xs, rfl, h1, _⟩ := z.tup
    rcases h1 with (h1 | ⟨o, h1⟩) | ⟨o, its, n, h1, h2, _⟩
    · exact .base (.tup h1)
    · exact .fTuple h1
    · exact .kTuple h1 h2
  | lst ds =>
    cases h
    obtain ⟨a, xs, rfl, h1, _⟩ := z.lst
    exact .base (.lst h1)
  | ins c ds =>
    cases h
    obtain ⟨a, dx, fs, rfl, h1, _⟩ := z.ins
    have q := hi c ds rfl
    exact .base (.ins h1 q.cl q.ha q.hn q.htk q.hm)
  | dic ks ds =>
    cases h
    rcases z with z | ⟨a, rfl, o, q⟩
    · cases z with
      | dic h1 _ =>
        rcases Sub.hidH.rd h1 with h1 | ⟨o, h1⟩
        · exact .base (.dK h1)
        · exact .fDict h1
    · exact q.elim
  | _ => cases h
/-- k: for each class number that may come, the answer; kb: for the built-in types -/
def gIsi (k : D → Option Bool) (m : EM) : EM := fun ρ s => (m ρ s).bind fun x s1 => match k x with | some b => .ok (.bl b) s1 | none => .no
def IsiOk (K : PySem.W.Frag) (T : Tb) (cv : Value) (k : D → Option Bool) : Prop := ∀ d b, k d = some b → (∀ c ds, d = .ins c ds → InsT K (T.cls c)) ∧ ∃ t, tyD T d = some t ∧ PySem.W.kitOne K t cv = some b
theorem q_isi1 {k : D → Option Bool} {c : V} {cv : Value} {te : TE} (hk : IsiOk X.K T cv k) (hcv : ClsV c cv) (he2 : PE X e2 (tC c)) (hg : Gl X "isinstance") (hm : X.mg "isinstance" = none) (ha : QB X T W e m)
    (hs : starEach [e, e2] X.env = (false, eval e X.env) :: starEach [e2] X.env := by rfl) (hs2 : starEach [e2] X.env = (false, eval e2 X.env) :: starEach [] X.env := by rfl) (hpl : (backTo pos (starEach [e2] X.env)).any (·.1) = false := by rfl) :
    QE X T W (.Call (.Name "isinstance" p) [e, e2] [] pos) (gIsi k m) := PE.conv (pe_callB call_isi hg hm PyProof.Rows.boot_isinstance (pa_cons ha (pa_cons he2 pa_nil hs2) hs) (by decide) (by decide) hs hpl) fun σ H Q h => by
  refine h.bind (AB X.K T) up_AR fun B Z cm ρ x H1 ⟨cm1, dx, s1, e1, r1, a1, p1⟩ => ?_
  dsimp only at p1
  split at p1
  · rename_i b hb
    obtain ⟨hi, t, ht, hkit⟩ := hk _ _ hb
    exact ⟨x, c, t, cv, b, rfl, hcv, tyX_of hi a1 ht, hkit, p1.fin r1 (.bl _)⟩
  · exact p1.elim
/-- a tuple of classes -/
def IsiTOk (K : PySem.W.Frag) (T : Tb) (cvs : List Value) (k : D → Option Bool) : Prop := ∀ d b, k d = some b → (∀ c ds, d = .ins c ds → InsT K (T.cls c)) ∧ ∃ t, tyD T d = some t ∧ PySem.W.kitAny K t cvs = some b
theorem q_isi2 {k : D → Option Bool} {c1 c2 : V} {v1 v2 : Value} {a1 a2 : Expr} {x1 : Nat} {tpos : Pos} (hk : IsiTOk X.K T [v1, v2] k) (hcv1 : ClsV c1 v1) (hcv2 : ClsV c2 v2) (ha1 : PE X a1 (tC c1)) (ha2 : PE X a2 (tC c2)) (hg : Gl X "isinstance") (hm : X.mg "isinstance" = none) (ha : QB X T W e m)
    (hs : starEach [e, .Tuple [a1, a2] x1 tpos] X.env = (false, eval e X.env) :: starEach [.Tuple [a1, a2] x1 tpos] X.env := by rfl) (hs2 : starEach [.Tuple [a1, a2] x1 tpos] X.env = (false, eval (.Tuple [a1, a2] x1 tpos) X.env) :: starEach [] X.env := by rfl) (hpl : (backTo pos (starEach [.Tuple [a1, a2] x1 tpos] X.env)).any (·.1) = false := by rfl)
    (ht1 : starEach [a1, a2] X.env = (false, eval a1 X.env) :: starEach [a2] X.env := by rfl) (ht2 : starEach [a2] X.env = (false, eval a2 X.env) :: starEach [] X.env := by rfl) :
    QE X T W (.Call (.Name "isinstance" p) [e, .Tuple [a1, a2] x1 tpos] [] pos) (gIsi k m) := PE.conv (pe_callB call_isiT hg hm PyProof.Rows.boot_isinstance (pa_cons ha (pa_cons (pe_tup (pa_cons ha1 (pa_cons ha2 pa_nil ht2) ht1)) pa_nil hs2) hs) (by decide) (by decide) hs hpl) fun σ H Q h => by
  refine h.bind (AB X.K T) up_AR fun B Z cm ρ x H1 ⟨cm1, dx, s1, e1, r1, a1, p1⟩ => ?_
  refine ⟨by show 2 ≤ sizeLine; decide, fun q hq => ?_⟩
  have r2 := r1.grow (sub_upd (o := .tup [c1, c2]) hq)
  have a2 : AB X.K T ⟨B, Z, σ, ρ⟩ H cm1 _ s1 x dx := a1.ext r1 (Ext.grow (sub_upd (o := .tup [c1, c2]) hq))
  dsimp only at p1
  split at p1
  · rename_i b hb
    obtain ⟨hi, t, ht, hkit⟩ := hk _ _ hb
    exact ⟨x, q, [c1, c2], t, [v1, v2], b, rfl, upd_same, .cons hcv1 (.cons hcv2 .nil), tyX_of hi a2 ht, hkit, p1.fin_new r1 (sub_upd hq) (.bl _)⟩
  · exact p1.elim
end
end Tv

/-! Tv6: statements -/
namespace Tv
open PySem PySem.Spec PyProof.Rows L2

inductive SR where
  | nx (ρ : List SD) (s : S) | rt (d : D) (s : S) | bk (ρ : List SD) (s : S) | ct (ρ : List SD) (s : S) | er (c : Nat) (ds : List D) (ρ : List SD) (s : S) | no
abbrev SM := List SD → S → SR

section
variable {K : PySem.W.Frag} {T : Tb} {B : Hp} {Z : Addr → Prop} {cm cm1 : List Addr} {σ : L2.St} {H H1 : Hp} {ρ : List SD} {s s1 : S}
/-! ### the slots change -/
theorem set_get {α : Type} {l : List α} {i j : Nat} {x y : α} (h : (l.set i x)[j]? = some y) : (j = i ∧ i < l.length ∧ y = x) ∨ (j ≠ i ∧ l[j]? = some y) := by
  by_cases e : j = i
  · subst e
    by_cases hl : j < l.length
    · rw [List.getElem?_set_self hl] at h
      exact .inl ⟨rfl, hl, (Option.some.inj h).symm⟩
    · rw [List.getElem?_eq_none (by rw [List.length_set]; omega)] at h
      cases h
  · rw [List.getElem?_set_ne (Ne.symm e)] at h
    exact .inr ⟨e, h⟩
/-- fewer owned ones: what was seen is seen -/
theorem Rel.slots {σ' : L2.St} {ρ' : List SD} (r : Rel K T B Z cm σ H ρ s) (len : ρ'.length = σ'.length) (O : ∀ a, Ow σ' ρ' a → Ow σ ρ a)
    (val : Sub (GV cm Z (Ow σ ρ) H) (GV cm Z (Ow σ' ρ') H) → ∀ (i : Nat) (d : D), ρ'[i]? = some (.v d) → ∃ v, σ'[i]? = some (some v) ∧ Rep K T cm (GV cm Z (Ow σ' ρ') H) v d)
    (own : ∀ (i : Nat) (d : D), ρ'[i]? = some (.own d) → ρ[i]? = some (.own d) ∧ σ'[i]? = σ[i]?) : Rel K T B Z cm σ' H ρ' s := by
  have sub : Sub (GV cm Z (Ow σ ρ) H) (GV cm Z (Ow σ' ρ') H) := hid_sub fun a u n e => ⟨fun z => by
    rcases z with z | z | z
    · exact n (.inl z)
    · exact n (.inr (.inl z))
    · exact n (.inr (.inr (O a z))), e⟩
  refine ⟨len, val sub, fun i d e => ?_, fun i j d e a h1 h2 h3 h4 => ?_, ⟨r.cells.len, r.cells.nd, fun n a d e1 e2 => (r.cells.at_ n a d e1 e2).ext (.refl _) sub fun o z => z, r.cells.there, r.cells.zok, r.cells.nosf⟩, r.base⟩
  · obtain ⟨e1, e2⟩ := own i d e
    obtain ⟨a, h1, h2, h3⟩ := r.own i d e1
    exact ⟨a, e2.trans h1, h2.ext (.refl _) sub fun o z => z, h3⟩
  · obtain ⟨e1, e2⟩ := own i d h1
    obtain ⟨e3, e4⟩ := own j e h2
    exact r.apart i j d e a e1 e3 (e2.symm.trans h3) (e4.symm.trans h4)
theorem Rel.set {i : Nat} {v : V} {d : D} (r : Rel K T B Z cm σ H ρ s) (q : Rep K T cm (GV cm Z (Ow σ ρ) H) v d) : Rel K T B Z cm (σ.set i (some v)) H (ρ.set i (.v d)) s := by
  refine r.slots (by rw [List.length_set, List.length_set]; exact r.len) (fun a ⟨j, e, h1, h2⟩ => ?_) (fun sub j e h => ?_) (fun j e h => ?_)
  · rcases set_get h1 with ⟨_, _, z⟩ | ⟨n, z⟩
    · cases z
    · rw [List.getElem?_set_ne (Ne.symm n)] at h2
      exact ⟨j, e, z, h2⟩
  · rcases set_get h with ⟨rfl, hl, z⟩ | ⟨n, z⟩
    · cases z
      refine ⟨v, ?_, Rep.mono (.refl _) sub _ _ q⟩
      rw [List.getElem?_set_self (by rw [← r.len]; exact hl)]
    · obtain ⟨w, h1, h2⟩ := r.val j e z
      refine ⟨w, ?_, Rep.mono (.refl _) sub _ _ h2⟩
      rw [List.getElem?_set_ne (Ne.symm n)]
      exact h1
  · rcases set_get h with ⟨_, _, z⟩ | ⟨n, z⟩
    · cases z
    · exact ⟨z, List.getElem?_set_ne (Ne.symm n)⟩
/-- a slot forgotten -/
theorem Rel.unset {i : Nat} (r : Rel K T B Z cm σ H ρ s) : Rel K T B Z cm σ H (ρ.set i .un) s := by
  refine r.slots (by rw [List.length_set]; exact r.len) (fun a ⟨j, e, h1, h2⟩ => ?_) (fun sub j e h => ?_) (fun j e h => ?_)
  · rcases set_get h1 with ⟨_, _, z⟩ | ⟨n, z⟩
    · cases z
    · exact ⟨j, e, z, h2⟩
  · rcases set_get h with ⟨_, _, z⟩ | ⟨n, z⟩
    · cases z
    · obtain ⟨w, h1, h2⟩ := r.val j e z
      exact ⟨w, h1, Rep.mono (.refl _) sub _ _ h2⟩
  · rcases set_get h with ⟨_, _, z⟩ | ⟨n, z⟩
    · cases z
    · exact ⟨z, rfl⟩
/-- the owned list of slot i handed on: from now on a value -/
def frz (i : Nat) (ρ : List SD) : List SD := match ρ[i]? with
  | some (.own (.lst ds)) => ρ.set i (.v (.lst ds))
  | _ => ρ
theorem Rel.frz {i : Nat} (r : Rel K T B Z cm σ H ρ s) : Rel K T B Z cm σ H (Tv.frz i ρ) s := by
  unfold Tv.frz
  split
  · rename_i ds e0
    obtain ⟨a, h1, ⟨xs, h2, h3⟩, h4, h5, h6⟩ := r.own i _ e0
    refine r.slots (by rw [List.length_set]; exact r.len) (fun b ⟨j, e, q1, q2⟩ => ?_) (fun sub j e h => ?_) (fun j e h => ?_)
    · rcases set_get q1 with ⟨_, _, z⟩ | ⟨n, z⟩
      · cases z
      · exact ⟨j, e, z, q2⟩
    · rcases set_get h with ⟨rfl, hl, z⟩ | ⟨n, z⟩
      · cases z
        refine ⟨.ref a, h1, .lst (hid_some.mpr ⟨fun z => ?_, h2⟩) (Reps.mono (.refl _) sub _ _ h3)⟩
        rcases z with z | z | ⟨k, e, q1, q2⟩
        · exact h4 z
        · exact h5 z
        · rcases set_get q1 with ⟨_, _, z⟩ | ⟨n, z⟩
          · cases z
          · exact n (r.apart k j _ _ a z e0 q2 h1)
      · obtain ⟨w, h1, h2⟩ := r.val j e z
        exact ⟨w, h1, Rep.mono (.refl _) sub _ _ h2⟩
    · rcases set_get h with ⟨_, _, z⟩ | ⟨n, z⟩
      · cases z
      · exact ⟨z, rfl⟩
  · exact r
/-- a new list to a slot of its own -/
theorem Rel.setOwn {F : Fm} {i : Nat} {v : V} {d : D} {cm0 : List Addr} {H0 : Hp} {s0 : S} (r0 : FRel K T F cm0 H0 s0) (hi : i < F.ρ.length) (z : AF K T F H0 cm H s v d) :
    Rel K T F.B F.Z cm (F.σ.set i (some v)) H (F.ρ.set i (.own d)) s := by
  obtain ⟨p, ds, xs, rfl, rfl, hp, hc, r, hx, q⟩ := z
  have hiσ : i < F.σ.length := by rw [← r0.len]; exact hi
  have nZ : ¬ F.Z p := fun z => r0.cells.zok p z hp
  have sub : Sub (GV cm (fun a => F.Z a ∨ a = p) F.O H) (GV cm F.Z (Ow (F.σ.set i (some (.ref p))) (F.ρ.set i (.own (.lst ds)))) H) := hid_sub fun a u n e => ⟨fun z => by
    rcases z with z | z | ⟨j, e, q1, q2⟩
    · exact n (.inl z)
    · exact n (.inr (.inl (.inl z)))
    · rcases set_get q1 with ⟨rfl, _, z⟩ | ⟨nj, z⟩
      · rw [List.getElem?_set_self hiσ] at q2
        cases q2
        exact n (.inr (.inl (.inr rfl)))
      · rw [List.getElem?_set_ne (Ne.symm nj)] at q2
        exact n (.inr (.inr ⟨j, e, z, q2⟩)), e⟩
  refine ⟨by rw [List.length_set, List.length_set]; exact r.len, fun j e h => ?_, fun j e h => ?_, fun j k e f a h1 h2 h3 h4 => ?_,
    ⟨r.cells.len, r.cells.nd, fun n a d e1 e2 => (r.cells.at_ n a d e1 e2).ext (.refl _) sub fun o z => z, r.cells.there, fun a m => r.cells.zok a (.inl m), r.cells.nosf⟩, r.base⟩
  · rcases set_get h with ⟨_, _, z⟩ | ⟨n, z⟩
    · cases z
    · obtain ⟨w, h1, h2⟩ := r.val j e z
      refine ⟨w, ?_, Rep.mono (.refl _) sub _ _ h2⟩
      rw [List.getElem?_set_ne (Ne.symm n)]
      exact h1
  · rcases set_get h with ⟨rfl, hl, z⟩ | ⟨n, z⟩
    · cases z
      refine ⟨p, ?_, ⟨xs, hx, Reps.mono (.refl _) sub _ _ q⟩, hc, nZ, ?_⟩
      · rw [List.getElem?_set_self hiσ]
      · cases b : F.B p with
        | none => rfl
        | some o =>
          have := (r0.base p o b).1
          rw [hp] at this
          cases this
    · obtain ⟨a, h1, h2, h3, h4, h5⟩ := r.own j e z
      refine ⟨a, ?_, h2.ext (.refl _) sub fun o z => z, h3, fun q => h4 (.inl q), h5⟩
      rw [List.getElem?_set_ne (Ne.symm n)]
      exact h1
  · have key : ∀ (j : Nat) (e : D), (F.ρ.set i (.own (.lst ds)))[j]? = some (.own e) → (F.σ.set i (some (.ref p)))[j]? = some (some (V.ref a)) → (j = i ∧ a = p) ∨ (j ≠ i ∧ F.ρ[j]? = some (.own e) ∧ F.σ[j]? = some (some (.ref a)) ∧ a ≠ p) := fun j e q1 q2 => by
      rcases set_get q1 with ⟨rfl, _, z⟩ | ⟨nj, z⟩
      · rw [List.getElem?_set_self hiσ] at q2
        cases q2
        exact .inl ⟨rfl, rfl⟩
      · rw [List.getElem?_set_ne (Ne.symm nj)] at q2
        obtain ⟨b, h1, _, _, h4, _⟩ := r.own j e z
        rw [q2] at h1
        cases h1
        exact .inr ⟨nj, z, q2, fun e => h4 (.inr e)⟩
    rcases key j e h1 h3 with ⟨e1, e2⟩ | ⟨n1, z1, z2, z3⟩
    · rcases key k f h2 h4 with ⟨e3, e4⟩ | ⟨n2, y1, y2, y3⟩
      · rw [e1, e3]
      · exact absurd e2 y3
    · rcases key k f h2 h4 with ⟨e3, e4⟩ | ⟨n2, y1, y2, y3⟩
      · exact absurd e4 z3
      · exact r.apart j k e f a z1 y1 z2 y2
theorem GV_mut {cm : List Addr} {Z O O' : Addr → Prop} {H : Hp} {a : Addr} {o : HO} (h : HidP cm Z O a) (e : ∀ b, O' b ↔ O b) : GV cm Z O' (upd H a o) = GV cm Z O H := by
  funext b
  have hp : HidP cm Z O' b ↔ HidP cm Z O b := by
    unfold HidP
    rw [e b]
  by_cases hb : HidP cm Z O b
  · show hid _ _ b = hid _ _ b
    unfold hid
    rw [if_pos hb, if_pos (hp.mpr hb)]
  · show hid _ _ b = hid _ _ b
    unfold hid
    rw [if_neg hb, if_neg (fun z => hb (hp.mp z)), upd_ne (fun z : b = a => hb (by rw [z]; exact h))]
theorem ow_set {i : Nat} {d d' : D} (h : ρ[i]? = some (.own d)) (b : Addr) : Ow σ (ρ.set i (.own d')) b ↔ Ow σ ρ b := by
  have hi : i < ρ.length := (List.getElem?_eq_some_iff.mp h).1
  constructor
  · rintro ⟨j, e, h1, h2⟩
    rcases set_get h1 with ⟨rfl, _, _⟩ | ⟨n, z⟩
    · exact ⟨j, d, h, h2⟩
    · exact ⟨j, e, z, h2⟩
  · rintro ⟨j, e, h1, h2⟩
    by_cases hj : j = i
    · subst hj
      exact ⟨j, d', by rw [List.getElem?_set_self hi], h2⟩
    · exact ⟨j, e, by rw [List.getElem?_set_ne (Ne.symm hj)]; exact h1, h2⟩
/-- the owned thing of slot i changes -/
theorem Rel.mutOwn {i : Nat} {a : Addr} {d d' : D} {o : HO} (r : Rel K T B Z cm σ H ρ s) (h : ρ[i]? = some (.own d)) (ha : σ[i]? = some (some (.ref a))) (q : OwnRep K T cm (GV cm Z (Ow σ ρ) H) (upd H a o) a d') :
    Rel K T B Z cm σ (upd H a o) (ρ.set i (.own d')) s := by
  obtain ⟨a', h1, h2, h3, h4, h5⟩ := r.own i d h
  have ea : a' = a := by rw [h1] at ha; cases ha; rfl
  subst ea
  have hO : Ow σ ρ a' := ⟨i, d, h, h1⟩
  have hi : i < ρ.length := (List.getElem?_eq_some_iff.mp h).1
  have eG : GV cm Z (Ow σ (ρ.set i (.own d'))) (upd H a' o) = GV cm Z (Ow σ ρ) H := GV_mut (.inr (.inr hO)) (ow_set h)
  have keep : ∀ b, b ≠ a' → ∀ u, H b = some u → upd H a' o b = some u := fun b n u e => by rw [upd_ne n]; exact e
  have there : ∀ b, H b ≠ none → upd H a' o b ≠ none := fun b e => by
    by_cases hb : b = a'
    · rw [hb, upd_same]; intro z; cases z
    · rw [upd_ne hb]; exact e
  refine ⟨by rw [List.length_set]; exact r.len, fun j e z => ?_, fun j e z => ?_, fun j k e f b q1 q2 q3 q4 => ?_, ⟨r.cells.len, r.cells.nd, fun n b e e1 e2 => ?_, fun b m => there b (r.cells.there b m), fun b m => there b (r.cells.zok b m), r.cells.nosf⟩, fun b u e => ?_⟩
  · rw [eG]
    rcases set_get z with ⟨_, _, z⟩ | ⟨n, z⟩
    · cases z
    · exact r.val j e z
  · rw [eG]
    rcases set_get z with ⟨rfl, _, z⟩ | ⟨n, z⟩
    · cases z
      exact ⟨a', h1, q, h3, h4, h5⟩
    · obtain ⟨b, k1, k2, k3⟩ := r.own j e z
      have nb : b ≠ a' := fun e' => n (r.apart j i e d a' z h (e' ▸ k1) h1)
      exact ⟨b, k1, k2.ext (.refl _) (Sub.refl _) (keep b nb), k3⟩
  · have key : ∀ (j : Nat) (e : D), (ρ.set i (.own d'))[j]? = some (.own e) → ∃ e', ρ[j]? = some (.own e') := fun j e z => by
      rcases set_get z with ⟨rfl, _, z⟩ | ⟨n, z⟩
      · exact ⟨d, h⟩
      · exact ⟨e, z⟩
    obtain ⟨_, z1⟩ := key j e q1
    obtain ⟨_, z2⟩ := key k f q2
    exact r.apart j k _ _ b z1 z2 q3 q4
  · rw [eG]
    have nb : b ≠ a' := fun e' => h3 (e' ▸ List.mem_of_getElem? e1)
    exact (r.cells.at_ n b e e1 e2).ext (.refl _) (Sub.refl _) (keep b nb)
  · obtain ⟨k1, k2⟩ := r.base b u e
    refine ⟨keep b (fun z => ?_) u k1, k2⟩
    rw [z, h5] at e
    cases e
/-- a cell changes -/
theorem Rel.mutCell {n : Nat} {a : Addr} {d' : D} {o : HO} (r : Rel K T B Z cm σ H ρ s) (h : cm[n]? = some a) (q : OwnRep K T cm (GV cm Z (Ow σ ρ) H) (upd H a o) a d') (hsf : d'.isSf = false := by rfl) :
    Rel K T B Z cm σ (upd H a o) ρ (s.set n d') := by
  have hm : a ∈ cm := List.mem_of_getElem? h
  have hn : n < cm.length := (List.getElem?_eq_some_iff.mp h).1
  have hns : n < s.length := by rw [← r.cells.len]; exact hn
  have eG : GV cm Z (Ow σ ρ) (upd H a o) = GV cm Z (Ow σ ρ) H := GV_mut (.inl hm) fun _ => Iff.rfl
  have keep : ∀ b, b ≠ a → ∀ u, H b = some u → upd H a o b = some u := fun b n u e => by rw [upd_ne n]; exact e
  have there : ∀ b, H b ≠ none → upd H a o b ≠ none := fun b e => by
    by_cases hb : b = a
    · rw [hb, upd_same]; intro z; cases z
    · rw [upd_ne hb]; exact e
  refine ⟨r.len, fun j e z => ?_, fun j e z => ?_, r.apart, ⟨by rw [List.length_set]; exact r.cells.len, r.cells.nd, fun k b e e1 e2 => ?_, fun b m => there b (r.cells.there b m), fun b m => there b (r.cells.zok b m), fun d hd => (List.mem_or_eq_of_mem_set hd).elim (r.cells.nosf d) fun e => by rw [e]; exact hsf⟩, fun b u e => ?_⟩
  · rw [eG]; exact r.val j e z
  · rw [eG]
    obtain ⟨b, k1, k2, k3, k4⟩ := r.own j e z
    exact ⟨b, k1, k2.ext (.refl _) (Sub.refl _) (keep b fun e' => k3 (e' ▸ hm)), k3, k4⟩
  · rw [eG]
    rcases set_get e2 with ⟨rfl, _, z⟩ | ⟨nk, z⟩
    · cases z
      have eb : b = a := by rw [e1] at h; cases h; rfl
      subst eb
      exact q
    · have nb : b ≠ a := fun e' => nk (by
        subst e'
        obtain ⟨l1, g1⟩ := List.getElem?_eq_some_iff.mp e1
        obtain ⟨l2, g2⟩ := List.getElem?_eq_some_iff.mp h
        exact (List.getElem_inj r.cells.nd).mp (g1.trans g2.symm))
      exact (r.cells.at_ k b e e1 z).ext (.refl _) (Sub.refl _) (keep b nb)
  · obtain ⟨k1, k2⟩ := r.base b u e
    exact ⟨keep b (fun z => k2 (z ▸ hm)) u k1, k2⟩
/-- a new list becomes a cell -/
theorem Rel.newCell {F : Fm} {v : V} {d : D} {cm0 : List Addr} {H0 : Hp} {s0 : S} (r0 : FRel K T F cm0 H0 s0) (z : AF K T F H0 cm H s v d) :
    ∃ p, v = .ref p ∧ Rel K T F.B F.Z (cm ++ [p]) F.σ H F.ρ (s ++ [d]) := by
  obtain ⟨p, ds, xs, rfl, rfl, hp, hc, r, hx, q⟩ := z
  have nZ : ¬ F.Z p := fun z => r0.cells.zok p z hp
  have sub : Sub (GV cm (fun a => F.Z a ∨ a = p) F.O H) (GV (cm ++ [p]) F.Z F.O H) := hid_sub fun a u n e => ⟨fun z => by
    rcases z with z | z | z
    · rcases List.mem_append.mp z with z | z
      · exact n (.inl z)
      · exact n (.inr (.inl (.inr (List.mem_singleton.mp z))))
    · exact n (.inr (.inl (.inl z)))
    · exact n (.inr (.inr z)), e⟩
  have pre : Pre cm (cm ++ [p]) := ⟨[p], rfl⟩
  refine ⟨p, rfl, r.len, fun j e h => ?_, fun j e h => ?_, r.apart, ⟨by rw [List.length_append, List.length_append, r.cells.len]; rfl, ?_, fun n a d e1 e2 => ?_, fun a m => ?_, fun a m => r.cells.zok a (.inl m), fun d hd => (List.mem_append.mp hd).elim (r.cells.nosf d) fun e => by rw [List.mem_singleton.mp e]; rfl⟩, fun a o e => ?_⟩
  · obtain ⟨w, h1, h2⟩ := r.val j e h
    exact ⟨w, h1, Rep.mono pre sub _ _ h2⟩
  · obtain ⟨a, h1, h2, h3, h4, h5⟩ := r.own j e h
    refine ⟨a, h1, h2.ext pre sub fun o z => z, fun z => ?_, fun q => h4 (.inl q), h5⟩
    rcases List.mem_append.mp z with z | z
    · exact h3 z
    · exact h4 (.inr (List.mem_singleton.mp z))
  · exact List.nodup_append.mpr ⟨r.cells.nd, by simp, fun a h1 b h2 e => hc (by rw [← List.mem_singleton.mp h2, ← e]; exact h1)⟩
  · by_cases hn : n < cm.length
    · rw [List.getElem?_append_left hn] at e1
      rw [List.getElem?_append_left (by rw [← r.cells.len]; exact hn)] at e2
      exact (r.cells.at_ n a d e1 e2).ext pre sub fun o z => z
    · have hn' : cm.length ≤ n := by omega
      rw [List.getElem?_append_right hn'] at e1
      rw [List.getElem?_append_right (by rw [← r.cells.len]; exact hn')] at e2
      have e0 : n - cm.length = 0 := by
        have := (List.getElem?_eq_some_iff.mp e1).1
        simp at this
        omega
      have e0' : n - s.length = 0 := by rw [← r.cells.len]; exact e0
      rw [e0] at e1
      rw [e0'] at e2
      cases e1
      cases e2
      exact ⟨xs, hx, Reps.mono pre sub _ _ q⟩
  · rcases List.mem_append.mp m with m | m
    · exact r.cells.there a m
    · rw [List.mem_singleton.mp m, hx]; intro z; cases z
  · obtain ⟨k1, k2⟩ := r.base a o e
    refine ⟨k1, fun z => ?_⟩
    rcases List.mem_append.mp z with z | z
    · exact k2 z
    · rw [List.mem_singleton.mp z] at e
      have := (r0.base p o e).1
      rw [hp] at this
      cases this
end
end Tv

/-! Tv7: statements' readings and rules -/
namespace Tv
open PySem PySem.Spec PyProof.Rows L2

section
variable (K : PySem.W.Frag) (T : Tb)
def PostS (B : Hp) (Z : Addr → Prop) (cm0 : List Addr) (W : WX) (r : SR) (D : Ends) : Prop := match r with
  | .nx ρ s => ∀ σ H cm, Pre cm0 cm → Rel K T B Z cm σ H ρ s → D.nx σ H
  | .bk ρ s => ∀ σ H cm, Pre cm0 cm → Rel K T B Z cm σ H ρ s → D.bk σ H
  | .ct ρ s => ∀ σ H cm, Pre cm0 cm → Rel K T B Z cm σ H ρ s → D.ct σ H
  | .rt d s => ∀ v σ H cm ρ, Pre cm0 cm → Rel K T B Z cm σ H ρ s → Rep K T cm (GV cm Z (Ow σ ρ) H) v d → D.rt v H
  | .er c ds ρ s => ∀ cls dx σ H cm, Pre cm0 cm → Rel K T B Z cm σ H ρ s → ErrRep K T cm (GV cm Z (Ow σ ρ) H) H cls dx c ds → W cls dx σ H
  | .no => False
def tS (W : WX) (m : SM) : TS := fun D σ H => ∃ B Z cm ρ s, Rel K T B Z cm σ H ρ s ∧ PostS K T B Z cm W (m ρ s) D
end
abbrev QSt (X : Cx) (T : Tb) (W : WX) (st : Stmt) (m : SM) : Prop := PS X st (tS X.K T W m)
abbrev QSs (X : Cx) (T : Tb) (W : WX) (st : List Stmt) (m : SM) : Prop := PSs X st (tS X.K T W m)
theorem _root_.L2.PS.conv {X : Cx} {e : Stmt} {t t' : TS} (h : PS X e t) (c : ∀ D σ H, t' D σ H → t D σ H) : PS X e t' := ⟨fun pins s σ H D I w => h.run pins s σ H D I (c D σ H w)⟩
theorem _root_.L2.PSs.conv {X : Cx} {e : List Stmt} {t t' : TS} (h : PSs X e t) (c : ∀ D σ H, t' D σ H → t D σ H) : PSs X e t' := ⟨fun pins s σ H D I w => h.run pins s σ H D I (c D σ H w)⟩
section
variable {K : PySem.W.Frag} {T : Tb} {B : Hp} {Z : Addr → Prop} {cm cm1 : List Addr} {W : WX} {r : SR} {Ed : Ends}
theorem PostS.later (h : PostS K T B Z cm W r Ed) (p : Pre cm cm1) : PostS K T B Z cm1 W r Ed := by
  cases r with
  | nx ρ s => exact fun σ H c q => h σ H c (p.trans q)
  | bk ρ s => exact fun σ H c q => h σ H c (p.trans q)
  | ct ρ s => exact fun σ H c q => h σ H c (p.trans q)
  | rt d s => exact fun v σ H c ρ q => h v σ H c ρ (p.trans q)
  | er c ds ρ s => exact fun cls dx σ H c q => h cls dx σ H c (p.trans q)
  | no => exact h

/-! ### what they reckon -/
def mNext : SM := fun ρ s => .nx ρ s
def mSeq (a b : SM) : SM := fun ρ s => match a ρ s with
  | .nx ρ' s' => b ρ' s'
  | .rt d s' => .rt d s'
  | .bk ρ' s' => .bk ρ' s'
  | .ct ρ' s' => .ct ρ' s'
  | .er c ds ρ' s' => .er c ds ρ' s'
  | .no => .no
/-- an expression, then what is done with its value -/
def mE (a : EM) (k : D → List SD → S → SR) : SM := fun ρ s => match a ρ s with
  | .ok d s' => k d ρ s'
  | .er c ds s' => .er c ds ρ s'
  | .no => .no
def mSet (i : Nat) (a : EM) : SM := mE a fun d ρ s => .nx (ρ.set i (.v d)) s
def mSetO (i : Nat) (a : EM) : SM := mE a fun d ρ s => if i < ρ.length then .nx (ρ.set i (.own d)) s else .no
def mDrop (a : EM) : SM := mE a fun _ ρ s => .nx ρ s
def mRet (a : EM) : SM := mE a fun d _ s => .rt d s
def mRetN : SM := fun _ s => .rt .non s
def mBrk : SM := fun ρ s => .bk ρ s
def mCnt : SM := fun ρ s => .ct ρ s
def mNever : SM := fun _ _ => .no
def mIfS (c : TM) (a b : SM) : SM := fun ρ s => match c ρ s with
  | .ok true s' => a ρ s'
  | .ok false s' => b ρ s'
  | .er k ds s' => .er k ds ρ s'
  | .no => .no
def mFrz (i : Nat) (a : SM) : SM := fun ρ s => a (frz i ρ) s
end

section
variable {X : Cx} {T : Tb} {W : WX} {st : Stmt} {rest : List Stmt} {a b : SM} {e c : Expr} {m : EM} {tc : TM} {pos : Pos}
/-- from an expression's reading to what stands behind it -/
theorem tE_of {α β : Type} {K : PySem.W.Frag} {B : Hp} {Z : Addr → Prop} {cm : List Addr} {σ : L2.St} {H : Hp} {ρ : List SD} {A : AK α β} {Q : β → Hp → Prop} {x : R α}
    (ok : ∀ d s', x = .ok d s' → ∀ b H' cm', Ext cm H cm' H' → Rel K T B Z cm' σ H' ρ s' → A ⟨B, Z, σ, ρ⟩ H cm' H' s' b d → Q b H')
    (er : ∀ c ds s', x = .er c ds s' → ∀ cls dx H' cm', Ext cm H cm' H' → Rel K T B Z cm' σ H' ρ s' → ErrRep K T cm' (GV cm' Z (Ow σ ρ) H') H' cls dx c ds → W cls dx σ H')
    (no : x = .no → False) : Post K T ⟨B, Z, σ, ρ⟩ cm H W A x Q := by
  cases x with
  | ok d s' => exact ok d s' rfl
  | er c ds s' => exact er c ds s' rfl
  | no => exact no rfl
theorem mE_of {K : PySem.W.Frag} {A : AK D V} {k : D → List SD → S → SR} {D0 : Ends} {σ : L2.St} {H : Hp} {Q : VK} (h : tS K T W (mE m k) D0 σ H)
    (q : ∀ B Z cm0 s0 cm H' ρ d s v, Pre cm0 cm → FRel K T ⟨B, Z, σ, ρ⟩ cm0 H s0 → FRel K T ⟨B, Z, σ, ρ⟩ cm H' s → A ⟨B, Z, σ, ρ⟩ H cm H' s v d → PostS K T B Z cm W (k d ρ s) D0 → Q v H') : tP K T W A m σ H Q := by
  obtain ⟨B, Z, cm, ρ, s, r, p⟩ := h
  refine ⟨B, Z, cm, ρ, s, r, tE_of (fun d s' e b H' cm' ex r' z => ?_) (fun c ds s' e cls dx H' cm' ex r' z => ?_) (fun e => ?_)⟩
  · unfold mE at p
    rw [e] at p
    exact q B Z cm s cm' H' ρ d s' b ex.pre r r' z (p.later ex.pre)
  · unfold mE at p
    rw [e] at p
    exact p cls dx σ H' cm' ex.pre r' z
  · unfold mE at p
    rw [e] at p
    exact p
theorem qss_nil : QSs X T W [] mNext := PSs.conv pss_nil fun D σ H h => by
  obtain ⟨B, Z, cm, ρ, s, r, p⟩ := h
  exact p σ H cm (.refl _) r
theorem qss_cons (h1 : QSt X T W st a) (h2 : QSs X T W rest b) : QSs X T W (st :: rest) (mSeq a b) := PSs.conv (pss_cons h1 h2) fun D σ H h => by
  obtain ⟨B, Z, cm, ρ, s, r, p⟩ := h
  refine ⟨B, Z, cm, ρ, s, r, ?_⟩
  unfold mSeq at p
  cases e : a ρ s with
  | nx ρ' s' => rw [e] at p; exact fun σ' H' cm' q r' => ⟨B, Z, cm', ρ', s', r', p.later q⟩
  | rt d s' => rw [e] at p; exact p
  | bk ρ' s' => rw [e] at p; exact p
  | ct ρ' s' => rw [e] at p; exact p
  | er c ds ρ' s' => rw [e] at p; exact p
  | no => rw [e] at p; exact p
theorem qss_one (h1 : QSt X T W st a) : QSs X T W [st] a := pss_one h1
theorem q_pass : QSt X T W (.Pass pos) mNext := PS.conv ps_pass fun D σ H h => by
  obtain ⟨B, Z, cm, ρ, s, r, p⟩ := h
  exact p σ H cm (.refl _) r
theorem q_break : QSt X T W (.Break pos) mBrk := PS.conv ps_break fun D σ H h => by
  obtain ⟨B, Z, cm, ρ, s, r, p⟩ := h
  exact p σ H cm (.refl _) r
theorem q_continue : QSt X T W (.Continue pos) mCnt := PS.conv ps_continue fun D σ H h => by
  obtain ⟨B, Z, cm, ρ, s, r, p⟩ := h
  exact p σ H cm (.refl _) r
theorem q_never : QSt X T W st mNever := PS.conv ps_never fun D σ H h => by
  obtain ⟨B, Z, cm, ρ, s, r, p⟩ := h
  exact p
theorem qs_frz {i : Nat} (h : QSt X T W st a) : QSt X T W st (mFrz i a) := PS.conv h fun D σ H h => by
  obtain ⟨B, Z, cm, ρ, s, r, p⟩ := h
  exact ⟨B, Z, cm, _, s, r.frz, p⟩
theorem q_ifS {sa sb : List Stmt} (hc : QT X T W c tc) (ha : QSs X T W sa a) (hb : QSs X T W sb b) : QSt X T W (.If c sa sb pos) (mIfS tc a b) := PS.conv (ps_if hc ha hb) fun D σ H h => by
  obtain ⟨B, Z, cm, ρ, s, r, p⟩ := h
  refine ⟨B, Z, cm, ρ, s, r, tE_of (fun d s' e b H' cm' ex r' z => ?_) (fun c ds s' e cls dx H' cm' ex r' z => ?_) (fun e => ?_)⟩
  · unfold mIfS at p
    rw [e] at p
    cases z
    cases d with
    | true => rw [if_pos rfl]; exact ⟨B, Z, cm', ρ, s', r', p.later ex.pre⟩
    | false => rw [if_neg Bool.false_ne_true]; exact ⟨B, Z, cm', ρ, s', r', p.later ex.pre⟩
  · unfold mIfS at p
    rw [e] at p
    exact p cls dx σ H' cm' ex.pre r' z
  · unfold mIfS at p
    rw [e] at p
    exact p
theorem q_expr (he : QE X T W e m) (hs : swapsWith e none pos.line X.env = pure false := by rfl) : QSt X T W (.Expr e pos) (mDrop m) := PS.conv (ps_expr he hs) fun D σ H h =>
  mE_of (A := AR X.K T) h fun B Z cm0 s0 cm H' ρ d s v pre r0 r z p => p σ H' cm (.refl _) r
theorem q_doc {x j p1} : QSt X T W (.Expr (.Constant (.str x) j p1) pos) mNext := PS.conv ps_doc fun D σ H h => by
  obtain ⟨B, Z, cm, ρ, s, r, p⟩ := h
  exact p σ H cm (.refl _) r
theorem q_ret (he : QE X T W e m) : QSt X T W (.Return (some e) pos) (mRet m) := PS.conv (ps_ret he) fun D σ H h =>
  mE_of (A := AR X.K T) h fun B Z cm0 s0 cm H' ρ d s v pre r0 r z p => p v σ H' cm ρ (.refl _) r z
theorem q_retN : QSt X T W (.Return none pos) mRetN := PS.conv ps_retN fun D σ H h => by
  obtain ⟨B, Z, cm, ρ, s, r, p⟩ := h
  exact p .non σ H cm ρ (.refl _) r .non
theorem q_set {i : Nat} {x : Str} {pos' : Pos} (hN : X.N.Nodup) (hi : X.N[i]? = some x := by rfl) (hx : Loc X.env.scope x := by first | exact Or.inl rfl | exact Or.inr rfl) (he : QE X T W e m) (hs : swapsWith e (some (.Name x pos')) pos.line X.env = pure false := by rfl) (hf : X.fn x = true ∨ X.env.scope.names.lookup x = some .local := by first | exact .inl rfl | exact .inr rfl | assumption) :
    QSt X T W (.Assign [.Name x pos'] e pos) (mSet i m) := PS.conv (ps_set hN hi hx he hs hf) fun D σ H h =>
  mE_of (A := AR X.K T) h fun B Z cm0 s0 cm H' ρ d s v pre r0 r z p => p (σ.set i (some v)) H' cm (.refl _) (Rel.set r z)
theorem q_setO {i : Nat} {x : Str} {pos' : Pos} (hN : X.N.Nodup) (hi : X.N[i]? = some x := by rfl) (hx : Loc X.env.scope x := by first | exact Or.inl rfl | exact Or.inr rfl) (he : QF X T W e m) (hs : swapsWith e (some (.Name x pos')) pos.line X.env = pure false := by rfl) (hf : X.fn x = true ∨ X.env.scope.names.lookup x = some .local := by first | exact .inl rfl | exact .inr rfl | assumption) :
    QSt X T W (.Assign [.Name x pos'] e pos) (mSetO i m) := PS.conv (ps_set hN hi hx he hs hf) fun D σ H h =>
  mE_of (A := AF X.K T) h fun B Z cm0 s0 cm H' ρ d s v pre r0 r z p => by
    split at p
    · rename_i hl
      exact p (σ.set i (some v)) H' cm (.refl _) (Rel.setOwn r0 hl z)
    · exact p.elim

/-! ### while -/
def loopW (c : TM) (b : SM) : Nat → SM
  | 0 => fun _ _ => .no
  | n + 1 => fun ρ s => match c ρ s with
    | .ok true s1 => match b ρ s1 with
      | .nx ρ' s' => loopW c b n ρ' s'
      | .ct ρ' s' => loopW c b n ρ' s'
      | .bk ρ' s' => .nx ρ' s'
      | .rt d s' => .rt d s'
      | .er k ds ρ' s' => .er k ds ρ' s'
      | .no => .no
    | .ok false s1 => .nx ρ s1
    | .er k ds s1 => .er k ds ρ s1
    | .no => .no
def mWhile (fuel : List SD → S → Nat) (c : TM) (b : SM) : SM := fun ρ s => loopW c b (fuel ρ s) ρ s
theorem q_while {fuel : List SD → S → Nat} {body : List Stmt} (hp : PassesOwn (model X.prog X.w) X.A X.env X.xe) (hc : QT X T W c tc) (hb : QSs X T W body b) : QSt X T W (.While c body [] pos) (mWhile fuel tc b) := PS.conv (ps_while hp hc hb) fun D σ H h => by
  obtain ⟨B, Z, cm0, ρ, s, r, p⟩ := h
  refine ⟨fun n σ H => ∃ cm ρ s, Pre cm0 cm ∧ Rel X.K T B Z cm σ H ρ s ∧ PostS X.K T B Z cm W (loopW tc b n ρ s) D, ⟨fuel ρ s, cm0, ρ, s, .refl _, r, p⟩, ?_⟩
  rintro n σ H ⟨cm, ρ, s, pre, r, p⟩
  cases n with
  | zero => exact p.elim
  | succ n =>
    refine ⟨B, Z, cm, ρ, s, r, tE_of (fun d s' e bb H' cm' ex r' z => ?_) (fun c ds s' e cls dx H' cm' ex r' z => ?_) (fun e => ?_)⟩
    · unfold loopW at p
      rw [e] at p
      cases z
      cases d with
      | false =>
        rw [if_neg Bool.false_ne_true]
        exact p σ H' cm' ex.pre r'
      | true =>
        rw [if_pos rfl]
        dsimp only at p
        refine ⟨_, fun σ' H' q => ⟨n, Nat.lt_succ_self n, q⟩, B, Z, cm', ρ, s', r', ?_⟩
        cases eb : b ρ s' with
        | nx ρ2 s2 => rw [eb] at p; exact fun σ' H' c q r2 => ⟨c, ρ2, s2, pre.trans (ex.pre.trans q), r2, p.later (ex.pre.trans q)⟩
        | ct ρ2 s2 => rw [eb] at p; exact fun σ' H' c q r2 => ⟨c, ρ2, s2, pre.trans (ex.pre.trans q), r2, p.later (ex.pre.trans q)⟩
        | bk ρ2 s2 => rw [eb] at p; exact fun σ' H' c q r2 => p σ' H' c (ex.pre.trans q) r2
        | rt d2 s2 => rw [eb] at p; exact fun v σ' H' c ρ' q r2 z => p v σ' H' c ρ' (ex.pre.trans q) r2 z
        | er k2 ds2 ρ2 s2 => rw [eb] at p; exact fun cls dx σ' H' c q r2 z => p cls dx σ' H' c (ex.pre.trans q) r2 z
        | no => rw [eb] at p; exact p
    · unfold loopW at p
      rw [e] at p
      exact p cls dx σ H' cm' ex.pre r' z
    · unfold loopW at p
      rw [e] at p
      exact p
end
end Tv

/-! TvW: enumerate and zip over lists and tuples in any mix, as walks of the layer -/
namespace TvW
open PySem PySem.Spec PyProof.Rows L2

/-- b: a tuple | a list -/
def SqB (K : PySem.W.Frag) (b : Bool) (H : Hp) (a : Addr) (xs : List V) : Prop := match b with | true => SqT K H a xs | false => SqL K H a xs
def IterB (b : Bool) (h : Heap) (it a : Addr) (i : Nat) : Prop := match b with | true => h.IsTupleIter it a i | false => h.IsListIter it a i
def IsB (b : Bool) (h : Heap) (a : Addr) (its : Array Value) : Prop := match b with | true => h.IsTuple a its | false => h.IsList a its
def objB (b : Bool) (a : Addr) : Obj := match b with
  | true => { cls := .type "tuple_iterator", data := .fields #[.ref a, .int 0 0] }
  | false => { cls := .type "list_iterator", data := .fields #[.ref a, .int 0 0] }
theorem drawsB {prog : Program} {w : World} {A : Around} (hh : A.handled = none) (b : Bool) (it l : Addr) (hne : l ≠ it) (items : Array Value) :
    Draws prog w A it [it, l] items.size (fun i v => items[i]? = some v) (fun i h => IterB b h it l i ∧ IsB b h l items) := by
  cases b with
  | true => exact Draws.tuple hh it l hne items
  | false => exact Draws.list hh it l hne items
theorem beginsB (b : Bool) (a : Addr) (items : Array Value) : Begins (.ref a) (objB b a) (fun h => IsB b h a items) := by
  cases b with
  | true => exact begins_tuple a items
  | false => exact begins_list a items
theorem IterB.new {b : Bool} {h : Heap} {it a : Addr} (e : h.get? it = some (objB b a)) : IterB b h it a 0 := by
  cases b with
  | true => exact ⟨_, e, rfl, rfl⟩
  | false => exact ⟨_, e, rfl, rfl⟩
theorem IterB.obj {b : Bool} {h : Heap} {it a : Addr} {i : Nat} (e : IterB b h it a i) : ∃ o vs T, h.get? it = some o ∧ o.data = .fields vs ∧ o.cls = .type T ∧ T ≠ "list" ∧ T ≠ "tuple" := by
  cases b with
  | true =>
    obtain ⟨o, h1, h2, h3⟩ := e
    exact ⟨o, _, _, h1, h3, h2, by decide, by decide⟩
  | false =>
    obtain ⟨o, h1, h2, h3⟩ := e
    exact ⟨o, _, _, h1, h3, h2, by decide, by decide⟩
theorem IterB.keep {b : Bool} {h h' : Heap} {it a : Addr} {i : Nat} (e : IterB b h it a i) (k : ∀ o, h.get? it = some o → h'.get? it = some o) : IterB b h' it a i := by
  cases b with
  | true =>
    obtain ⟨o, h1, h2, h3⟩ := e
    exact ⟨o, k _ h1, h2, h3⟩
  | false =>
    obtain ⟨o, h1, h2, h3⟩ := e
    exact ⟨o, k _ h1, h2, h3⟩
theorem IsB.obj {b : Bool} {h : Heap} {a : Addr} {its : Array Value} (e : IsB b h a its) : ∃ o n, h.get? a = some o ∧ o.data = .seq its n := by
  cases b with
  | true =>
    obtain ⟨o, h1, h2, n, h3⟩ := e
    exact ⟨o, n, h1, h3⟩
  | false =>
    obtain ⟨o, h1, h2, n, h3⟩ := e
    exact ⟨o, n, h1, h3⟩
theorem ne_fs {h : Heap} {a b : Addr} {o o' : Obj} {vs : Array Value} {its : Array Value} {n : Nat} (h1 : h.get? a = some o) (d1 : o.data = .fields vs) (h2 : h.get? b = some o') (d2 : o'.data = .seq its n) : a ≠ b := fun e => by
  rw [e, h2] at h1
  cases h1
  rw [d2] at d1
  cases d1
section
variable {X : Cx} {pins : List (Addr × Obj)} {σ : L2.St} {H : Hp} {s : Shared}
theorem inv_B {b : Bool} {a : Addr} {xs : List V} (I : Inv X pins σ H s) (h : SqB X.K b H a xs) : ∃ its : List Value, Vals xs its ∧ IsB b s.heap a its.toArray ∧ xs.length = its.length := by
  cases b with
  | true =>
    obtain ⟨its, r, t, _⟩ := I.tuple h
    exact ⟨its, r, t, r.length⟩
  | false =>
    obtain ⟨its, r, t, _⟩ := I.list h
    exact ⟨its, r, t.isList, r.length⟩
theorem inv_B_inj {b : Bool} {a : Addr} {xs ys : List V} (I : Inv X pins σ H s) (h : SqB X.K b H a xs) (h' : SqB X.K b H a ys) : xs = ys := by
  cases b with
  | true => exact I.tuple_inj h h'
  | false => exact I.list_inj h h'
end

/-! ### enumerate -/
def IteB (K : PySem.W.Frag) (b : Bool) (a : Addr) : It :=
  ⟨fun i H => ∃ (xs : List V) (x : V), SqB K b H a xs ∧ xs[i]? = some x, fun i H v H' => ∃ T x, v = .ref T ∧ H T = none ∧ H' = upd H T (.tup [.int (i : Nat), x]) ∧ ∀ xs, SqB K b H a xs → xs[i]? = some x, fun i H => ∃ xs : List V, SqB K b H a xs ∧ xs.length = i⟩
theorem turn_enumB {P : Program} {w : World} {K : PySem.W.Frag} {elts : List Expr} {kk : Nat} {tpos : Pos} (b : Bool) (a e it : Addr) :
    Turn P w K (.Tuple elts kk tpos) (IteB K b a) [e, it] e (fun i h => (∃ old, IsEnum h e it ((i : Nat) : Int) old) ∧ IterB b h it a i ∧ e ≠ it) where
  mem := by simp
  obj := fun i h st c hc => by
    obtain ⟨⟨old, he⟩, hi, _⟩ := st
    obtain ⟨o, vs, T, h1, h2, h3⟩ := hi.obj
    have e' : c = e ∨ c = it := by simpa using hc
    rcases e' with z | z
    · rw [z]; exact ⟨_, he, fun v q => nomatch q⟩
    · rw [z]; exact ⟨o, h1, fun v q => by rw [h2] at q; cases q⟩
  keep := fun i h h' st k => let ⟨⟨old, he⟩, hi, hne⟩ := st; ⟨⟨old, k e (by simp) _ he⟩, hi.keep fun o q => k it (by simp) o q, hne⟩
  item := by
    intro X hP hw hK hc i pins s σ H E I hf st hg
    subst hP hw hK
    obtain ⟨⟨old, he⟩, hit, hne⟩ := st
    obtain ⟨xs, x, hq, hx⟩ := hg
    obtain ⟨its, rv, p, hlen⟩ := inv_B I hq
    obtain ⟨u, hu, ru⟩ := rv.get hx
    obtain ⟨ol, nl, gl, dl⟩ := p.obj
    obtain ⟨oi, vsi, Ti, gi, di, _⟩ := hit.obj
    have hal : a ≠ it := (ne_fs gi di gl dl).symm
    have hea : e ≠ a := ne_fs he rfl gl dl
    have hh : X.A.in1.handled = none := I.ok.hd hc
    have W := WalksT.enumerateD (drawsB (prog := X.prog) (w := X.w) hh b it a hal its.toArray) e hne (by simp [hne, hea]) (by simp)
    have hi : i < its.toArray.size := by
      rw [List.size_toArray, ← hlen]
      exact (List.getElem?_eq_some_iff.mp hx).1
    refine W.item i s _ _ hi ⟨⟨old, he⟩, hit, p⟩ fun T vals h' tk hP hT hTup hMid hk => ?_
    refine ⟨_, rfl, W.go elts kk tpos i T _ _ _ hMid fun h'' hSt hk2 => ?_⟩
    obtain ⟨t, x', hx', ev⟩ := hP
    have exx : x' = u := by
      have h2 : its.toArray[i]? = some u := by simpa using hu
      rw [h2] at hx'
      exact (Option.some.inj hx').symm
    subst exx
    have ap := W.apart i T h' hMid
    obtain ⟨oT, gT, cT, nT, dT⟩ := hTup
    have gT2 := hk2 T oT ap gT
    have keepAll : ∀ c o, c ∉ [e, it] → s.heap.get? c = some o → h''.get? c = some o := fun c o hc q => hk2 c o hc (hk c o hc q)
    have new : ObjOk X.prog X.w (upd H T (.tup [.int (i : Nat), x])) h'' T (.tup [.int (i : Nat), x]) :=
      ⟨by show 2 ≤ sizeLine; decide, [.int i t, x'], .cons ⟨_, rfl⟩ (.cons ru .nil), ⟨oT, gT2, cT, nT, by rw [dT, ev]⟩⟩
    have I1 : Inv X pins σ (upd H T (.tup [.int (i : Nat), x])) { s with heap := h'', toks := tk } := I.turnedNew (ch := [e, it]) keepAll hf hT new
    obtain ⟨⟨old', he'⟩, hit', _⟩ := hSt
    refine ⟨.ref T, _, I1, rfl, ⟨T, x, rfl, I.hok.fresh hT, rfl, fun ys hy => by rw [inv_B_inj I hy hq]; exact hx⟩, ⟨⟨old', he'⟩, hit', hne⟩, fun c hcm => ?_⟩
    have hcl : c < s.heap.objs.size := by
      have e' : c = e ∨ c = it := by simpa using hcm
      rcases e' with z | z
      · rw [z]; exact Heap.lt_size he
      · rw [z]; exact Heap.lt_size gi
    rw [upd_ne (Nat.ne_of_lt (Nat.lt_of_lt_of_le hcl hT))]
    exact (hf c hcm).1
  done := by
    intro X hP hw hK hc i pins s σ H E I hf st hg
    subst hP hw hK
    obtain ⟨⟨old, he⟩, hit, hne⟩ := st
    obtain ⟨xs, hq, hx⟩ := hg
    obtain ⟨its, rv, p, hlen⟩ := inv_B I hq
    obtain ⟨ol, nl, gl, dl⟩ := p.obj
    obtain ⟨oi, vsi, Ti, gi, di, _⟩ := hit.obj
    have hal : a ≠ it := (ne_fs gi di gl dl).symm
    have hea : e ≠ a := ne_fs he rfl gl dl
    have hh : X.A.in1.handled = none := I.ok.hd hc
    have W := WalksT.enumerateD (drawsB (prog := X.prog) (w := X.w) hh b it a hal its.toArray) e hne (by simp [hne, hea]) (by simp)
    have hi : its.toArray.size = i := by
      rw [List.size_toArray, ← hlen]
      exact hx
    subst hi
    exact W.done s _ _ ⟨⟨old, he⟩, hit, p⟩ fun h' tk hk => ⟨rfl, I.turnedL (ch := [e, it]) hk hf⟩
  self := fun A i s Q E st h => let ⟨⟨_, he⟩, _⟩ := st; wpAny_pyIter_enum he h

theorem meets_enumerate_new1 {v : Value} {o : Obj} {H : Heap → Prop} (B : Begins v o H) :
    Meets (Builtin.«enumerate.__new__» ⟨[.type "enumerate", v], []⟩) (fun _ R s => H s.heap ∧
      R (.ok (.ret (.ref (s.heap.push o).objs.size))) { s with heap := (s.heap.push o).push { cls := .type "enumerate", data := .fields #[.none, .bool false, .ref s.heap.objs.size, rawInt 0, .none, .none] } }) :=
  .of_wp fun prog w A R s h => by
    obtain ⟨hp, g, d, tk, os⟩ := s; obtain ⟨h1, h⟩ := h
    have hsub := sub_enumerate
    have q1 : ∀ {A' : Around} {E : Value → Shared → Prop} {Q : Value → Shared → Prop}, Q (.ref hp.objs.size) ⟨hp.push o, g, d, tk, os⟩ → wpAny (model prog w) A' (pyIter v) Q E ⟨hp, g, d, tk, os⟩ :=
      fun q => B.iter prog w _ _ ⟨hp, g, d, tk, os⟩ _ h1 q
    wp_walk using q1
    refine wpAny_stack_any fun st => wpAny_pure ?_
    split
    · rename_i c _ _ _ _ _
      cases (c == Value.type "enumerate")
      · wp_walk using q1
        exact ⟨_, rfl, h⟩
      · wp_walk using q1
        exact ⟨_, rfl, h⟩
    · wp_walk using q1
      exact ⟨_, rfl, h⟩
section
variable {prog : Program} {w : World} {A : Around} {E : Value → Shared → Prop} {s : Shared}
theorem enum_begins1 {v : Value} {o : Obj} {H : Heap → Prop} {Q : Value → Shared → Prop} (B : Begins v o H) (h1 : H s.heap)
    (h : ∀ h', IsEnum h' (s.heap.objs.size + 1) s.heap.objs.size 0 .none → h'.get? s.heap.objs.size = some o → h'.objs.size = s.heap.objs.size + 2 →
      (∀ b o, s.heap.get? b = some o → h'.get? b = some o) → Q (.ref (s.heap.objs.size + 1)) { s with heap := h' }) :
    wpAny (model prog w) A (call (.type "enumerate") [v]) Q E s := by
  refine callType_new F.called_enumerate (by decide) (F.typeCall_enumerate_1 _) (F.newCall_enumerate_1 _) (fun obj => F.args_object_init_2 obj _) F.entry_enumerate_new
    (meets_enumerate_new1 B) ⟨h1, ?_⟩
  have hz : (s.heap.push o).objs.size = s.heap.objs.size + 1 := Heap.size_push ..
  show _ ∧ _
  rw [hz]
  have he : IsEnum ((s.heap.push o).push { cls := .type "enumerate", data := .fields #[.none, .bool false, .ref s.heap.objs.size, rawInt 0, .none, .none] }) (s.heap.objs.size + 1) s.heap.objs.size 0 .none := by
    have := Heap.get?_push_size (s.heap.push o) (o := { cls := .type "enumerate", data := .fields #[.none, .bool false, .ref s.heap.objs.size, rawInt 0, .none, .none] }) rfl
    rw [hz] at this; exact this
  refine ⟨⟨_, he, rfl⟩, h _ he (Heap.get?_push_of_some _ (Heap.get?_push_size _ B.free)) (by rw [Heap.size_push, hz]) fun b o x => Heap.get?_push_of_some _ (Heap.get?_push_of_some _ x)⟩
end
def iEnumB (K : PySem.W.Frag) (ta : TA) : TI := fun σ H R => ta σ H fun vs H1 => ∃ a b xs, vs = [.ref a] ∧ SqB K b H1 a xs ∧ R (IteB K b a) H1
theorem pi_enumB {X : Cx} {e : Expr} {ta : TA} {p pos tpos : Pos} {elts : List Expr} {kk : Nat} (hg : Gl X "enumerate") (hm : X.mg "enumerate" = none) (ha : PA X [e] ta) (hs : starEach [e] X.env = [(false, eval e X.env)] := by rfl) :
    PI X (.Tuple elts kk tpos) (.Call (.Name "enumerate" p) [e] [] pos) (iEnumB X.K ta) := by
  refine ⟨fun pins s σ H R I h => ?_⟩
  refine Call_ (ld_blt I hg hm boot_enumerate (PyProof.Rows.callWith_type1 (thn (ha.run pos pins s σ H _ I h) fun us s1 ⟨vs, H1, I1, r1, q1⟩ => ?_) hs rfl))
  obtain ⟨a, b, xs, ex, hq, q⟩ := q1
  subst ex
  cases r1 with
  | cons r rr =>
    cases rr
    cases r
    obtain ⟨its, rv, p', hz⟩ := inv_B I1 hq
    refine enum_begins1 (beginsB b a its.toArray) p' fun h' he hit hsz hk => wpAny_pyIter_enum he ?_
    have I2 : Inv X pins σ H1 { s1 with heap := h' } := I1.kept (t' := s1.toks) hk
    refine ⟨s1.heap.objs.size + 1, [s1.heap.objs.size + 1, s1.heap.objs.size], _, _, H1, rfl, I2, turn_enumB b a (s1.heap.objs.size + 1) s1.heap.objs.size, ⟨⟨.none, he⟩, IterB.new hit, Nat.succ_ne_self _⟩, fun b hb => ?_, q⟩
    have e' : b = s1.heap.objs.size + 1 ∨ b = s1.heap.objs.size := by simpa using hb
    have hle : s1.heap.objs.size ≤ b := by
      rcases e' with z | z
      · rw [z]; exact Nat.le_add_right _ _
      · rw [z]; exact Nat.le_refl _
    exact I1.fpOk hle (I1.hok.fresh hle)
theorem walk_enumB {K : PySem.W.Frag} {b : Bool} {a : Addr} {xs : List V} : Walk (IteB K b a) xs.length (fun H => SqB K b H a xs) (YPair (fun i => some (.int (i : Nat))) (fun i => xs[i]?)) :=
  ⟨fun i H hi h => ⟨xs, xs[i], h, List.getElem?_eq_getElem hi⟩, fun H h => ⟨xs, h, rfl⟩, fun i H x H' hi h y => by
    obtain ⟨T, v, e1, e2, e3, e4⟩ := y
    exact ⟨T, _, v, e1, e2, e3, rfl, e4 xs h⟩⟩

/-! ### zip -/
def ItzB (K : PySem.W.Frag) (b1 b2 : Bool) (a1 a2 : Addr) : It :=
  ⟨fun i H => ∃ (xs ys : List V) (x y : V), SqB K b1 H a1 xs ∧ SqB K b2 H a2 ys ∧ xs[i]? = some x ∧ ys[i]? = some y,
    fun i H v H' => ∃ T x y, v = .ref T ∧ H T = none ∧ H' = upd H T (.tup [x, y]) ∧ (∀ xs, SqB K b1 H a1 xs → xs[i]? = some x) ∧ ∀ ys, SqB K b2 H a2 ys → ys[i]? = some y,
    fun i H => ∃ xs ys : List V, SqB K b1 H a1 xs ∧ SqB K b2 H a2 ys ∧ i = min xs.length ys.length⟩
structure Ap (z TI TO i1 i2 : Addr) : Prop where
  TIz : TI ≠ z
  TOz : TO ≠ z
  TITO : TI ≠ TO
  TIi1 : TI ≠ i1
  zi1 : z ≠ i1
  Ti1 : TO ≠ i1
  TIi2 : TI ≠ i2
  zi2 : z ≠ i2
  Ti2 : TO ≠ i2
  ii : i1 ≠ i2
theorem zipFacts {X : Cx} {pins : List (Addr × Obj)} {H : Hp} {s : Shared} {b1 b2 : Bool} {a1 a2 z TI TO i1 i2 : Addr} {i : Nat} {its1 its2 : List Value} (D : Ap z TI TO i1 i2) (hf : ∀ c ∈ [z, TI, TO, i1, i2], FpOk X pins H c) (hh : X.A.in1.handled = none)
    (hz : IsZip s.heap z TI TO .none) (h1 : IterB b1 s.heap i1 a1 i) (h2 : IterB b2 s.heap i2 a2 i) (p1 : IsB b1 s.heap a1 its1.toArray) (p2 : IsB b2 s.heap a2 its2.toArray) (nTO1 : TO ≠ a1) (nTO2 : TO ≠ a2) :
    WalksT X.prog X.w X.A z (z :: TI :: TO :: ([i1, a1] ++ [i2, a2])) [z, TO, i1, i2] (min its1.toArray.size its2.toArray.size)
      (fun i vals => ∃ x1 x2, its1.toArray[i]? = some x1 ∧ its2.toArray[i]? = some x2 ∧ vals = #[x1, x2])
      (fun i h => IsZip h z TI TO .none ∧ IsTupOf2 h TI (.ref i1) (.ref i2) ∧ (∃ a1 a2, IsTupOf2 h TO a1 a2) ∧ (IterB b1 h i1 a1 i ∧ IsB b1 h a1 its1.toArray) ∧ (IterB b2 h i2 a2 i ∧ IsB b2 h a2 its2.toArray))
      (fun i T h => IsZip h z TI TO (rawInt T) ∧ IsTupOf2 h TI (.ref i1) (.ref i2) ∧ (∃ a1 a2, IsTupOf2 h TO a1 a2) ∧ (IterB b1 h i1 a1 (i + 1) ∧ IsB b1 h a1 its1.toArray) ∧ (IterB b2 h i2 a2 (i + 1) ∧ IsB b2 h a2 its2.toArray) ∧ T ≠ z ∧ T ≠ TO ∧ T ≠ i1 ∧ T ≠ i2) := by
  obtain ⟨o1, n1, g1, d1⟩ := p1.obj
  obtain ⟨o2, n2, g2, d2⟩ := p2.obj
  obtain ⟨oi, vsi, Ti, gi, di, _⟩ := h1.obj
  obtain ⟨oj, vsj, Tj, gj, dj, _⟩ := h2.obj
  have n11 : i1 ≠ a1 := ne_fs gi di g1 d1
  have n12 : i1 ≠ a2 := ne_fs gi di g2 d2
  have n21 : i2 ≠ a1 := ne_fs gj dj g1 d1
  have n22 : i2 ≠ a2 := ne_fs gj dj g2 d2
  have nz1 : z ≠ a1 := ne_fs hz rfl g1 d1
  have nz2 : z ≠ a2 := ne_fs hz rfl g2 d2
  exact WalksT.zipD2 ⟨D.TIz, D.TOz, D.TITO, D.TIi1, by simp, by simp [D.zi1, nz1], by simp [D.Ti1, nTO1], D.TIi2, by simp, by simp [D.zi2, nz2], by simp [D.Ti2, nTO2], by simp [D.ii, n12], by simp [D.ii.symm, n21]⟩
    (drawsB hh b1 i1 a1 n11.symm its1.toArray) (drawsB hh b2 i2 a2 n22.symm its2.toArray)
/-- a new address of ours is none of the walked ones -/
theorem fp_ne {X : Cx} {pins : List (Addr × Obj)} {σ : L2.St} {H : Hp} {s : Shared} {b : Bool} {a c : Addr} {xs : List V} (I : Inv X pins σ H s) (hf : FpOk X pins H c) (hq : SqB X.K b H a xs) (hx : ∀ o, X.K.lookup c ≠ some o) : c ≠ a := fun e => by
  subst e
  cases b with
  | true =>
    rcases hq with (h | ⟨o, h⟩) | ⟨o, its, n, h, _⟩
    · rw [hf.1] at h; cases h
    · rw [hf.1] at h; cases h
    · exact hx o h
  | false =>
    rcases hq with (h | ⟨o, h⟩) | ⟨o, its, n, h, _⟩
    · rw [hf.1] at h; cases h
    · rw [hf.1] at h; cases h
    · exact hx o h
theorem fp_noK {X : Cx} {pins : List (Addr × Obj)} {σ : L2.St} {H : Hp} {s : Shared} {c : Addr} (I : Inv X pins σ H s) (hf : FpOk X pins H c) : ∀ o, X.K.lookup c ≠ some o := fun o e => by
  have hb := I.ok.mod.kin c o e
  rcases hf.2.2.2.1 with z | z
  · exact I.ok.noex c o hb z
  · exact absurd (Nat.lt_of_lt_of_le (Heap.lt_size hb) (Nat.le_trans I.ok.bsz z)) (Nat.lt_irrefl _)
theorem turn_zipB {P : Program} {w : World} {K : PySem.W.Frag} {elts : List Expr} {kk : Nat} {tpos : Pos} (b1 b2 : Bool) {a1 a2 z TI TO i1 i2 : Addr} (D : Ap z TI TO i1 i2) :
    Turn P w K (.Tuple elts kk tpos) (ItzB K b1 b2 a1 a2) [z, TI, TO, i1, i2] z (fun i h => IsZip h z TI TO .none ∧ IsTupOf2 h TI (.ref i1) (.ref i2) ∧ (∃ x y, IsTupOf2 h TO x y) ∧ IterB b1 h i1 a1 i ∧ IterB b2 h i2 a2 i) where
  mem := by simp
  obj := fun i h st c hc => by
    obtain ⟨hz, hTI, ⟨x, y, hTO⟩, h1, h2⟩ := st
    obtain ⟨oi, vsi, Ti, gi, di, _⟩ := h1.obj
    obtain ⟨oj, vsj, Tj, gj, dj, _⟩ := h2.obj
    have e' : c = z ∨ c = TI ∨ c = TO ∨ c = i1 ∨ c = i2 := by simpa using hc
    rcases e' with q | q | q | q | q
    · rw [q]; exact ⟨_, hz, fun v q => nomatch q⟩
    · rw [q]; exact ⟨_, hTI, fun v q => nomatch q⟩
    · rw [q]; exact ⟨_, hTO, fun v q => nomatch q⟩
    · rw [q]; exact ⟨oi, gi, fun v q => by rw [di] at q; cases q⟩
    · rw [q]; exact ⟨oj, gj, fun v q => by rw [dj] at q; cases q⟩
  keep := fun i h h' st k => by
    obtain ⟨hz, hTI, ⟨x, y, hTO⟩, h1, h2⟩ := st
    exact ⟨k z (by simp) _ hz, k TI (by simp) _ hTI, ⟨x, y, k TO (by simp) _ hTO⟩, h1.keep fun o q => k i1 (by simp) o q, h2.keep fun o q => k i2 (by simp) o q⟩
  item := by
    intro X hP hw hK hc i pins s σ H E I hf st hg
    subst hP hw hK
    obtain ⟨hz, hTI, ⟨x0, y0, hTO⟩, h1, h2⟩ := st
    obtain ⟨xs, ys, x, y, hqx, hqy, hx, hy⟩ := hg
    obtain ⟨its1, rv1, p1, hl1⟩ := inv_B I hqx
    obtain ⟨its2, rv2, p2, hl2⟩ := inv_B I hqy
    obtain ⟨u1, hu1, ru1⟩ := rv1.get hx
    obtain ⟨u2, hu2, ru2⟩ := rv2.get hy
    have hh : X.A.in1.handled = none := I.ok.hd hc
    have fTO := hf TO (by simp)
    have W := zipFacts D hf hh hz h1 h2 p1 p2 (fp_ne I fTO hqx (fp_noK I fTO)) (fp_ne I fTO hqy (fp_noK I fTO))
    have hi : i < min its1.toArray.size its2.toArray.size := by
      rw [List.size_toArray, List.size_toArray, ← hl1, ← hl2]
      exact Nat.lt_min.mpr ⟨(List.getElem?_eq_some_iff.mp hx).1, (List.getElem?_eq_some_iff.mp hy).1⟩
    refine W.item i s _ _ hi ⟨hz, hTI, ⟨x0, y0, hTO⟩, ⟨h1, p1⟩, h2, p2⟩ fun T vals h' tk hP hT hTup hMid hk => ?_
    refine ⟨_, rfl, W.go elts kk tpos i T _ _ _ hMid fun h'' hSt hk2 => ?_⟩
    obtain ⟨v1, v2, hv1, hv2, ev⟩ := hP
    have e1 : v1 = u1 := by
      have h2 : its1.toArray[i]? = some u1 := by simpa using hu1
      rw [h2] at hv1
      exact (Option.some.inj hv1).symm
    have e2 : v2 = u2 := by
      have h2 : its2.toArray[i]? = some u2 := by simpa using hu2
      rw [h2] at hv2
      exact (Option.some.inj hv2).symm
    subst e1 e2
    have ap := W.apart i T h' hMid
    obtain ⟨oT, gT, cT, nT, dT⟩ := hTup
    have gT2 := hk2 T oT ap gT
    have sub : ∀ c, c ∉ [z, TI, TO, i1, i2] → c ∉ [z, TO, i1, i2] := fun c hc q => hc (by
      have e' : c = z ∨ c = TO ∨ c = i1 ∨ c = i2 := by simpa using q
      rcases e' with e | e | e | e <;> simp [e])
    have keepAll : ∀ c o, c ∉ [z, TI, TO, i1, i2] → s.heap.get? c = some o → h''.get? c = some o := fun c o hc q => hk2 c o (sub c hc) (hk c o (sub c hc) q)
    have new : ObjOk X.prog X.w (upd H T (.tup [x, y])) h'' T (.tup [x, y]) :=
      ⟨by show 2 ≤ sizeLine; decide, [v1, v2], .cons ru1 (.cons ru2 .nil), ⟨oT, gT2, cT, nT, by rw [dT, ev]⟩⟩
    have I1 : Inv X pins σ (upd H T (.tup [x, y])) { s with heap := h'', toks := tk } := I.turnedNew (ch := [z, TI, TO, i1, i2]) keepAll hf hT new
    obtain ⟨q1, q2, q3, ⟨q4, _⟩, q5, _⟩ := hSt
    refine ⟨.ref T, _, I1, rfl, ⟨T, x, y, rfl, I.hok.fresh hT, rfl, fun l hl => by rw [inv_B_inj I hl hqx]; exact hx, fun l hl => by rw [inv_B_inj I hl hqy]; exact hy⟩, ⟨q1, q2, q3, q4, q5⟩, fun c hcm => ?_⟩
    obtain ⟨oi, vsi, Ti, gi, di, _⟩ := h1.obj
    obtain ⟨oj, vsj, Tj, gj, dj, _⟩ := h2.obj
    have hcl : c < s.heap.objs.size := by
      have e' : c = z ∨ c = TI ∨ c = TO ∨ c = i1 ∨ c = i2 := by simpa using hcm
      rcases e' with q | q | q | q | q
      · rw [q]; exact Heap.lt_size hz
      · rw [q]; exact Heap.lt_size hTI
      · rw [q]; exact Heap.lt_size hTO
      · rw [q]; exact Heap.lt_size gi
      · rw [q]; exact Heap.lt_size gj
    rw [upd_ne (Nat.ne_of_lt (Nat.lt_of_lt_of_le hcl hT))]
    exact (hf c hcm).1
  done := by
    intro X hP hw hK hc i pins s σ H E I hf st hg
    subst hP hw hK
    obtain ⟨hz, hTI, ⟨x0, y0, hTO⟩, h1, h2⟩ := st
    obtain ⟨xs, ys, hqx, hqy, hx⟩ := hg
    obtain ⟨its1, rv1, p1, hl1⟩ := inv_B I hqx
    obtain ⟨its2, rv2, p2, hl2⟩ := inv_B I hqy
    have hh : X.A.in1.handled = none := I.ok.hd hc
    have fTO := hf TO (by simp)
    have W := zipFacts D hf hh hz h1 h2 p1 p2 (fp_ne I fTO hqx (fp_noK I fTO)) (fp_ne I fTO hqy (fp_noK I fTO))
    have hi : min its1.toArray.size its2.toArray.size = i := by
      rw [List.size_toArray, List.size_toArray, ← hl1, ← hl2]
      exact hx.symm
    subst hi
    refine W.done s _ _ ⟨hz, hTI, ⟨x0, y0, hTO⟩, ⟨h1, p1⟩, h2, p2⟩ fun h' tk hk => ⟨rfl, I.turnedL (ch := [z, TI, TO, i1, i2]) (fun c o hc q => hk c o (fun q' => hc ?_) q) hf⟩
    have e' : c = z ∨ c = TO ∨ c = i1 ∨ c = i2 := by simpa using q'
    rcases e' with e | e | e | e <;> simp [e]
  self := fun A i s Q E st h => wpAny_pyIter_zip st.1 h
def iZipB (K : PySem.W.Frag) (ta : TA) : TI := fun σ H R => ta σ H fun vs H1 => ∃ a1 a2 b1 b2 xs ys, vs = [.ref a1, .ref a2] ∧ SqB K b1 H1 a1 xs ∧ SqB K b2 H1 a2 ys ∧ R (ItzB K b1 b2 a1 a2) H1
theorem pi_zipB {X : Cx} {e e2 : Expr} {ta : TA} {p pos tpos : Pos} {elts : List Expr} {kk : Nat} (hg : Gl X "zip") (hm : X.mg "zip" = none) (ha : PA X [e, e2] ta)
    (hs : starEach [e, e2] X.env = (false, eval e X.env) :: starEach [e2] X.env := by rfl) (hpl : (backTo pos (starEach [e2] X.env)).any (·.1) = false := by rfl) :
    PI X (.Tuple elts kk tpos) (.Call (.Name "zip" p) [e, e2] [] pos) (iZipB X.K ta) := by
  refine ⟨fun pins s σ H R I h => ?_⟩
  refine Call_ (ld_blt I hg hm PyProof.Rows.boot_zip (PyProof.Rows.callWith_type1 (thn (ha.run pos pins s σ H _ I h) fun us s1 ⟨vs, H1, I1, r1, q1⟩ => ?_) hs hpl))
  obtain ⟨a1, a2, b1, b2, xs, ys, ex, hqx, hqy, q⟩ := q1
  subst ex
  cases r1 with
  | cons r rr =>
    cases rr with
    | cons r' rr =>
      cases rr
      cases r
      cases r'
      obtain ⟨its1, rv1, p1, hl1⟩ := inv_B I1 hqx
      obtain ⟨its2, rv2, p2, hl2⟩ := inv_B I1 hqy
      refine zip_begins2 (beginsB b1 a1 its1.toArray) (beginsB b2 a2 its2.toArray) p1 p2 fun h' hz hTI hTO h1 h2 hsz hk => wpAny_pyIter_zip hz ?_
      have I2 : Inv X pins σ H1 { s1 with heap := h' } := I1.kept (t' := s1.toks) hk
      have D : Ap (s1.heap.objs.size + 4) (s1.heap.objs.size + 2) (s1.heap.objs.size + 3) s1.heap.objs.size (s1.heap.objs.size + 1) := by
        generalize s1.heap.objs.size = n
        exact ⟨fun e => by have e : n + 2 = n + 4 := e; omega, fun e => by have e : n + 3 = n + 4 := e; omega, fun e => by have e : n + 2 = n + 3 := e; omega, fun e => by have e : n + 2 = n := e; omega, fun e => by have e : n + 4 = n := e; omega, fun e => by have e : n + 3 = n := e; omega, fun e => by have e : n + 2 = n + 1 := e; omega, fun e => by have e : n + 4 = n + 1 := e; omega, fun e => by have e : n + 3 = n + 1 := e; omega, fun e => by have e : n = n + 1 := e; omega⟩
      refine ⟨s1.heap.objs.size + 4, [s1.heap.objs.size + 4, s1.heap.objs.size + 2, s1.heap.objs.size + 3, s1.heap.objs.size, s1.heap.objs.size + 1], _, _, H1, rfl, I2, turn_zipB b1 b2 D, ⟨hz, hTI, ⟨_, _, hTO⟩, IterB.new h1, IterB.new h2⟩, fun c hcm => ?_, q⟩
      have e' : c = s1.heap.objs.size + 4 ∨ c = s1.heap.objs.size + 2 ∨ c = s1.heap.objs.size + 3 ∨ c = s1.heap.objs.size ∨ c = s1.heap.objs.size + 1 := by simpa using hcm
      have hle : s1.heap.objs.size ≤ c := by
        rcases e' with z | z | z | z | z
        · rw [z]; exact Nat.le_add_right _ _
        · rw [z]; exact Nat.le_add_right _ _
        · rw [z]; exact Nat.le_add_right _ _
        · rw [z]; exact Nat.le_refl _
        · rw [z]; exact Nat.le_add_right _ _
      exact I1.fpOk hle (I1.hok.fresh hle)
theorem walk_zipB {K : PySem.W.Frag} {b1 b2 : Bool} {a1 a2 : Addr} {xs ys : List V} {n : Nat} (hn : n = min xs.length ys.length) : Walk (ItzB K b1 b2 a1 a2) n (fun H => SqB K b1 H a1 xs ∧ SqB K b2 H a2 ys) (YPair (fun i => xs[i]?) (fun i => ys[i]?)) :=
  ⟨fun i H hi h => by
    subst hn
    have h1 := (Nat.lt_min.mp hi).1
    have h2 := (Nat.lt_min.mp hi).2
    exact ⟨xs, ys, xs[i], ys[i], h.1, h.2, List.getElem?_eq_getElem h1, List.getElem?_eq_getElem h2⟩, fun H h => ⟨xs, ys, h.1, h.2, hn⟩, fun i H x H' hi h y => by
    obtain ⟨T, v, w, e1, e2, e3, e4, e5⟩ := y
    exact ⟨T, v, w, e1, e2, e3, e4 xs h.1, e5 ys h.2⟩⟩
end TvW

/-! Tv8: targets, what is walked, for, comprehensions -/
namespace Tv
open PySem PySem.Spec PyProof.Rows L2

/-! ### targets -/
def Off (vs : List Nat) (σ σ' : L2.St) : Prop := σ'.length = σ.length ∧ ∀ j, j ∉ vs → σ'[j]? = σ[j]?
theorem wipe_get {σ : L2.St} {i : Nat} : ∀ {vs : List Nat}, (wipe σ vs)[i]? = if i ∈ vs ∧ i < σ.length then some none else σ[i]?
  | [] => by simp [wipe]
  | v :: vs => by
    unfold wipe
    by_cases e : v = i
    · subst e
      by_cases hl : v < σ.length
      · rw [List.getElem?_set_self (by rw [wipe_length]; exact hl), if_pos ⟨List.mem_cons_self, hl⟩]
      · rw [List.getElem?_eq_none (by rw [List.length_set, wipe_length]; omega), if_neg (fun z => hl z.2), List.getElem?_eq_none (by omega)]
    · rw [List.getElem?_set_ne e, wipe_get (vs := vs)]
      have h : (i ∈ v :: vs ∧ i < σ.length) ↔ (i ∈ vs ∧ i < σ.length) := by
        rw [List.mem_cons]
        exact ⟨fun z => ⟨z.1.resolve_left (Ne.symm e), z.2⟩, fun z => ⟨.inr z.1, z.2⟩⟩
      by_cases hc : i ∈ vs ∧ i < σ.length
      · rw [if_pos hc, if_pos (h.mpr hc)]
      · rw [if_neg hc, if_neg (fun z => hc (h.mp z))]
theorem Off.wipe {vs : List Nat} {σ σ' : L2.St} (h : Off vs σ σ') : wipe σ' vs = wipe σ vs := by
  apply List.ext_getElem?
  intro i
  rw [wipe_get, wipe_get, h.1]
  by_cases hi : i ∈ vs
  · by_cases hl : i < σ.length
    · rw [if_pos ⟨hi, hl⟩, if_pos ⟨hi, hl⟩]
    · rw [if_neg (fun z => hl z.2), if_neg (fun z => hl z.2), List.getElem?_eq_none (by rw [h.1]; omega), List.getElem?_eq_none (by omega)]
  · rw [if_neg (fun z => hi z.1), if_neg (fun z => hi z.1), h.2 i hi]
theorem Off.refl {vs : List Nat} {σ : L2.St} : Off vs σ σ := ⟨rfl, fun _ _ => rfl⟩
theorem Off.trans {vs : List Nat} {σ σ1 σ2 : L2.St} (a : Off vs σ σ1) (b : Off vs σ1 σ2) : Off vs σ σ2 := ⟨b.1.trans a.1, fun j h => (b.2 j h).trans (a.2 j h)⟩
theorem Off.mono {vs ws : List Nat} {σ σ1 : L2.St} (a : Off vs σ σ1) (h : ∀ j ∈ vs, j ∈ ws) : Off ws σ σ1 := ⟨a.1, fun j q => a.2 j fun z => q (h j z)⟩
theorem Off.set {i : Nat} {σ : L2.St} {v : Option V} : Off [i] σ (σ.set i v) := ⟨List.length_set .., fun j h => List.getElem?_set_ne fun e => h (by rw [e]; exact List.mem_cons_self)⟩

mutual
inductive Pt where
  | nm (i : Nat) | tp (ps : Pts)
inductive Pts where
  | nil | cons (p : Pt) (ps : Pts)
end
mutual
def Pt.run : Pt → D → List SD → Option (List SD)
  | .nm i => fun d ρ => some (ρ.set i (.v d))
  | .tp ps => fun d ρ => match d with | .tup ds => ps.run ds ρ | _ => none
def Pts.run : Pts → List D → List SD → Option (List SD)
  | .nil => fun ds ρ => match ds with | [] => some ρ | _ => none
  | .cons p q => fun ds ρ => match ds with
    | d :: r => match p.run d ρ with | some ρ' => q.run r ρ' | none => none
    | [] => none
end
mutual
def Pt.vs : Pt → List Nat
  | .nm i => [i]
  | .tp ps => ps.vs
def Pts.vs : Pts → List Nat
  | .nil => []
  | .cons p q => p.vs ++ q.vs
end
def Pts.len : Pts → Nat
  | .nil => 0
  | .cons _ q => q.len + 1
theorem Pts.run_len : ∀ (p : Pts) (ds : List D) (ρ ρ' : List SD), p.run ds ρ = some ρ' → ds.length = p.len
  | .nil, [], _, _, _ => rfl
  | .nil, _ :: _, _, _, h => by
    unfold Pts.run at h
    cases h
  | .cons p q, [], _, _, h => by
    unfold Pts.run at h
    cases h
  | .cons p q, d :: ds, ρ, ρ', h => by
    unfold Pts.run at h
    dsimp only at h
    split at h
    · rw [List.length_cons, Pts.run_len q ds _ _ h]
      rfl
    · cases h
/-- what a target leaves: the other slots, nothing owned that was not -/
structure PmOk (vs : List Nat) (ρ ρ' : List SD) : Prop where
  len : ρ'.length = ρ.length
  off : ∀ j, j ∉ vs → ρ'[j]? = ρ[j]?
  own : ∀ (j : Nat) (d : D), ρ'[j]? = some (.own d) → ρ[j]? = some (.own d)
theorem PmOk.trans {vs ws : List Nat} {a b c : List SD} (h : PmOk vs a b) (g : PmOk ws b c) : PmOk (vs ++ ws) a c :=
  ⟨g.len.trans h.len, fun j n => (g.off j fun z => n (List.mem_append_right _ z)).trans (h.off j fun z => n (List.mem_append_left _ z)), fun j d e => h.own j d (g.own j d e)⟩
mutual
theorem Pt.ok : ∀ (p : Pt) (d : D) (ρ ρ' : List SD), p.run d ρ = some ρ' → PmOk p.vs ρ ρ'
  | .nm i, d, ρ, ρ', h => by
    unfold Pt.run at h
    cases h
    refine ⟨List.length_set .., fun j n => List.getElem?_set_ne fun e => n (by rw [e]; unfold Pt.vs; exact List.mem_cons_self), fun j e h => ?_⟩
    by_cases q : i = j
    · subst q
      by_cases hl : i < ρ.length
      · rw [List.getElem?_set_self hl] at h; cases h
      · rw [List.getElem?_eq_none (by rw [List.length_set]; omega)] at h; cases h
    · rw [List.getElem?_set_ne q] at h
      exact h
  | .tp ps, d, ρ, ρ', h => by
    unfold Pt.run at h
    cases d with
    | tup ds =>
      have := Pts.ok ps ds ρ ρ' h
      unfold Pt.vs
      exact this
    | _ => cases h
theorem Pts.ok : ∀ (p : Pts) (ds : List D) (ρ ρ' : List SD), p.run ds ρ = some ρ' → PmOk p.vs ρ ρ'
  | .nil, [], ρ, ρ', h => by
    unfold Pts.run at h
    cases h
    exact ⟨rfl, fun _ _ => rfl, fun _ _ e => e⟩
  | .nil, _ :: _, _, _, h => by
    unfold Pts.run at h
    cases h
  | .cons p q, [], _, _, h => by
    unfold Pts.run at h
    cases h
  | .cons p q, d :: ds, ρ, ρ', h => by
    unfold Pts.run at h
    dsimp only at h
    split at h
    · rename_i ρ1 e
      have h1 := Pt.ok p d ρ ρ1 e
      have h2 := Pts.ok q ds ρ1 ρ' h
      unfold Pts.vs
      exact h1.trans h2
    · cases h
end
section
variable (K : PySem.W.Frag) (T : Tb)
def tG (pm : Pt) : TG := fun v σ H Q => ∃ B Z cm ρ s d ρ', Rel K T B Z cm σ H ρ s ∧ Rep K T cm (GV cm Z (Ow σ ρ) H) v d ∧ pm.run d ρ = some ρ' ∧
  ∀ σ', Rel K T B Z cm σ' H ρ' s → Sub (GV cm Z (Ow σ ρ) H) (GV cm Z (Ow σ' ρ') H) → Off pm.vs σ σ' → Q σ' H
def tGs (pm : Pts) : TGs := fun xs σ H Q => ∃ B Z cm ρ s ds ρ', Rel K T B Z cm σ H ρ s ∧ Reps K T cm (GV cm Z (Ow σ ρ) H) xs ds ∧ pm.run ds ρ = some ρ' ∧
  ∀ σ', Rel K T B Z cm σ' H ρ' s → Sub (GV cm Z (Ow σ ρ) H) (GV cm Z (Ow σ' ρ') H) → Off pm.vs σ σ' → Q σ' H
end
abbrev QG (X : Cx) (T : Tb) (e : Expr) (pm : Pt) : Prop := PG X e (tG X.K T pm)
abbrev QGs (X : Cx) (T : Tb) (es : List Expr) (pm : Pts) : Prop := PGs X es (tGs X.K T pm)
theorem _root_.L2.PG.conv {X : Cx} {e : Expr} {t t' : TG} (h : PG X e t) (c : ∀ v σ H Q, t' v σ H Q → t v σ H Q) : PG X e t' := ⟨fun pins s σ H v u Q I r w => h.run pins s σ H v u Q I r (c v σ H Q w)⟩
theorem _root_.L2.PGs.conv {X : Cx} {e : List Expr} {t t' : TGs} (h : PGs X e t) (c : ∀ v σ H Q, t' v σ H Q → t v σ H Q) : PGs X e t' := ⟨fun pins s σ H v u Q I r w => h.run pins s σ H v u Q I r (c v σ H Q w)⟩
theorem ow_shrink {σ : L2.St} {ρ : List SD} {i : Nat} {v : V} {d : D} {a : Addr} (h : Ow (σ.set i (some v)) (ρ.set i (.v d)) a) : Ow σ ρ a := by
  obtain ⟨j, e, h1, h2⟩ := h
  rcases set_get h1 with ⟨_, _, z⟩ | ⟨n, z⟩
  · cases z
  · rw [List.getElem?_set_ne (Ne.symm n)] at h2
    exact ⟨j, e, z, h2⟩
theorem sub_shrink {cm : List Addr} {Z O O' : Addr → Prop} {H : Hp} (h : ∀ a, O' a → O a) : Sub (GV cm Z O H) (GV cm Z O' H) := hid_sub fun a u n e => ⟨fun z => by
  rcases z with z | z | z
  · exact n (.inl z)
  · exact n (.inr (.inl z))
  · exact n (.inr (.inr (h a z))), e⟩
section
variable {X : Cx} {T : Tb} {e : Expr} {es : List Expr} {pm : Pt} {pms : Pts} {pos : Pos}
theorem qg_name {i : Nat} {x : Str} (hN : X.N.Nodup) (hi : X.N[i]? = some x := by rfl) (hx : Loc X.env.scope x := by first | exact Or.inl rfl | exact Or.inr rfl) (hf : X.fn x = true ∨ X.env.scope.names.lookup x = some .local := by first | exact .inl rfl | exact .inr rfl | assumption) : QG X T (.Name x pos) (.nm i) :=
  PG.conv (pg_name hN hi hx hf) fun v σ H Q h => by
    obtain ⟨B, Z, cm, ρ, s, d, ρ', r, q, e, k⟩ := h
    unfold Pt.run at e
    cases e
    exact k _ (r.set q) (sub_shrink fun a => ow_shrink) (by unfold Pt.vs; exact Off.set)
theorem qgs_nil : QGs X T [] .nil := PGs.conv pgs_nil fun v σ H Q h => by
  obtain ⟨B, Z, cm, ρ, s, ds, ρ', r, q, e, k⟩ := h
  cases q with
  | nil =>
    unfold Pts.run at e
    cases e
    exact ⟨rfl, k σ r (Sub.refl _) Off.refl⟩
  | cons q1 q2 =>
    unfold Pts.run at e
    cases e
theorem qgs_cons (h1 : QG X T e pm) (h2 : QGs X T es pms) (hs : (assignEach (e :: es) X.env).map (·.2) = assign e X.env :: (assignEach es X.env).map (·.2) := by rfl) : QGs X T (e :: es) (.cons pm pms) := PGs.conv (pgs_cons h1 h2 hs) fun v σ H Q h => by
  obtain ⟨B, Z, cm, ρ, s, ds, ρ', r, q, e, k⟩ := h
  cases q with
  | nil =>
    unfold Pts.run at e
    cases e
  | cons q1 q2 =>
    unfold Pts.run at e
    dsimp only at e
    split at e
    · rename_i ρ1 e1
      refine ⟨_, _, rfl, B, Z, cm, ρ, s, _, ρ1, r, q1, e1, fun σ1 r1 sub1 o1 => ⟨B, Z, cm, ρ1, s, _, ρ', r1, Reps.mono (.refl _) sub1 _ _ q2, e, fun σ2 r2 sub2 o2 => ?_⟩⟩
      unfold Pts.vs at k
      exact k σ2 r2 (sub1.trans sub2) ((o1.mono fun j z => List.mem_append_left _ z).trans (o2.mono fun j z => List.mem_append_right _ z))
    · cases e
theorem qg_tup {k : Nat} (hc : X.calm = true) (h : QGs X T es pms)
    (hn : (assignEach es X.env).length = pms.len := by rfl) (hst : (assignEach es X.env).findIdx? (·.1) = none := by rfl) : QG X T (.Tuple es k pos) (.tp pms) := PG.conv (pg_tup hc h hn hst) fun v σ H Q h => by
  obtain ⟨B, Z, cm, ρ, s, d, ρ', r, q, e, k⟩ := h
  unfold Pt.run at e
  cases q with
  | tup q1 q2 => exact ⟨_, _, rfl, Sub.hidH.seqT q1, by rw [q2.len]; exact pms.run_len _ _ _ e, B, Z, cm, ρ, s, _, ρ', r, q2, e, by unfold Pt.vs at k; exact k⟩
  | _ => cases e
end

/-! ### what is walked -/
/-- what was there is as in G, what is new as in H2 -/
def glue (G H1 H2 : Hp) : Hp := fun a => match H1 a with
  | some _ => G a
  | none => H2 a
def AW (K : PySem.W.Frag) (T : Tb) : AK (List D) It := fun F _ cm H _ J ds => ∃ (G : Hp → Prop) (Y : Nat → Hp → V → Hp → Prop), Walk J ds.length G Y ∧ (∀ H1, Sub (F.G cm H) H1 → G H1) ∧
  ∀ i H1 x H2, i < ds.length → Sub (F.G cm H) H1 → Y i H1 x H2 → Sub H1 H2 ∧ ∃ d, ds[i]? = some d ∧ Rep K T cm (glue (F.G cm H) H1 H2) x d
theorem up_AW {K : PySem.W.Frag} {T : Tb} : Up (AW K T) := fun _ _ _ _ _ _ _ _ _ h => h
abbrev QI (X : Cx) (T : Tb) (W : WX) (tg iter : Expr) (m : LM) : Prop := PI X tg iter (tP X.K T W (AW X.K T) m)
theorem _root_.L2.PI.conv {X : Cx} {tg e : Expr} {t t' : TI} (h : PI X tg e t) (c : ∀ σ H Q, t' σ H Q → t σ H Q) : PI X tg e t' := ⟨fun pins s σ H Q I w => h.run pins s σ H Q I (c σ H Q w)⟩
theorem glue_same {G H1 : Hp} (h : Sub G H1) : Sub G (glue G H1 H1) := fun a o e => by
  unfold glue
  rw [h a o e]
  exact e
/-- the walked list or tuple, a range, a text -/
def mSeqI (m : EM) : LM := fun ρ s => (m ρ s).bind fun x s1 => match x with
  | .tup ds => .ok ds s1
  | .lst ds => .ok ds s1
  | .frz ds => .ok ds s1
  | .str z => .ok (z.cps.toList.map fun c => .str ⟨#[c]⟩) s1
  | _ => .no
section
variable {X : Cx} {T : Tb} {W : WX} {tg e e2 : Expr} {es : List Expr} {m m2 : EM} {lm : LM} {pos p : Pos}
theorem walk_items {K : PySem.W.Frag} {cm : List Addr} {G : Hp} {xs : List V} {ds : List D} (h : Reps K T cm G xs ds) {i : Nat} {H1 : Hp} {x : V} {H2 : Hp} (hs : Sub G H1) (y : YAt xs i H1 x H2) : Sub H1 H2 ∧ ∃ d, ds[i]? = some d ∧ Rep K T cm (glue G H1 H2) x d := by
  obtain ⟨rfl, e⟩ := y
  obtain ⟨d, e1, e2⟩ := h.getV e
  exact ⟨Sub.refl _, d, e1, Rep.mono (.refl _) (glue_same hs) _ _ e2⟩
def iSeqA (K : PySem.W.Frag) (tl : TE) : TI := fun σ H R => tl σ H fun x H1 => (∃ a, x = .ref a ∧ (∃ xs, SqL K H1 a xs) ∧ R (Itl K a) H1) ∨ (∃ a, x = .ref a ∧ (∃ xs, SqT K H1 a xs) ∧ R (Itt K a) H1) ∨ ∃ z, x = .str z ∧ R (Its z) H1
theorem pi_seqA {tl : TE} (hl : PE X e tl) : PI X tg e (iSeqA X.K tl) := by
  refine ⟨fun pins s σ H R I h => ?_⟩
  refine thn (hl.run pins s σ H _ I h) fun v s1 ⟨x, H1, I1, r1, q1⟩ => ?_
  rcases q1 with ⟨a, ex, ⟨xs, hq⟩, q⟩ | ⟨a, ex, ⟨xs, hq⟩, q⟩ | ⟨z, ex, q⟩
  · subst ex
    cases r1
    obtain ⟨its, rv, p, hz⟩ := I1.list hq
    refine wpAny_pyIter_list p.isList ?_
    refine ⟨s1.heap.objs.size, [s1.heap.objs.size], _, _, H1, rfl, I1.kept (t' := s1.toks) fun b o e => Heap.get?_push_of_some _ e, turn_list a _, ⟨_, Heap.get?_push_size _ rfl, rfl, rfl⟩, fun b hb => ?_, q⟩
    have e : b = s1.heap.objs.size := by simpa using hb
    subst e
    exact I1.fpOk (Nat.le_refl _) (I1.hok.fresh (Nat.le_refl _))
  · subst ex
    cases r1
    obtain ⟨its, rv, p, hz⟩ := I1.tuple hq
    refine wpAny_pyIter_tuple (show s1.heap.IsTuple a its.toArray from p) ?_
    refine ⟨s1.heap.objs.size, [s1.heap.objs.size], _, _, H1, rfl, I1.kept (t' := s1.toks) fun b o e => Heap.get?_push_of_some _ e, turn_tuple a _, ⟨_, Heap.get?_push_size _ rfl, rfl, rfl⟩, fun b hb => ?_, q⟩
    have e : b = s1.heap.objs.size := by simpa using hb
    subst e
    exact I1.fpOk (Nat.le_refl _) (I1.hok.fresh (Nat.le_refl _))
  · subst ex
    obtain ⟨t, rfl⟩ := r1
    cases ha : z.cps.all (· < 128)
    · exact wpAny_pyIter_wide ha (pi_one (tk := s1.toks) I1 _ (turn_str _ z t "str_iterator" (.inr rfl)) ⟨_, Heap.get?_push_size _ rfl, rfl, rfl⟩ q)
    · exact wpAny_pyIter_ascii ha (pi_one (tk := s1.toks) I1 _ (turn_str _ z t "str_ascii_iterator" (.inl rfl)) ⟨_, Heap.get?_push_size _ rfl, rfl, rfl⟩ q)
theorem aw_items {K : PySem.W.Frag} {T : Tb} {F : Fm} {cm : List Addr} {H H0 : Hp} {s : S} {J : It} {xs : List V} {ds : List D} (G : Hp → Prop) (w : Walk J xs.length G (YAt xs)) (hG : ∀ H1, Sub (F.G cm H) H1 → G H1) (h : Reps K T cm (F.G cm H) xs ds) : AW K T F H0 cm H s J ds :=
  ⟨G, _, by rw [← h.len]; exact w, hG, fun i H1 x H2 hi sub y => walk_items h sub y⟩
theorem q_iSeq (h : QE X T W e m) : QI X T W tg e (mSeqI m) := PI.conv (pi_seqA h) fun σ H R h => by
  refine h.bind (AR X.K T) up_AW fun B Z cm ρ x H1 ⟨cm1, dx, s1, e1, r1, a1, p1⟩ => ?_
  cases dx with
  | tup ds =>
    cases a1 with
    | tup h1 h2 => exact .inr (.inl ⟨_, rfl, ⟨_, Sub.hidH.seqT h1⟩, p1.fin r1 (aw_items _ walk_tup (fun H1 sb => sb.seqT h1) h2)⟩)
  | lst ds =>
    cases a1 with
    | lst h1 h2 => exact .inl ⟨_, rfl, ⟨_, .of (Sub.hidH _ _ h1)⟩, p1.fin r1 (aw_items _ walk_list (fun H1 sb => .of (sb _ _ h1)) h2)⟩
  | frz ds =>
    cases a1 with
    | frz h1 h2 => exact .inl ⟨_, rfl, ⟨_, Sub.hidH.seqL h1⟩, p1.fin r1 (aw_items _ walk_list (fun H1 sb => sb.seqL h1) h2)⟩
  | str z =>
    cases a1
    refine .inr (.inr ⟨z, rfl, p1.fin r1 ⟨_, _, (by simpa using walk_str (z := z)), fun _ _ => trivial, fun i H1 x H2 hi sub y => ?_⟩⟩)
    obtain ⟨rfl, c, hc, rfl⟩ := y
    exact ⟨Sub.refl _, .str ⟨#[c]⟩, by rw [List.getElem?_map, Array.getElem?_toList, hc]; rfl, .str _⟩
  | _ => exact p1.elim
/-- range -/
def rngOk (i : Int) : Bool := decide (-(2 ^ 62) ≤ i ∧ i < 2 ^ 62)
def rngD (i : Int) (n : Nat) : List D := (List.range n).map fun k => .int (i + (k : Nat))
def mRng1 (lm : LM) : LM := fun ρ s => (lm ρ s).bind fun xs s1 => match xs with
  | [.int j] => if rngOk j then .ok (rngD 0 j.toNat) s1 else .no
  | _ => .no
def mRng2 (lm : LM) : LM := fun ρ s => (lm ρ s).bind fun xs s1 => match xs with
  | [.int i, .int j] => if rngOk i && rngOk j then .ok (rngD i (j - i).toNat) s1 else .no
  | _ => .no
theorem rngOk_of {i : Int} (h : rngOk i = true) : -(2 ^ 62) ≤ i ∧ i < 2 ^ 62 := of_decide_eq_true h
theorem aw_rng {K : PySem.W.Frag} {T : Tb} {F : Fm} {cm : List Addr} {H H0 : Hp} {s : S} {i : Int} {n : Nat} : AW K T F H0 cm H s (Itr i n) (rngD i n) :=
  ⟨_, _, by rw [show (rngD i n).length = n by unfold rngD; simp]; exact walk_range, fun _ _ => trivial, fun k H1 x H2 hk sub y => by
    obtain ⟨rfl, rfl⟩ := y
    refine ⟨Sub.refl _, .int (i + (k : Nat)), ?_, .int _⟩
    have hk' : k < n := by unfold rngD at hk; simpa using hk
    unfold rngD
    simp [hk']⟩
theorem ints1 {K : PySem.W.Frag} {T : Tb} {cm : List Addr} {G : Hp} {xs : List V} {j : Int} (h : Reps K T cm G xs [.int j]) : xs = [.int j] := by
  cases h with
  | cons a b =>
    cases a
    cases b
    rfl
theorem ints2 {K : PySem.W.Frag} {T : Tb} {cm : List Addr} {G : Hp} {xs : List V} {i j : Int} (h : Reps K T cm G xs [.int i, .int j]) : xs = [.int i, .int j] := by
  cases h with
  | cons a b =>
    cases a
    rw [ints1 b]
theorem q_iRng1 (hg : Gl X "range") (hm : X.mg "range" = none) (ha : QS X T W 1 [e] lm) (hs : starEach [e] X.env = [(false, eval e X.env)] := by rfl) : QI X T W tg (.Call (.Name "range" p) [e] [] pos) (mRng1 lm) := PI.conv (pi_range1 hg hm ha hs) fun σ H R h => by
  refine h.bind (ALn X.K T 1) up_AW fun B Z cm ρ x H1 ⟨cm1, dx, s1, e1, r1, a1, p1⟩ => ?_
  dsimp only at p1
  split at p1
  · split at p1
    · rename_i hj
      have b := rngOk_of hj
      exact ⟨_, ints1 a1.1, b.1, b.2, p1.fin r1 aw_rng⟩
    · exact p1.elim
  · exact p1.elim
theorem q_iRng2 (hg : Gl X "range") (hm : X.mg "range" = none) (ha : QS X T W 2 [e, e2] lm) (hs : starEach [e, e2] X.env = [(false, eval e X.env), (false, eval e2 X.env)] := by rfl) (hs2 : starEach [e2] X.env = [(false, eval e2 X.env)] := by rfl) : QI X T W tg (.Call (.Name "range" p) [e, e2] [] pos) (mRng2 lm) := PI.conv (pi_range2 hg hm ha hs hs2) fun σ H R h => by
  refine h.bind (ALn X.K T 2) up_AW fun B Z cm ρ x H1 ⟨cm1, dx, s1, e1, r1, a1, p1⟩ => ?_
  dsimp only at p1
  split at p1
  · split at p1
    · rename_i hj
      rw [Bool.and_eq_true] at hj
      have b := rngOk_of hj.1
      have b' := rngOk_of hj.2
      exact ⟨_, _, ints2 a1.1, ⟨b.1, b.2, b'.1, b'.2⟩, p1.fin r1 aw_rng⟩
    · exact p1.elim
  · exact p1.elim
/-- pairs -/
theorem glue_new {G H1 : Hp} {p : Addr} {o : HO} (h : H1 p = none) : glue G H1 (upd H1 p o) p = some o := by
  unfold glue
  rw [h]
  exact upd_same
theorem glue_sub {G H1 H2 : Hp} (h : Sub G H1) : Sub G (glue G H1 H2) := fun a o e => by
  unfold glue
  rw [h a o e]
  exact e
theorem aw_pairs {K : PySem.W.Frag} {T : Tb} {F : Fm} {cm : List Addr} {H H0 : Hp} {s : S} {J : It} {n : Nat} {fx fy : Nat → Option V} {ds : List D} (G : Hp → Prop) (w : Walk J n G (YPair fx fy)) (hn : ds.length = n) (hG : ∀ H1, Sub (F.G cm H) H1 → G H1)
    (h : ∀ i x y, fx i = some x → fy i = some y → ∃ dx dy, ds[i]? = some (.tup [dx, dy]) ∧ Rep K T cm (F.G cm H) x dx ∧ Rep K T cm (F.G cm H) y dy) : AW K T F H0 cm H s J ds :=
  ⟨G, _, by rw [hn]; exact w, hG, fun i H1 x H2 hi sub y => by
    obtain ⟨p, x, y, rfl, hp, rfl, ex, ey⟩ := y
    obtain ⟨dx, dy, e1, e2, e3⟩ := h i x y ex ey
    refine ⟨sub_upd hp, _, e1, .tup (.inl (.inl (glue_new hp))) (.cons (Rep.mono (.refl _) (glue_sub sub) _ _ e2) (.cons (Rep.mono (.refl _) (glue_sub sub) _ _ e3) .nil))⟩⟩
def seqV : D → Option (List D)
  | .tup ds => some ds | .lst ds => some ds | .frz ds => some ds | _ => none
theorem seqV_rep {K : PySem.W.Frag} {T : Tb} {cm : List Addr} {G : Hp} {v : V} {d : D} {ds : List D} (h : seqV d = some ds) (r : Rep K T cm G v d) : ∃ a b xs, v = .ref a ∧ TvW.SqB K b G a xs ∧ Reps K T cm G xs ds := by
  cases r with
  | tup h1 h2 => cases h; exact ⟨_, true, _, rfl, h1, h2⟩
  | lst h1 h2 => cases h; exact ⟨_, false, _, rfl, .of h1, h2⟩
  | frz h1 h2 => cases h; exact ⟨_, false, _, rfl, h1, h2⟩
  | _ => cases h
theorem Sub.sqB {K : PySem.W.Frag} {G G' : Hp} {a : Addr} {b : Bool} {xs : List V} (e : Sub G G') (h : TvW.SqB K b G a xs) : TvW.SqB K b G' a xs := by
  cases b with
  | true => exact e.seqT h
  | false => exact e.seqL h
def enumD (ds : List D) : List D := ds.mapIdx fun i d => .tup [.int i, d]
def mEnumI (lm : LM) : LM := fun ρ s => (lm ρ s).bind fun xs s1 => match xs with
  | [x] => match seqV x with | some ds => .ok (enumD ds) s1 | none => .no
  | _ => .no
def zipD (xs ys : List D) : List D := List.zipWith (fun a b => .tup [a, b]) xs ys
def mZipI (lm : LM) : LM := fun ρ s => (lm ρ s).bind fun xs s1 => match xs with
  | [x, y] => match seqV x, seqV y with | some ds, some es => .ok (zipD ds es) s1 | _, _ => .no
  | _ => .no
theorem q_iEnum {elts : List Expr} {kk : Nat} {tpos : Pos} (hg : Gl X "enumerate") (hm : X.mg "enumerate" = none) (ha : QS X T W 1 [e] lm) (hs : starEach [e] X.env = [(false, eval e X.env)] := by rfl) :
    QI X T W (.Tuple elts kk tpos) (.Call (.Name "enumerate" p) [e] [] pos) (mEnumI lm) := PI.conv (TvW.pi_enumB hg hm ha hs) fun σ H R h => by
  refine h.bind (ALn X.K T 1) up_AW fun B Z cm ρ x H1 ⟨cm1, dx, s1, e1, r1, a1, p1⟩ => ?_
  dsimp only at p1
  split at p1
  · split at p1
    · rename_i hx
      obtain ⟨a1, _⟩ := a1
      cases a1 with
      | cons a1 t =>
        cases t
        obtain ⟨a, b, xs, rfl, h1, h2⟩ := seqV_rep hx a1
        refine ⟨a, b, xs, rfl, Sub.hidH.sqB h1, p1.fin r1 (aw_pairs _ TvW.walk_enumB (by unfold enumD; rw [List.length_mapIdx, h2.len]) (fun H1 sb => sb.sqB h1) fun i x y ex ey => ?_)⟩
        cases ex
        obtain ⟨d, hd, rd⟩ := h2.getV ey
        exact ⟨.int i, d, by unfold enumD; rw [List.getElem?_mapIdx, hd]; rfl, .int _, rd⟩
    · exact p1.elim
  · exact p1.elim
theorem q_iZip {elts : List Expr} {kk : Nat} {tpos : Pos} (hg : Gl X "zip") (hm : X.mg "zip" = none) (ha : QS X T W 2 [e, e2] lm)
    (hs : starEach [e, e2] X.env = (false, eval e X.env) :: starEach [e2] X.env := by rfl) (hpl : (backTo pos (starEach [e2] X.env)).any (·.1) = false := by rfl) :
    QI X T W (.Tuple elts kk tpos) (.Call (.Name "zip" p) [e, e2] [] pos) (mZipI lm) := PI.conv (TvW.pi_zipB hg hm ha hs hpl) fun σ H R h => by
  refine h.bind (ALn X.K T 2) up_AW fun B Z cm ρ x H1 ⟨cm1, dx, s1, e1, r1, a1, p1⟩ => ?_
  dsimp only at p1
  split at p1
  · split at p1
    · rename_i hx hy
      obtain ⟨a1, _⟩ := a1
      cases a1 with
      | cons a1 t =>
        cases t with
        | cons a2 t =>
          cases t
          obtain ⟨a, b, xs, rfl, h1, h2⟩ := seqV_rep hx a1
          obtain ⟨a', b', ys, rfl, h1', h2'⟩ := seqV_rep hy a2
          refine ⟨a, a', b, b', xs, ys, rfl, Sub.hidH.sqB h1, Sub.hidH.sqB h1', p1.fin r1 (aw_pairs _ (TvW.walk_zipB rfl) (by unfold zipD; rw [List.length_zipWith, h2.len, h2'.len]) (fun H1 sb => ⟨sb.sqB h1, sb.sqB h1'⟩) fun i x y ex ey => ?_)⟩
          obtain ⟨d, hd, rd⟩ := h2.getV ex
          obtain ⟨d', hd', rd'⟩ := h2'.getV ey
          exact ⟨d, d', by unfold zipD; rw [List.getElem?_zipWith, hd, hd'], rd, rd'⟩
    · exact p1.elim
  · exact p1.elim
end
end Tv

/-! Tv9: for and comprehensions -/
namespace Tv
open PySem PySem.Spec PyProof.Rows L2

def joinB (B G : Hp) : Hp := fun a => match B a with
  | some o => some o
  | none => G a
theorem joinB_left {B G : Hp} : Sub B (joinB B G) := fun a o e => by
  unfold joinB
  rw [e]
theorem joinB_some {B G : Hp} {a : Addr} {o : HO} (h : joinB B G a = some o) : B a = some o ∨ G a = some o := by
  unfold joinB at h
  cases e : B a with
  | some u => rw [e] at h; exact .inl h
  | none => rw [e] at h; exact .inr h
theorem joinB_none {B G : Hp} {a : Addr} (h : B a = none) (g : G a = none) : joinB B G a = none := by
  unfold joinB
  rw [h]
  exact g
section
variable {K : PySem.W.Frag} {T : Tb} {B B' : Hp} {Z : Addr → Prop} {cm cm1 : List Addr} {σ : L2.St} {H : Hp} {ρ : List SD} {s : S} {W : WX} {r : SR} {Ed : Ends}
theorem Rel.weak (h : Sub B B') (r : Rel K T B' Z cm σ H ρ s) : Rel K T B Z cm σ H ρ s where
  len := r.len
  val := r.val
  own := fun i d e => by
    obtain ⟨a, h1, h2, h3, h4, h5⟩ := r.own i d e
    refine ⟨a, h1, h2, h3, h4, ?_⟩
    cases q : B a with
    | none => rfl
    | some o => rw [h a o q] at h5; cases h5
  apart := r.apart
  cells := r.cells
  base := fun a o e => r.base a o (h a o e)
theorem Rel.strong {G0 : Hp} (hs : Sub G0 (GV cm Z (Ow σ ρ) H)) (r : Rel K T B Z cm σ H ρ s) : Rel K T (joinB B G0) Z cm σ H ρ s where
  len := r.len
  val := r.val
  own := fun i d e => by
    obtain ⟨a, h1, h2, h3, h4, h5⟩ := r.own i d e
    refine ⟨a, h1, h2, h3, h4, joinB_none h5 ?_⟩
    cases q : G0 a with
    | none => rfl
    | some o => exact absurd (.inr (.inr ⟨i, d, e, h1⟩)) (hid_some.mp (hs a o q)).1
  apart := r.apart
  cells := r.cells
  base := fun a o e => by
    rcases joinB_some e with e | e
    · exact r.base a o e
    · obtain ⟨n, e⟩ := hid_some.mp (hs a o e)
      exact ⟨e, fun z => n (.inl z)⟩
theorem PostS.weak (h : Sub B B') (p : PostS K T B Z cm W r Ed) : PostS K T B' Z cm W r Ed := by
  cases r with
  | nx ρ s => exact fun σ H c q r => p σ H c q (r.weak h)
  | bk ρ s => exact fun σ H c q r => p σ H c q (r.weak h)
  | ct ρ s => exact fun σ H c q r => p σ H c q (r.weak h)
  | rt d s => exact fun v σ H c ρ q r z => p v σ H c ρ q (r.weak h) z
  | er c ds ρ s => exact fun cls dx σ H c q r z => p cls dx σ H c q (r.weak h) z
  | no => exact p
/-- what the walk's items stand on is seen -/
structure Seen (B : Hp) (Z : Addr → Prop) (G0 : Hp) : Prop where
  ag : ∀ a u o, B a = some u → G0 a = some o → u = o
  nz : ∀ a o, G0 a = some o → ¬ Z a
theorem Rel.sees {G0 : Hp} (hc : Seen B Z G0) (r : Rel K T (joinB B G0) Z cm σ H ρ s) : Sub G0 (GV cm Z (Ow σ ρ) H) := fun a o e => by
  have hz : ¬ Z a := hc.nz a o e
  have key : ∃ u, joinB B G0 a = some u := by
    cases q : B a with
    | none => exact ⟨o, by unfold joinB; rw [q]; exact e⟩
    | some u => exact ⟨u, joinB_left a u q⟩
  obtain ⟨u, hu⟩ := key
  have own : ¬ Ow σ ρ a := fun ⟨i, d, h1, h2⟩ => by
    obtain ⟨b, q1, _, _, _, q5⟩ := r.own i d h1
    have e : b = a := by rw [q1] at h2; cases h2; rfl
    rw [e, hu] at q5
    cases q5
  obtain ⟨k1, k2⟩ := r.base a u hu
  refine hid_some.mpr ⟨fun z => ?_, ?_⟩
  · rcases z with z | z | z
    · exact k2 z
    · exact hz z
    · exact own z
  · rcases joinB_some hu with q | q
    · rw [k1, hc.ag a u o q e]
    · rw [k1, ← q, e]
theorem Rel.seen {G0 : Hp} (hs : Sub G0 (GV cm Z (Ow σ ρ) H)) (r : Rel K T B Z cm σ H ρ s) : Seen B Z G0 := ⟨fun a u o h g => by
  have h1 := (r.base a u h).1
  have h2 := (hid_some.mp (hs a o g)).2
  rw [h1] at h2
  cases h2
  rfl, fun a o g z => (hid_some.mp (hs a o g)).1 (.inr (.inl z))⟩
/-- an item of the walk, where it came -/
theorem Rel.item {cm0 : List Addr} {G0 H2 : Hp} {x : V} {d : D} (hp : Pre cm0 cm) (hc : Seen B Z G0) (r : Rel K T (joinB B G0) Z cm σ H ρ s) (sb : Sub H H2) (h : Rep K T cm0 (glue G0 H H2) x d) :
    Rep K T cm (GV cm Z (Ow σ ρ) H2) x d := by
  refine Rep.mono hp (fun a o e => ?_) _ _ h
  unfold glue at e
  cases q : H a with
  | none =>
    rw [q] at e
    exact hid_some.mpr ⟨fun z => r.hidden z q, e⟩
  | some u =>
    rw [q] at e
    obtain ⟨n, e⟩ := hid_some.mp (r.sees hc a o e)
    exact hid_some.mpr ⟨n, sb a o e⟩
end

/-! ### for -/
def loopF (pm : Pt) (b : SM) : List D → SM
  | [] => fun ρ s => .nx ρ s
  | d :: ds => fun ρ s => match pm.run d ρ with
    | some ρ1 => match b ρ1 s with
      | .nx ρ' s' => loopF pm b ds ρ' s'
      | .ct ρ' s' => loopF pm b ds ρ' s'
      | .bk ρ' s' => .nx ρ' s'
      | .rt d s' => .rt d s'
      | .er k e ρ' s' => .er k e ρ' s'
      | .no => .no
    | none => .no
def mFor (mi : LM) (pm : Pt) (b : SM) : SM := fun ρ s => match mi ρ s with
  | .ok ds s1 => loopF pm b ds ρ s1
  | .er k e s1 => .er k e ρ s1
  | .no => .no
section
variable {X : Cx} {T : Tb} {W : WX} {tg iter : Expr} {body : List Stmt} {mi : LM} {pm : Pt} {b : SM} {pos : Pos}
theorem q_for (hp : PassesOwn (model X.prog X.w) X.A X.env X.xe) (hc : X.calm = true) (hi : QI X T W tg iter mi) (hg : QG X T tg pm) (hb : QSs X T W body b) (hs : ∀ x, foldedSetIterable iter X.env x = pure x := by intro _; rfl) : QSt X T W (.For tg iter body [] pos) (mFor mi pm b) := PS.conv (ps_for hp hc hi hg hb hs) fun Ed σ H h => by
  obtain ⟨B, Z, cm, ρ, s, r, p⟩ := h
  refine ⟨B, Z, cm, ρ, s, r, tE_of (fun ds s' e J H' cm' ex r' z => ?_) (fun c ds s' e cls dx H' cm' ex r' z => ?_) (fun e => ?_)⟩
  · unfold mFor at p
    rw [e] at p
    dsimp only at p
    obtain ⟨G, Y, w, hG, hY⟩ := z
    have ag := r'.seen (Sub.refl _)
    refine for_it w (fun i σ1 H1 => ∃ cm1 ρ1 s1, Pre cm' cm1 ∧ Rel X.K T (joinB B (GV cm' Z (Ow σ ρ) H')) Z cm1 σ1 H1 ρ1 s1 ∧ PostS X.K T B Z cm1 W (loopF pm b (ds.drop i) ρ1 s1) Ed) ⟨cm', ρ, s', .refl _, r'.strong (Sub.refl _), p.later ex.pre⟩ (fun i σ1 H1 hi q => ?_) (fun i x σ1 H1 H2 hi q y => ?_) (fun σ1 H1 q => ?_)
    · obtain ⟨cm1, ρ1, s1, q1, q2, q3⟩ := q
      exact hG H1 ((q2.sees ag).trans Sub.hidH)
    · obtain ⟨cm1, ρ1, s1, q1, q2, q3⟩ := q
      obtain ⟨sb, d, hd, rd⟩ := hY i H1 x H2 hi ((q2.sees ag).trans Sub.hidH) y
      have rd' := q2.item q1 ag sb rd
      rw [List.drop_eq_getElem_cons hi] at q3
      have ed : ds[i] = d := by rw [List.getElem?_eq_getElem hi] at hd; exact Option.some.inj hd
      rw [ed] at q3
      unfold loopF at q3
      have r2 : Rel X.K T (joinB B (GV cm' Z (Ow σ ρ) H')) Z cm1 σ1 H2 ρ1 s1 := q2.ext (Ext.grow sb) (q2.cells.grow sb)
      cases epm : pm.run d ρ1 with
      | none => rw [epm] at q3; exact q3.elim
      | some ρ2 =>
        rw [epm] at q3
        dsimp only at q3
        refine ⟨_, Z, cm1, ρ1, s1, d, ρ2, r2, rd', epm, fun σ2 r3 _ _ => ⟨_, Z, cm1, ρ2, s1, r3, ?_⟩⟩
        cases eb : b ρ2 s1 with
        | nx ρ3 s3 => rw [eb] at q3; exact fun σ' H' c q r => ⟨c, ρ3, s3, q1.trans q, r, q3.later q⟩
        | ct ρ3 s3 => rw [eb] at q3; exact fun σ' H' c q r => ⟨c, ρ3, s3, q1.trans q, r, q3.later q⟩
        | bk ρ3 s3 => rw [eb] at q3; exact fun σ' H' c q r => q3 σ' H' c q (r.weak joinB_left)
        | rt d3 s3 => rw [eb] at q3; exact fun v σ' H' c ρ' q r z => q3 v σ' H' c ρ' q (r.weak joinB_left) z
        | er k3 e3 ρ3 s3 => rw [eb] at q3; exact fun cls dx σ' H' c q r z => q3 cls dx σ' H' c q (r.weak joinB_left) z
        | no => rw [eb] at q3; exact q3
    · obtain ⟨cm1, ρ1, s1, q1, q2, q3⟩ := q
      rw [List.drop_length] at q3
      exact q3 σ1 H1 cm1 (.refl _) (q2.weak joinB_left)
  · unfold mFor at p
    rw [e] at p
    exact p cls dx σ H' cm' ex.pre r' z
  · unfold mFor at p
    rw [e] at p
    exact p
end

/-! ### comprehensions -/
def W0 : WX := fun _ _ _ _ => False
def R.ne {α : Type} (r : R α) : R α := match r with
  | .ok a s => .ok a s
  | _ => .no
def wipeR : List SD → List Nat → List SD
  | ρ, [] => ρ
  | ρ, v :: vs => (wipeR ρ vs).set v .un
def unowned (ρ : List SD) (vs : List Nat) : Bool := vs.all fun i => match ρ[i]? with | some (.own _) => false | _ => true
def compF (pm : Pt) (tt : TM) (te : EM) (ρ : List SD) : List D → S → R (List D)
  | [] => fun s => .ok [] s
  | d :: ds => fun s => match pm.run d ρ with
    | some ρ1 => (tt ρ1 s).ne.bind fun k s1 => match k with
      | true => (te ρ1 s1).ne.bind fun y s2 => (compF pm tt te ρ ds s2).bind fun ys s3 => .ok (y :: ys) s3
      | false => compF pm tt te ρ ds s1
    | none => .no
def mComp (vs : List Nat) (mi : LM) (pm : Pt) (tt : TM) (te : EM) : EM := fun ρ s => (mi ρ s).bind fun ds s1 =>
  if unowned ρ vs = true ∧ ds.length ≤ sizeLine then (compF pm tt te (wipeR ρ vs) ds s1).bind fun ys s2 => .ok (.lst ys) s2 else .no
def mYes : TM := fun _ s => .ok true s
abbrev QTs (X : Cx) (T : Tb) (W : WX) (es : List Expr) (m : TM) : Prop := PTs X es (tP X.K T W AT m)
theorem _root_.L2.PTs.conv {X : Cx} {e : List Expr} {t t' : TT} (h : PTs X e t) (c : ∀ σ H Q, t' σ H Q → t σ H Q) : PTs X e t' := ⟨fun pins s σ H Q I w => h.run pins s σ H Q I (c σ H Q w)⟩
theorem qts_nil {X : Cx} {T : Tb} {W : WX} : QTs X T W [] mYes := PTs.conv pts_nil fun σ H Q h => by
  obtain ⟨B, Z, cm, ρ, s, r, p⟩ := h
  exact p.fin (F := ⟨B, Z, σ, ρ⟩) r rfl
theorem qts_one {X : Cx} {T : Tb} {W : WX} {c : Expr} {t : TM} (h : QT X T W c t) : QTs X T W [c] t := pts_one h
theorem wipeR_get {i : Nat} : ∀ {ρ : List SD} {vs : List Nat}, (wipeR ρ vs)[i]? = if i ∈ vs ∧ i < ρ.length then some .un else ρ[i]?
  | ρ, [] => by simp [wipeR]
  | ρ, v :: vs => by
    have hlen : ∀ vs, (wipeR ρ vs).length = ρ.length := fun vs => by
      induction vs with
      | nil => rfl
      | cons a l ih => unfold wipeR; rw [List.length_set]; exact ih
    unfold wipeR
    by_cases e : v = i
    · subst e
      by_cases hl : v < ρ.length
      · rw [List.getElem?_set_self (by rw [hlen]; exact hl), if_pos ⟨List.mem_cons_self, hl⟩]
      · rw [List.getElem?_eq_none (by rw [List.length_set, hlen]; omega), if_neg (fun z => hl z.2), List.getElem?_eq_none (by omega)]
    · rw [List.getElem?_set_ne e, wipeR_get (ρ := ρ) (vs := vs)]
      have h : (i ∈ v :: vs ∧ i < ρ.length) ↔ (i ∈ vs ∧ i < ρ.length) := by
        rw [List.mem_cons]
        exact ⟨fun z => ⟨z.1.resolve_left (Ne.symm e), z.2⟩, fun z => ⟨.inr z.1, z.2⟩⟩
      by_cases hc : i ∈ vs ∧ i < ρ.length
      · rw [if_pos hc, if_pos (h.mpr hc)]
      · rw [if_neg hc, if_neg (fun z => hc (h.mp z))]
theorem wipeR_len {ρ : List SD} : ∀ {vs : List Nat}, (wipeR ρ vs).length = ρ.length
  | [] => rfl
  | _ :: vs => by unfold wipeR; rw [List.length_set]; exact wipeR_len
theorem wipe_wipe {σ : L2.St} {vs : List Nat} : wipe (wipe σ vs) vs = wipe σ vs := by
  apply List.ext_getElem?
  intro i
  rw [wipe_get, wipe_get, wipe_length]
  split <;> rfl
theorem ow_wipe {σ : L2.St} {ρ : List SD} {vs : List Nat} (hu : unowned ρ vs = true) : Ow (wipe σ vs) (wipeR ρ vs) = Ow σ ρ := by
  funext a
  apply propext
  constructor
  · rintro ⟨i, d, h1, h2⟩
    rw [wipeR_get] at h1
    rw [wipe_get] at h2
    by_cases hi : i ∈ vs ∧ i < ρ.length
    · rw [if_pos hi] at h1; cases h1
    · rw [if_neg hi] at h1
      have hl := (List.getElem?_eq_some_iff.mp h1).1
      rw [if_neg (fun z => hi ⟨z.1, hl⟩)] at h2
      exact ⟨i, d, h1, h2⟩
  · rintro ⟨i, d, h1, h2⟩
    have hi : i ∉ vs := fun z => by
      have := List.all_eq_true.mp hu i z
      rw [h1] at this
      cases this
    exact ⟨i, d, by rw [wipeR_get, if_neg (fun z => hi z.1)]; exact h1, by rw [wipe_get, if_neg (fun z => hi z.1)]; exact h2⟩
theorem Rel.wipe {K : PySem.W.Frag} {T : Tb} {B : Hp} {Z : Addr → Prop} {cm : List Addr} {σ : L2.St} {H : Hp} {ρ : List SD} {s : S} {vs : List Nat} (r : Rel K T B Z cm σ H ρ s) (hu : unowned ρ vs = true) : Rel K T B Z cm (L2.wipe σ vs) H (wipeR ρ vs) s where
  len := by rw [wipeR_len, wipe_length]; exact r.len
  val := fun i d h => by
    rw [ow_wipe hu]
    rw [wipeR_get] at h
    by_cases hi : i ∈ vs ∧ i < ρ.length
    · rw [if_pos hi] at h; cases h
    · rw [if_neg hi] at h
      have hl := (List.getElem?_eq_some_iff.mp h).1
      obtain ⟨v, h1, h2⟩ := r.val i d h
      exact ⟨v, by rw [wipe_get, if_neg (fun z => hi ⟨z.1, hl⟩)]; exact h1, h2⟩
  own := fun i d h => by
    rw [ow_wipe hu]
    rw [wipeR_get] at h
    by_cases hi : i ∈ vs ∧ i < ρ.length
    · rw [if_pos hi] at h; cases h
    · rw [if_neg hi] at h
      have hl := (List.getElem?_eq_some_iff.mp h).1
      obtain ⟨v, h1, h2⟩ := r.own i d h
      exact ⟨v, by rw [wipe_get, if_neg (fun z => hi ⟨z.1, hl⟩)]; exact h1, h2⟩
  apart := fun i j d e a h1 h2 h3 h4 => by
    rw [wipeR_get] at h1 h2
    rw [wipe_get] at h3 h4
    by_cases hi : i ∈ vs ∧ i < ρ.length
    · rw [if_pos hi] at h1; cases h1
    · by_cases hj : j ∈ vs ∧ j < ρ.length
      · rw [if_pos hj] at h2; cases h2
      · rw [if_neg hi] at h1
        rw [if_neg hj] at h2
        rw [if_neg (fun z => hi ⟨z.1, (List.getElem?_eq_some_iff.mp h1).1⟩)] at h3
        rw [if_neg (fun z => hj ⟨z.1, (List.getElem?_eq_some_iff.mp h2).1⟩)] at h4
        exact r.apart i j d e a h1 h2 h3 h4
  cells := by rw [ow_wipe hu]; exact r.cells
  base := r.base
theorem unowned_wipeR {ρ : List SD} {vs : List Nat} : unowned (wipeR ρ vs) vs = true := by
  apply List.all_eq_true.mpr
  intro i hi
  rw [wipeR_get]
  by_cases hl : i < ρ.length
  · rw [if_pos ⟨hi, hl⟩]
  · rw [if_neg (fun z => hl z.2), List.getElem?_eq_none (by omega)]
theorem PmOk.wipe {vs us : List Nat} {ρ ρ' : List SD} (h : PmOk us ρ ρ') (hs : ∀ j ∈ us, j ∈ vs) : wipeR ρ' vs = wipeR ρ vs := by
  apply List.ext_getElem?
  intro i
  rw [wipeR_get, wipeR_get, h.len]
  by_cases hi : i ∈ vs
  · by_cases hl : i < ρ.length
    · rw [if_pos ⟨hi, hl⟩, if_pos ⟨hi, hl⟩]
    · rw [if_neg (fun z => hl z.2), if_neg (fun z => hl z.2), List.getElem?_eq_none (by rw [h.len]; omega), List.getElem?_eq_none (by omega)]
  · rw [if_neg (fun z => hi z.1), if_neg (fun z => hi z.1), h.off i fun z => hi (hs i z)]
theorem PmOk.unowned {vs us : List Nat} {ρ ρ' : List SD} (h : PmOk us ρ ρ') (hu : unowned ρ vs = true) : unowned ρ' vs = true := by
  apply List.all_eq_true.mpr
  intro i hi
  split
  · rename_i d e
    have := List.all_eq_true.mp hu i hi
    rw [h.own i d e] at this
    exact this
  · rfl
theorem wipeR_wipeR {ρ : List SD} {vs : List Nat} : wipeR (wipeR ρ vs) vs = wipeR ρ vs := by
  apply List.ext_getElem?
  intro i
  rw [wipeR_get, wipeR_get, wipeR_len]
  split <;> rfl
section
variable {K : PySem.W.Frag} {T : Tb} {B : Hp} {Z : Addr → Prop} {cm : List Addr} {σ : L2.St} {H : Hp} {ρ : List SD} {s : S}
/-- what was hidden beyond is so no more -/
theorem Rel.lessZ {Z' : Addr → Prop} (hz : ∀ a, Z a → Z' a) (r : Rel K T B Z' cm σ H ρ s) : Rel K T B Z cm σ H ρ s := by
  have sub : Sub (GV cm Z' (Ow σ ρ) H) (GV cm Z (Ow σ ρ) H) := hid_sub fun a u n e => ⟨fun z => by
    rcases z with z | z | z
    · exact n (.inl z)
    · exact n (.inr (.inl (hz a z)))
    · exact n (.inr (.inr z)), e⟩
  refine ⟨r.len, fun i d e => ?_, fun i d e => ?_, r.apart, ⟨r.cells.len, r.cells.nd, fun n a d e1 e2 => (r.cells.at_ n a d e1 e2).ext (.refl _) sub fun o z => z, r.cells.there, fun a m => r.cells.zok a (hz a m), r.cells.nosf⟩, r.base⟩
  · obtain ⟨v, h1, h2⟩ := r.val i d e
    exact ⟨v, h1, Rep.mono (.refl _) sub _ _ h2⟩
  · obtain ⟨a, h1, h2, h3, h4, h5⟩ := r.own i d e
    exact ⟨a, h1, h2.ext (.refl _) sub fun o z => z, h3, fun z => h4 (hz a z), h5⟩
/-- a hidden list of ours changed -/
theorem Rel.putZ {p : Addr} {o : HO} (hp : Z p) (hH : H p ≠ none) (hc : p ∉ cm) (hb : B p = none) (r : Rel K T B Z cm σ H ρ s) : Rel K T B Z cm σ (upd H p o) ρ s := by
  have eG : ∀ O, GV cm Z O (upd H p o) = GV cm Z O H := fun O => by
    funext a
    show hid (HidP cm Z O) _ a = hid (HidP cm Z O) _ a
    unfold hid
    by_cases h : HidP cm Z O a
    · rw [if_pos h, if_pos h]
    · rw [if_neg h, if_neg h, upd_ne (fun e => h (.inr (.inl (by rw [e]; exact hp))))]
  have keep : ∀ a u, a ≠ p → H a = some u → upd H p o a = some u := fun a u n e => by rw [upd_ne n]; exact e
  have there : ∀ a, H a ≠ none → upd H p o a ≠ none := fun a h => by
    by_cases e : a = p
    · rw [e, upd_same]; intro z; cases z
    · rw [upd_ne e]; exact h
  refine ⟨r.len, fun i d e => by rw [eG]; exact r.val i d e, fun i d e => ?_, r.apart, ⟨r.cells.len, r.cells.nd, fun n a d e1 e2 => ?_, fun a m => there a (r.cells.there a m), fun a m => there a (r.cells.zok a m), r.cells.nosf⟩, fun a u e => ?_⟩
  · rw [eG]
    obtain ⟨a, h1, h2, h3, h4, h5⟩ := r.own i d e
    exact ⟨a, h1, h2.ext (.refl _) (Sub.refl _) (fun u z => keep a u (fun e => h4 (e ▸ hp)) z), h3, h4, h5⟩
  · rw [eG]
    have hm : a ∈ cm := List.mem_of_getElem? e1
    exact (r.cells.at_ n a d e1 e2).ext (.refl _) (Sub.refl _) fun u z => keep a u (fun e => hc (e ▸ hm)) z
  · obtain ⟨h1, h2⟩ := r.base a u e
    exact ⟨keep a u (fun q => by rw [q, hb] at e; cases e) h1, h2⟩
theorem Ext.put {cm1 : List Addr} {H1 : Hp} {p : Addr} {o : HO} (e : Ext cm H cm1 H1) (h : H p = none) : Ext cm H cm1 (upd H1 p o) :=
  ⟨e.pre, fun a u h1 h2 => ⟨by rw [upd_ne (ne_of_none h1 h)]; exact (e.keep a u h1 h2).1, (e.keep a u h1 h2).2⟩, fun a q => by
    by_cases z : a = p
    · rw [z, upd_same]; intro y; cases y
    · rw [upd_ne z]; exact e.there a q⟩
theorem tComp_of {W : WX} {mi : LM} {pm : Pt} {tt : TM} {te : EM} {vs : List Nat} {Q : VK} (hv : ∀ j ∈ pm.vs, j ∈ vs) (h : tP K T W (AF K T) (mComp vs mi pm tt te) σ H Q) :
    tLc (tP K T W (AW K T) mi) (tG K T pm) (tP K T W0 AT tt) (tP K T W0 (AR K T) te) vs σ H Q := by
  refine h.bind (AW K T) up_AF fun B Z cm0 ρ J H1 ⟨cm1, ds, s1, e1, r1, a1, p1⟩ => ?_
  dsimp only at p1
  split at p1
  · rename_i hok
    obtain ⟨hu, hl⟩ := hok
    intro p hD
    obtain ⟨G, Y, w, hG, hY⟩ := a1
    obtain ⟨p', ds0, xs0, ep, ed, _, hc0, r2, hx0, q0⟩ := rep_lst r1 hD (.nil : Reps K T cm1 _ [] [])
    obtain rfl : p = p' := V.ref.inj ep
    cases ed
    have hx0' : (upd H1 p (.lst [])) p = some (.lst []) := upd_same
    have sub1 : Sub (GV cm1 Z (Ow σ ρ) H1) (GV cm1 (fun a => Z a ∨ a = p) (Ow σ ρ) (upd H1 p (.lst []))) := hid_sub fun a u n e => ⟨fun z => by
      rcases z with z | z | z
      · exact n (.inl z)
      · rcases z with z | z
        · exact n (.inr (.inl z))
        · rw [z, hD] at e; cases e
      · exact n (.inr (.inr z)), sub_upd hD a u e⟩
    have rw0 := r2.wipe hu
    have hs0 : Sub (GV cm1 Z (Ow σ ρ) H1) (GV cm1 (fun a => Z a ∨ a = p) (Ow (L2.wipe σ vs) (wipeR ρ vs)) (upd H1 p (.lst []))) := by
      rw [ow_wipe hu]
      exact sub1
    have sn := rw0.seen hs0
    have hBp : B p = none := by
      cases q : B p with
      | none => rfl
      | some o =>
        have := (r1.base p o q).1
        rw [hD] at this
        cases this
    have hJp : joinB B (GV cm1 Z (Ow σ ρ) H1) p = none := joinB_none hBp (by
      cases q : GV cm1 Z (Ow σ ρ) H1 p with
      | none => rfl
      | some o =>
        have := (hid_some.mp q).2
        rw [hD] at this
        cases this)
    refine lc_it w (fun i H2 => ∃ cm2 s2 acc accD, Pre cm1 cm2 ∧ Ext cm1 H1 cm2 H2 ∧ p ∉ cm2 ∧ Rel K T (joinB B (GV cm1 Z (Ow σ ρ) H1)) (fun a => Z a ∨ a = p) cm2 (L2.wipe σ vs) H2 (wipeR ρ vs) s2 ∧ H2 p = some (.lst acc) ∧
      Reps K T cm2 (GV cm2 (fun a => Z a ∨ a = p) (Ow σ ρ) H2) acc accD ∧ accD.length ≤ i ∧ Post K T ⟨B, Z, σ, ρ⟩ cm1 H1 W (AF K T) ((compF pm tt te (wipeR ρ vs) (ds.drop i) s2).bind fun ys s3 => .ok (.lst (accD ++ ys)) s3) Q)
      ⟨cm1, s1, [], [], .refl _, Ext.grow (sub_upd hD), hc0, rw0.strong hs0, upd_same, .nil, Nat.le_refl _, p1⟩ (fun i H2 hi q => ?_) (fun i x H2 H3 hi q y => ?_) (fun H2 q => ?_)
    · obtain ⟨cm2, s2, acc, accD, q1, q2, q3, q4, q5, q6, q7, q8⟩ := q
      exact hG H2 ((q4.sees sn).trans Sub.hidH)
    · obtain ⟨cm2, s2, acc, accD, q1, q2, q3, q4, q5, q6, q7, q8⟩ := q
      obtain ⟨sb, d, hd, rd⟩ := hY i H2 x H3 hi ((q4.sees sn).trans Sub.hidH) y
      have rd' := q4.item q1 sn sb rd
      rw [List.drop_eq_getElem_cons hi] at q8
      have ed : ds[i] = d := by rw [List.getElem?_eq_getElem hi] at hd; exact Option.some.inj hd
      rw [ed] at q8
      have r3 : Rel K T (joinB B (GV cm1 Z (Ow σ ρ) H1)) (fun a => Z a ∨ a = p) cm2 (L2.wipe σ vs) H3 (wipeR ρ vs) s2 := q4.ext (Ext.grow sb) (q4.cells.grow sb)
      have x3 : Ext cm1 H1 cm2 H3 := q2.trans (Ext.grow sb)
      have hp3 := sb _ _ q5
      have sub23 : Sub (GV cm2 (fun a => Z a ∨ a = p) (Ow σ ρ) H2) (GV cm2 (fun a => Z a ∨ a = p) (Ow σ ρ) H3) := (Ext.grow sb).sub
      have acc3 := Reps.mono (.refl _) sub23 _ _ q6
      cases epm : pm.run d (wipeR ρ vs) with
      | none =>
        unfold compF at q8
        rw [epm] at q8
        exact q8.elim
      | some ρ2 =>
        have ok := pm.ok _ _ _ epm
        unfold compF at q8
        rw [epm] at q8
        dsimp only at q8
        have hlenacc : acc.length < sizeLine := by
          have := q6.len
          omega
        have oeq : ∀ σ2, wipe σ2 vs = wipe σ vs → Ow σ2 ρ2 = Ow σ ρ := fun σ2 e => by
          rw [← ow_wipe (σ := σ2) (ok.unowned unowned_wipeR), e, ok.wipe hv, wipeR_wipeR, ow_wipe hu]
        refine ⟨_, _, cm2, wipeR ρ vs, s2, d, ρ2, r3, rd', epm, fun σ2 r4 _ off => ?_⟩
        have hw : wipe σ2 vs = wipe σ vs := by
          rw [(off.mono hv).wipe, wipe_wipe]
        refine ⟨hw, _, _, cm2, ρ2, s2, r4, tE_of (fun k s4 e b H4 cm4 ex4 r5 z => ?_) (fun c es s' e => ?_) (fun e => ?_)⟩
        · cases z
          rw [e] at q8
          obtain ⟨hp4, hc4⟩ := ex4.keep _ _ hp3 q3
          have x4 : Ext cm1 H1 cm4 H4 := x3.trans ex4
          have acc4 := Reps.mono ex4.pre (ex4.sub (Z := fun a => Z a ∨ a = p) (O := Ow σ ρ)) _ _ acc3
          cases k with
          | false =>
            rw [if_neg Bool.false_ne_true]
            have r6 := r5.wipe (vs := vs) (ok.unowned unowned_wipeR)
            rw [hw, ok.wipe hv, wipeR_wipeR] at r6
            exact ⟨cm4, s4, acc, accD, x4.pre, x4, hc4, r6, hp4, acc4, Nat.le_succ_of_le q7, q8⟩
          | true =>
            rw [if_pos rfl]
            refine ⟨_, _, cm4, ρ2, s4, r5, tE_of (fun dy s5 e2 yv H5 cm5 ex5 r6 z2 => ?_) (fun c es s' e2 => ?_) (fun e2 => ?_)⟩
            · have q8 : Post K T ⟨B, Z, σ, ρ⟩ cm1 H1 W (AF K T) ((((te ρ2 s4).ne.bind fun y s2 => (compF pm tt te (wipeR ρ vs) (ds.drop (i + 1)) s2).bind fun ys s3 => .ok (y :: ys) s3)).bind fun ys s3 => .ok (.lst (accD ++ ys)) s3) Q := q8
              rw [e2] at q8
              obtain ⟨hp5, hc5⟩ := ex5.keep _ _ hp4 hc4
              have x5 : Ext cm1 H1 cm5 H5 := x4.trans ex5
              have acc5 := Reps.mono ex5.pre (ex5.sub (Z := fun a => Z a ∨ a = p) (O := Ow σ ρ)) _ _ acc4
              refine ⟨acc, hp5, hlenacc, ?_⟩
              have r7 := r6.wipe (vs := vs) (ok.unowned unowned_wipeR)
              rw [hw, ok.wipe hv, wipeR_wipeR] at r7
              have z2 : Rep K T cm5 (GV cm5 (fun a => Z a ∨ a = p) (Ow σ2 ρ2) H5) yv dy := z2
              rw [oeq σ2 hw] at z2
              have eG : GV cm5 (fun a => Z a ∨ a = p) (Ow σ ρ) (upd H5 p (.lst (acc ++ [yv]))) = GV cm5 (fun a => Z a ∨ a = p) (Ow σ ρ) H5 := by
                funext a
                show hid (HidP cm5 (fun a => Z a ∨ a = p) (Ow σ ρ)) _ a = hid (HidP cm5 (fun a => Z a ∨ a = p) (Ow σ ρ)) _ a
                unfold hid
                by_cases h : HidP cm5 (fun a => Z a ∨ a = p) (Ow σ ρ) a
                · rw [if_pos h, if_pos h]
                · rw [if_neg h, if_neg h, upd_ne (fun e => h (.inr (.inl (.inr e))))]
              refine ⟨cm5, s5, acc ++ [yv], accD ++ [dy], x5.pre, x5.put hD, hc5, r7.putZ (.inr rfl) (by rw [hp5]; intro z; cases z) hc5 hJp, upd_same, by rw [eG]; exact acc5.app (.cons z2 .nil), by rw [List.length_append]; exact Nat.succ_le_succ q7, ?_⟩
              have e3 : ∀ r : R (List D), ((r.bind fun ys s3 => R.ok (dy :: ys) s3).bind fun ys s3 => R.ok (D.lst (accD ++ ys)) s3) = r.bind fun ys s3 => R.ok (D.lst ((accD ++ [dy]) ++ ys)) s3 := fun r => by
                cases r with
                | ok ys s3 =>
                  show R.ok (D.lst (accD ++ (dy :: ys))) s3 = R.ok (.lst ((accD ++ [dy]) ++ ys)) s3
                  rw [List.append_assoc]
                  rfl
                | er _ _ _ => rfl
                | no => rfl
              rw [← e3]
              exact q8
            · have q8 : Post K T ⟨B, Z, σ, ρ⟩ cm1 H1 W (AF K T) ((((te ρ2 s4).ne.bind fun y s2 => (compF pm tt te (wipeR ρ vs) (ds.drop (i + 1)) s2).bind fun ys s3 => .ok (y :: ys) s3)).bind fun ys s3 => .ok (.lst (accD ++ ys)) s3) Q := q8
              rw [e2] at q8
              exact q8.elim
            · have q8 : Post K T ⟨B, Z, σ, ρ⟩ cm1 H1 W (AF K T) ((((te ρ2 s4).ne.bind fun y s2 => (compF pm tt te (wipeR ρ vs) (ds.drop (i + 1)) s2).bind fun ys s3 => .ok (y :: ys) s3)).bind fun ys s3 => .ok (.lst (accD ++ ys)) s3) Q := q8
              rw [e2] at q8
              exact q8
        · rw [e] at q8
          exact q8.elim
        · rw [e] at q8
          exact q8
    · obtain ⟨cm2, s2, acc, accD, q1, q2, q3, q4, q5, q6, q7, q8⟩ := q
      rw [List.drop_length] at q8
      have q8 : Post K T ⟨B, Z, σ, ρ⟩ cm1 H1 W (AF K T) (.ok (.lst (accD ++ [])) s2) Q := q8
      rw [List.append_nil] at q8
      have sub5 : Sub (GV cm1 Z (Ow σ ρ) H1) (GV cm2 (fun a => Z a ∨ a = p) (Ow σ ρ) H2) := hid_sub fun a u n e => by
        have nc : a ∉ cm1 := fun z => n (.inl z)
        obtain ⟨k1, k2⟩ := q2.keep a u e nc
        refine ⟨fun z => ?_, k1⟩
        rcases z with z | z | z
        · exact k2 z
        · rcases z with z | z
          · exact n (.inr (.inl z))
          · rw [z, hD] at e; cases e
        · exact n (.inr (.inr z))
      have r5 : Rel K T B (fun a => Z a ∨ a = p) cm2 σ H2 ρ s2 := by
        refine ⟨r1.len, fun j e h => ?_, fun j e h => ?_, r1.apart, ?_, fun a o e => q4.base a o (joinB_left a o e)⟩
        · obtain ⟨v, h1, h2⟩ := r1.val j e h
          exact ⟨v, h1, Rep.mono q1 sub5 _ _ h2⟩
        · obtain ⟨a, h1, h2, h3, h4, h5⟩ := r1.own j e h
          have ha : ∃ o, H1 a = some o := by
            cases z : H1 a with
            | none => exact absurd z h2.there
            | some o => exact ⟨o, rfl⟩
          obtain ⟨o, ha⟩ := ha
          refine ⟨a, h1, h2.ext q1 sub5 (fun o z => (q2.keep a o z h3).1), (q2.keep a o ha h3).2, fun z => ?_, h5⟩
          rcases z with z | z
          · exact h4 z
          · rw [z, hD] at ha; cases ha
        · have := q4.cells
          rw [ow_wipe hu] at this
          exact this
      exact q8 _ _ cm2 q2 (r5.lessZ fun a z => .inl z) ⟨p, accD, acc, rfl, rfl, hD, q3, r5, q5, q6⟩
  · exact p1.elim
end
section
variable {X : Cx} {T : Tb} {W : WX} {elt tg iter : Expr} {ifs : List Expr} {scope : Scope} {own : List (Str × Nat)} {vs : List Nat} {pos spos : Pos} {mi : LM} {pm : Pt} {tt : TM} {te : EM}
theorem q_comp (hc : X.calm = true) (hN : X.N.Nodup) (hi : QI X T W tg iter mi) (ok : BlkOk X.N X.env.scope scope own)
    (hg : ∀ (s : Shared) (H : Hp) (C : Addr) (cl : List (Str × Addr)) (fp : List Addr), QG (X.blk s H scope (compEnvC scope cl C X.env) fp) T tg pm) (ht : ∀ (s : Shared) (H : Hp) (C : Addr) (cl : List (Str × Addr)) (fp : List Addr), QTs (X.blk s H scope (compEnvC scope cl C X.env) fp) T W0 ifs tt)
    (he : ∀ (s : Shared) (H : Hp) (C : Addr) (cl : List (Str × Addr)) (fp : List Addr), QE (X.blk s H scope (compEnvC scope cl C X.env) fp) T W0 elt te) (hv : ∀ j ∈ pm.vs, j ∈ vs := by decide) (hvs : own.map (·.2) = vs := by rfl) (hs : ∀ x, foldedSetIterable iter X.env x = pure x := by intro _; rfl) :
    QF X T W (.ListComp elt [⟨tg, iter, ifs, 0⟩] scope pos) (mComp vs mi pm tt te) := by
  subst hvs
  exact PE.conv (pe_lc hc hN hi ok hg ht he hs) fun _ _ _ h => tComp_of hv h
theorem q_setComp {i : Nat} {y : Str} {py : Pos} (hc : X.calm = true) (hN : X.N.Nodup) (hyl : X.env.scope.names.lookup y = some .local)
    (hi : QI X T W tg iter mi) (ok : BlkOk X.N X.env.scope scope own)
    (hg : ∀ (s : Shared) (H : Hp) (C : Addr) (cl : List (Str × Addr)) (fp : List Addr), QG (X.blk s H scope (compEnvC scope cl C X.env) fp) T tg pm) (ht : ∀ (s : Shared) (H : Hp) (C : Addr) (cl : List (Str × Addr)) (fp : List Addr), QTs (X.blk s H scope (compEnvC scope cl C X.env) fp) T W0 ifs tt)
    (he : ∀ (s : Shared) (H : Hp) (C : Addr) (cl : List (Str × Addr)) (fp : List Addr), QE (X.blk s H scope (compEnvC scope cl C X.env) fp) T W0 elt te) (hy : X.N[i]? = some y := by rfl) (hsw : swapsWith (.ListComp elt [⟨tg, iter, ifs, 0⟩] scope pos) (some (.Name y py)) spos.line X.env = pure true := by rfl) (hv : ∀ j ∈ pm.vs, j ∈ vs := by decide) (hvs : own.map (·.2) = vs := by rfl) (hs : ∀ x, foldedSetIterable iter X.env x = pure x := by intro _; rfl) :
    QSt X T W (.Assign [.Name y py] (.ListComp elt [⟨tg, iter, ifs, 0⟩] scope pos) spos) (mSet i (mComp vs mi pm tt te)) := by
  subst hvs
  exact PS.conv (ps_setLc hc hN hy hyl hsw hi ok hg ht he hs) fun Ed σ H h => by
    refine tComp_of hv (mE_of (A := AF X.K T) h fun B Z cm0 s0 cm H' ρ d s v pre r0 r z p => ?_)
    exact p (σ.set i (some v)) H' cm (.refl _) (Rel.set r (z.val r0))
theorem q_setCompO {i : Nat} {y : Str} {py : Pos} (hc : X.calm = true) (hN : X.N.Nodup) (hyl : X.env.scope.names.lookup y = some .local)
    (hi : QI X T W tg iter mi) (ok : BlkOk X.N X.env.scope scope own)
    (hg : ∀ (s : Shared) (H : Hp) (C : Addr) (cl : List (Str × Addr)) (fp : List Addr), QG (X.blk s H scope (compEnvC scope cl C X.env) fp) T tg pm) (ht : ∀ (s : Shared) (H : Hp) (C : Addr) (cl : List (Str × Addr)) (fp : List Addr), QTs (X.blk s H scope (compEnvC scope cl C X.env) fp) T W0 ifs tt)
    (he : ∀ (s : Shared) (H : Hp) (C : Addr) (cl : List (Str × Addr)) (fp : List Addr), QE (X.blk s H scope (compEnvC scope cl C X.env) fp) T W0 elt te) (hy : X.N[i]? = some y := by rfl) (hsw : swapsWith (.ListComp elt [⟨tg, iter, ifs, 0⟩] scope pos) (some (.Name y py)) spos.line X.env = pure true := by rfl) (hv : ∀ j ∈ pm.vs, j ∈ vs := by decide) (hvs : own.map (·.2) = vs := by rfl) (hs : ∀ x, foldedSetIterable iter X.env x = pure x := by intro _; rfl) :
    QSt X T W (.Assign [.Name y py] (.ListComp elt [⟨tg, iter, ifs, 0⟩] scope pos) spos) (mSetO i (mComp vs mi pm tt te)) := by
  subst hvs
  exact PS.conv (ps_setLc hc hN hy hyl hsw hi ok hg ht he hs) fun Ed σ H h => by
    refine tComp_of hv (mE_of (A := AF X.K T) h fun B Z cm0 s0 cm H' ρ d s v pre r0 r z p => ?_)
    split at p
    · rename_i hl
      exact p (σ.set i (some v)) H' cm (.refl _) (Rel.setOwn r0 hl z)
    · exact p.elim
end
end Tv

/-! Tv10: what is owned changes; several names at once -/
namespace Tv
open PySem PySem.Spec PyProof.Rows L2

section
variable {K : PySem.W.Frag} {T : Tb} {B : Hp} {Z : Addr → Prop} {cm : List Addr} {σ : L2.St} {H : Hp} {ρ : List SD} {s : S}
theorem Rel.ownLst {i : Nat} {ds : List D} (r : Rel K T B Z cm σ H ρ s) (h : ρ[i]? = some (.own (.lst ds))) : ∃ a xs, σ[i]? = some (some (.ref a)) ∧ H a = some (.lst xs) ∧ Reps K T cm (GV cm Z (Ow σ ρ) H) xs ds := by
  obtain ⟨a, h1, ⟨xs, h2, h3⟩, _⟩ := r.own i _ h
  exact ⟨a, xs, h1, h2, h3⟩
theorem Rel.putOwn {i : Nat} {ds ds' : List D} {a : Addr} {xs' : List V} (r : Rel K T B Z cm σ H ρ s) (h : ρ[i]? = some (.own (.lst ds))) (ha : σ[i]? = some (some (.ref a))) (q : Reps K T cm (GV cm Z (Ow σ ρ) H) xs' ds') :
    Rel K T B Z cm σ (upd H a (.lst xs')) (ρ.set i (.own (.lst ds'))) s := r.mutOwn h ha ⟨xs', upd_same, q⟩
theorem Rel.putOwn_rep {i : Nat} {ds : List D} {d' : D} {a : Addr} {o : HO} {v : V} {d : D} (r : Rel K T B Z cm σ H ρ s) (h : ρ[i]? = some (.own (.lst ds))) (ha : σ[i]? = some (some (.ref a))) (q : Rep K T cm (GV cm Z (Ow σ ρ) H) v d) :
    Rep K T cm (GV cm Z (Ow σ (ρ.set i (.own d'))) (upd H a o)) v d := by
  rw [GV_mut (.inr (.inr ⟨i, _, h, ha⟩)) (ow_set h)]
  exact q
end

/-! ### methods of an owned list -/
/-- r: the method's reading; g: what it gives and leaves -/
def OMeth (K : PySem.W.Frag) (T : Tb) (r : V → List V → Hp → VK → Prop) (g : List D → List D → Option (D × List D)) : Prop := ∀ (cm : List Addr) (G H : Hp) (a : Addr) (xs : List V) (ds : List D) (vs : List V) (as : List D) (d : D) (ds' : List D) (Q : VK),
  g ds as = some (d, ds') → H a = some (.lst xs) → Reps K T cm G xs ds → Reps K T cm G vs as → Sub G H → (∀ v xs', Rep K T cm G v d → Reps K T cm G xs' ds' → Q v (upd H a (.lst xs'))) → r (.ref a) vs H Q
def oAppend : List D → List D → Option (D × List D) := fun ds as => match as with
  | [d] => if ds.length < sizeLine then some (.non, ds ++ [d]) else none
  | _ => none
theorem om_append {K : PySem.W.Frag} {T : Tb} : OMeth K T rAppend oAppend := by
  intro cm G H a xs ds vs as d ds' Q hg ha rx rv sub q
  unfold oAppend at hg
  split at hg
  · split at hg
    · cases hg
      cases rv with
      | cons rv t =>
        cases t
        exact ⟨a, xs, _, rfl, rfl, ha, by rw [rx.len]; assumption, q _ _ .non (rx.app (.cons rv .nil))⟩
    · cases hg
  · cases hg
def oPop : List D → List D → Option (D × List D) := fun ds as => match as with
  | [] => match ds[ds.length - 1]? with | some d => some (d, ds.dropLast) | none => none
  | _ => none
theorem om_pop {K : PySem.W.Frag} {T : Tb} : OMeth K T rPop oPop := by
  intro cm G H a xs ds vs as d ds' Q hg ha rx rv sub q
  unfold oPop at hg
  split at hg
  · split at hg
    · rename_i e
      cases hg
      cases rv
      rw [← rx.len] at e
      obtain ⟨v, h1, h2⟩ := rx.get e
      exact ⟨a, xs, v, rfl, rfl, ha, h1, q _ _ h2 rx.dropLast⟩
    · cases hg
  · cases hg
def oInsert : List D → List D → Option (D × List D) := fun ds as => match as with
  | [.int i, d] => if ds.length < sizeLine ∧ 0 ≤ i ∧ i < 2 ^ 63 then some (.non, ds.take i.toNat ++ [d] ++ ds.drop i.toNat) else none
  | _ => none
def rInsert : V → List V → Hp → VK → Prop := fun x vs H Q => ∃ (l : Addr) (xs : List V) (i : Int) (y : V), x = .ref l ∧ vs = [.int i, y] ∧ H l = some (.lst xs) ∧ xs.length < sizeLine ∧ 0 ≤ i ∧ i < 2 ^ 63 ∧
    Q .non (upd H l (.lst (xs.take i.toNat ++ [y] ++ xs.drop i.toNat)))
theorem om_insert {K : PySem.W.Frag} {T : Tb} : OMeth K T rInsert oInsert := by
  intro cm G H a xs ds vs as d ds' Q hg ha rx rv sub q
  unfold oInsert at hg
  split at hg
  · split at hg
    · rename_i hc
      cases hg
      cases rv with
      | cons r1 t =>
        cases r1
        cases t with
        | cons r2 t =>
          cases t
          exact ⟨a, xs, _, _, rfl, rfl, ha, by rw [rx.len]; exact hc.1, hc.2.1, hc.2.2, q _ _ .non (((rx.take _).app (.cons r2 .nil)).app (rx.drop _))⟩
    · cases hg
  · cases hg
/-- extend by a list (another one) -/
def oExtend : List D → List D → Option (D × List D) := fun ds as => match as with
  | [.lst es] => if ds.length + es.length ≤ sizeLine then some (.non, ds ++ es) else none
  | _ => none
theorem om_extend {K : PySem.W.Frag} {T : Tb} : OMeth K T rExtend oExtend := by
  intro cm G H a xs ds vs as d ds' Q hg ha rx rv sub q
  unfold oExtend at hg
  split at hg
  · split at hg
    · cases hg
      cases rv with
      | cons r1 t =>
        cases t
        cases r1 with
        | lst h1 h2 =>
          exact ⟨a, _, xs, _, rfl, rfl, ha, sub _ _ h1, by rw [rx.len, h2.len]; assumption, q _ _ .non (rx.app h2)⟩
    · cases hg
  · cases hg
/-- the owned list of slot i -/
def ownL (i : Nat) (ρ : List SD) : Option (List D) := match ρ[i]? with
  | some (.own (.lst ds)) => some ds
  | _ => none
theorem ownL_some {i : Nat} {ρ : List SD} {ds : List D} (h : ownL i ρ = some ds) : ρ[i]? = some (.own (.lst ds)) := by
  unfold ownL at h
  split at h
  · cases h
    assumption
  · cases h
def mMethS (i : Nat) (g : List D → List D → Option (D × List D)) (lm : LM) : SM := fun ρ s => match ownL i ρ with
  | some ds => match lm ρ s with
    | .ok as s1 => match g ds as with
      | some (_, ds') => .nx (ρ.set i (.own (.lst ds'))) s1
      | none => .no
    | .er c ds s1 => .er c ds ρ s1
    | .no => .no
  | none => .no
section
variable {X : Cx} {T : Tb} {W : WX} {st : Stmt} {e : Expr} {es : List Expr} {m : EM} {lm : LM} {pos cpos apos p : Pos} {i n : Nat} {x name : Str} {id : String} {r : V → List V → Hp → VK → Prop} {g : List D → List D → Option (D × List D)}
theorem q_meth (pa : PlainAttrs "list") (slot : Slot "list" name id) (hty : typeOf (.builtin id) = pure (.type "method_descriptor")) (hm : MtR X id r) (og : OMeth X.K T r g) (hN : X.N[i]? = some x := by rfl) (hv : Vis X.env.scope x := by first | exact Or.inl rfl | exact Or.inr (Or.inl rfl) | exact Or.inr (Or.inr rfl)) (ha : QS X T W n (e :: es) lm)
    (hd : (x == ("__debug__" : Str)) = false := by decide) (hcd : (x == ("__classdict__" : Str)) = false := by decide)
    (hbase : attributeBase (.Name x p) name X.env (eval (.Name x p) X.env) = eval (.Name x p) X.env := by rfl)
    (hfew : ((backTo cpos (starEach (e :: es) X.env)).all (fun x => !x.1) && (backToKw cpos (keywordEach [] X.env)).all (fun x => x.1.isSome)
      && decide ((e :: es).length + ([] : List Keyword).length + (if ([] : List Keyword).isEmpty then 0 else 1) < 30)) = true := by rfl)
    (hline : (apos.endLine == cpos.line) = true := by rfl) (hs : starEach (e :: es) X.env = (false, eval e X.env) :: starEach es X.env := by rfl) (hplain : (backTo cpos (starEach es X.env)).any (·.1) = false := by rfl)
    (hsw : swapsWith (.Call (.Attribute (.Name x p) name apos) (e :: es) [] cpos) none pos.line X.env = pure false := by rfl) : QSt X T W (.Expr (.Call (.Attribute (.Name x p) name apos) (e :: es) [] cpos) pos) (mMethS i g lm) := by
  have h0 : PS X (.Expr (.Call (.Attribute (.Name x p) name apos) (e :: es) [] cpos) pos) _ := ps_expr (pe_bm pa slot hty hm (pe_var hN hv hd hcd) ha hbase hfew hline hs hplain) hsw
  refine ⟨fun pins s σ H Ed I h => ?_⟩
  refine h0.run pins s σ H Ed I ?_
  obtain ⟨B, Z, cm, ρ, s0, rr, p⟩ := h
  unfold mMethS at p
  cases e0 : ownL i ρ with
  | none => rw [e0] at p; exact p.elim
  | some ds =>
    rw [e0] at p
    have e0 := ownL_some e0
    obtain ⟨a, xs, h1, h2, h3⟩ := rr.ownLst e0
    refine ⟨_, h1, .inl ⟨rfl, xs, .of h2⟩, B, Z, cm, ρ, s0, rr, tE_of (fun as s' e b H' cm' ex r' z => ?_) (fun c es s' e cls dx H' cm' ex r' z => ?_) (fun e => ?_)⟩
    · dsimp only at p
      rw [e] at p
      dsimp only at p
      split at p
      · rename_i d ds' eg
        obtain ⟨a', xs', k1, k2, k3⟩ := r'.ownLst e0
        have ea : a' = a := by rw [h1] at k1; cases k1; rfl
        subst ea
        exact og cm' _ H' a' xs' ds b as d ds' _ eg k2 k3 z.1 Sub.hidH fun v xs2 _ q2 => p σ _ cm' ex.pre (r'.putOwn e0 k1 q2)
      · exact p.elim
    · dsimp only at p
      rw [e] at p
      exact p cls dx σ H' cm' ex.pre r' z
    · dsimp only at p
      rw [e] at p
      exact p
theorem q_meth0 (pa : PlainAttrs "list") (slot : Slot "list" name id) (hty : typeOf (.builtin id) = pure (.type "method_descriptor")) (hm : MtR X id r) (og : OMeth X.K T r g) (hN : X.N[i]? = some x := by rfl) (hv : Vis X.env.scope x := by first | exact Or.inl rfl | exact Or.inr (Or.inl rfl) | exact Or.inr (Or.inr rfl))
    (hd : (x == ("__debug__" : Str)) = false := by decide) (hcd : (x == ("__classdict__" : Str)) = false := by decide)
    (hbase : attributeBase (.Name x p) name X.env (eval (.Name x p) X.env) = eval (.Name x p) X.env := by rfl)
    (hline : (apos.endLine == cpos.line) = true := by rfl)
    (hsw : swapsWith (.Call (.Attribute (.Name x p) name apos) [] [] cpos) none pos.line X.env = pure false := by rfl) : QSt X T W (.Expr (.Call (.Attribute (.Name x p) name apos) [] [] cpos) pos) (mMethS i g mNil) := by
  have h0 : PS X (.Expr (.Call (.Attribute (.Name x p) name apos) [] [] cpos) pos) _ := ps_expr (pe_bm0 pa slot hty hm (pe_var hN hv hd hcd) hbase hline) hsw
  refine ⟨fun pins s σ H Ed I h => ?_⟩
  refine h0.run pins s σ H Ed I ?_
  obtain ⟨B, Z, cm, ρ, s0, rr, p⟩ := h
  unfold mMethS at p
  cases e0 : ownL i ρ with
  | none => rw [e0] at p; exact p.elim
  | some ds =>
    rw [e0] at p
    have e0 := ownL_some e0
    obtain ⟨a, xs, h1, h2, h3⟩ := rr.ownLst e0
    unfold mNil at p
    dsimp only at p
    split at p
    · rename_i d ds' eg
      exact ⟨_, h1, .inl ⟨rfl, xs, .of h2⟩, og cm _ H a xs ds [] [] d ds' _ eg h2 h3 .nil Sub.hidH fun v xs2 _ q2 => p σ _ cm (.refl _) (rr.putOwn e0 h1 q2)⟩
    · exact p.elim
end

/-! ### x[i] = e, of an owned list or a cell -/
def setIx (i : Nat) (k : Int) (d : D) (ρ : List SD) (s : S) : SR := match ρ[i]? with
  | some (.own (.lst ds)) => match ixN ds.length k with
    | some j => .nx (ρ.set i (.own (.lst (ds.set j d)))) s
    | none => .no
  | some (.v (.cell n)) => match s[n]? with
    | some (.lst ds) => match ixN ds.length k with
      | some j => .nx ρ (s.set n (.lst (ds.set j d)))
      | none => .no
    | _ => .no
  | _ => .no
def baseOk (i : Nat) (ρ : List SD) : Bool := match ρ[i]? with
  | some (.own _) => true
  | some (.v (.cell _)) => true
  | _ => false
def mSetIx (i : Nat) (mi m : EM) : SM := mE m fun d ρ s => match baseOk i ρ with
  | true => mE mi (fun k ρ s => match k with
    | .int k => setIx i k d ρ s
    | _ => .no) ρ s
  | false => .no
theorem Rel.baseOk {K : PySem.W.Frag} {T : Tb} {B : Hp} {Z : Addr → Prop} {cm : List Addr} {σ : L2.St} {H : Hp} {ρ : List SD} {s : S} {i : Nat} (r : Rel K T B Z cm σ H ρ s) (h : Tv.baseOk i ρ = true) : ∃ a, σ[i]? = some (some (.ref a)) := by
  unfold Tv.baseOk at h
  split at h
  · rename_i e
    obtain ⟨a, h1, _⟩ := r.own i _ e
    exact ⟨a, h1⟩
  · rename_i n e
    obtain ⟨v, h1, h2⟩ := r.val i _ e
    cases h2
    exact ⟨_, h1⟩
  · cases h
section
variable {X : Cx} {T : Tb} {W : WX} {e ix : Expr} {m mi : EM} {pos p p1 : Pos} {i : Nat} {x : Str}
theorem q_setIx (he : QE X T W e m) (hi : QE X T W ix mi) (hN : X.N[i]? = some x := by rfl) (hv : Vis X.env.scope x := by first | exact Or.inl rfl | exact Or.inr (Or.inl rfl) | exact Or.inr (Or.inr rfl))
    (hd : (x == ("__debug__" : Str)) = false := by decide) (hcd : (x == ("__classdict__" : Str)) = false := by decide)
    (ha : ∀ v, assign (.Subscript (.Name x p) ix p1) X.env v = (do
      let ov ← holding [v] (eval (.Name x p) X.env)
      let iv ← holding [v, ov] (eval ix X.env)
      standAt p1
      holding [v, ov, iv] (setItem ov iv v)
      release [v, ov, iv] []) := by intro _; rfl)
    (hs : swapsWithSole [.Subscript (.Name x p) ix p1] e pos.line X.env = pure false := by rfl) (hw : swappedStores [.Subscript (.Name x p) ix p1] e X.env = pure none := by rfl)
    (h1 : (assignEach [.Subscript (.Name x p) ix p1] X.env).map (·.2) = [assign (.Subscript (.Name x p) ix p1) X.env] := by rfl) : QSt X T W (.Assign [.Subscript (.Name x p) ix p1] e pos) (mSetIx i mi m) := by
  have h0 := ps_asg (pos := pos) he (pg_sub (pe_var (i := i) hN hv hd hcd) hi set_list ha) hs hw h1
  refine h0.conv fun Ed σ H h => ?_
  refine mE_of (A := AR X.K T) h fun B Z cm0 s0 cm H' ρ d s v pre r0 r z p => ?_
  cases eb : baseOk i ρ with
  | false => rw [eb] at p; exact p.elim
  | true =>
    rw [eb] at p
    dsimp only at p
    obtain ⟨a, ha⟩ := r.baseOk eb
    refine ⟨_, ha, B, Z, cm, ρ, s, r, tE_of (fun k s' e b H2 cm2 ex r' z2 => ?_) (fun c es s' e cls dx H2 cm2 ex r' z2 => ?_) (fun e => ?_)⟩
    · unfold mE at p
      rw [e] at p
      dsimp only at p
      split at p
      · rename_i k
        cases z2
        have z' : Rep X.K T cm2 (GV cm2 Z (Ow σ ρ) H2) v d := Rep.mono ex.pre ex.sub _ _ z
        unfold setIx at p
        split at p
        · rename_i ds e0
          split at p
          · rename_i j ej
            obtain ⟨a', xs, h1, h2, h3⟩ := r'.ownLst e0
            have ea : a' = a := by rw [ha] at h1; cases h1; rfl
            subst ea
            exact ⟨a', xs, k, j, rfl, rfl, h2, by rw [h3.len]; exact ej, p σ _ cm2 ex.pre (r'.putOwn e0 h1 (Reps.set z' j h3))⟩
          · exact p.elim
        · rename_i n e0
          split at p
          · rename_i ds es
            split at p
            · rename_i j ej
              obtain ⟨w, h1, h2⟩ := r'.val i _ e0
              rw [ha] at h1
              cases h1
              cases h2 with
              | cell hc =>
                obtain ⟨xs, k1, k2⟩ := r'.cells.at_ n a _ hc es
                exact ⟨a, xs, k, j, rfl, rfl, k1, by rw [k2.len]; exact ej, p σ _ cm2 ex.pre (r'.mutCell hc ⟨xs.set j v, upd_same, Reps.set z' j k2⟩)⟩
            · exact p.elim
          · exact p.elim
        · exact p.elim
      · exact p.elim
    · unfold mE at p
      rw [e] at p
      exact p cls dx σ H2 cm2 ex.pre r' z2
    · unfold mE at p
      rw [e] at p
      exact p
end

/-! ### a new cell, x += e, targets -/
def mCell (i : Nat) (m : EM) : SM := mE m fun d ρ s => .nx (ρ.set i (.v (.cell s.length))) (s ++ [d])
def mAug (i : Nat) (g : Int → Int → Int) (m : EM) : SM := fun ρ s => match ρ[i]? with
  | some (.v (.int a)) => mE m (fun d ρ s => match d with
    | .int b => .nx (ρ.set i (.v (.int (g a b)))) s
    | _ => .no) ρ s
  | _ => .no
def mPt (pt : Pt) (m : EM) : SM := mE m fun d ρ s => match pt.run d ρ with
  | some ρ' => .nx ρ' s
  | none => .no
section
variable {X : Cx} {T : Tb} {W : WX} {e tg : Expr} {m : EM} {pos pos' : Pos} {i : Nat} {x : Str} {g : Int → Int → Int} {pt : Pt}
theorem q_cell (hN : X.N.Nodup) (hi : X.N[i]? = some x := by rfl) (hx : Loc X.env.scope x := by first | exact Or.inl rfl | exact Or.inr rfl) (he : QF X T W e m) (hs : swapsWith e (some (.Name x pos')) pos.line X.env = pure false := by rfl) (hf : X.fn x = true ∨ X.env.scope.names.lookup x = some .local := by first | exact .inl rfl | exact .inr rfl | assumption) :
    QSt X T W (.Assign [.Name x pos'] e pos) (mCell i m) := PS.conv (ps_set hN hi hx he hs hf) fun D σ H h =>
  mE_of (A := AF X.K T) h fun B Z cm0 s0 cm H' ρ d s v pre r0 r z p => by
    obtain ⟨q, rfl, r2⟩ := Rel.newCell r0 z
    have len : cm.length = s.length := r.cells.len
    exact p (σ.set i (some (.ref q))) H' (cm ++ [q]) ⟨[q], rfl⟩ (Rel.set r2 (.cell (by rw [← len]; simp)))
theorem q_aug {op : Operator} (hN : X.N.Nodup) (ho : PIp X op (ipI g)) (he : QE X T W e m) (hi : X.N[i]? = some x := by rfl) (hx : Loc X.env.scope x := by first | exact Or.inl rfl | exact Or.inr rfl) (hf : X.fn x = true ∨ X.env.scope.names.lookup x = some .local := by first | exact .inl rfl | exact .inr rfl | assumption) :
    QSt X T W (.AugAssign (.Name x pos') op e pos) (mAug i g m) := PS.conv (ps_aug hN hi hx he ho hf) fun Ed σ H h => by
  obtain ⟨B, Z, cm, ρ, s, r, p⟩ := h
  unfold mAug at p
  split at p
  · rename_i a e0
    obtain ⟨v, h1, h2⟩ := r.val i _ e0
    cases h2
    refine ⟨_, h1, mE_of (A := AR X.K T) ⟨B, Z, cm, ρ, s, r, p⟩ fun B Z cm0 s0 cm H' ρ d s v pre r0 r z p => ?_⟩
    split at p
    · cases z
      exact ⟨_, _, rfl, rfl, p _ H' cm (.refl _) (r.set (.int _))⟩
    · exact p.elim
  · exact p.elim
theorem q_pt (he : QE X T W e m) (hg : QG X T tg pt) (hs : swapsWithSole [tg] e pos.line X.env = pure false := by rfl) (hw : swappedStores [tg] e X.env = pure none := by rfl)
    (h1 : (assignEach [tg] X.env).map (·.2) = [assign tg X.env] := by rfl) : QSt X T W (.Assign [tg] e pos) (mPt pt m) := PS.conv (ps_asg he hg hs hw h1) fun Ed σ H h =>
  mE_of (A := AR X.K T) h fun B Z cm0 s0 cm H' ρ d s v pre r0 r z p => by
    split at p
    · rename_i ρ' e0
      exact ⟨B, Z, cm, ρ, s, d, ρ', r, z, e0, fun σ' r' _ _ => p σ' H' cm (.refl _) r'⟩
    · exact p.elim
end
end Tv

/-! Tv11: several names at once, some of them with new lists; fields -/
namespace Tv
open PySem PySem.Spec PyProof.Rows L2

inductive MixR (K : PySem.W.Frag) (T : Tb) (cm : List Addr) (G H : Hp) : List Bool → List V → List D → List Addr → Prop
  | nil : MixR K T cm G H [] [] [] []
  | val {v : V} {d : D} {ms : List Bool} {vs : List V} {ds : List D} {ps : List Addr} : Rep K T cm G v d → MixR K T cm G H ms vs ds ps → MixR K T cm G H (false :: ms) (v :: vs) (d :: ds) ps
  | own {p : Addr} {xs : List V} {es : List D} {ms : List Bool} {vs : List V} {ds : List D} {ps : List Addr} : H p = some (.lst xs) → Reps K T cm G xs es → MixR K T cm G H ms vs ds ps → MixR K T cm G H (true :: ms) (.ref p :: vs) (.lst es :: ds) (p :: ps)
theorem MixR.mono {K : PySem.W.Frag} {T : Tb} {cm cm' : List Addr} {G G' H H' : Hp} (hc : Pre cm cm') (hg : Sub G G') : ∀ {ms : List Bool} {vs : List V} {ds : List D} {ps : List Addr}, (∀ p ∈ ps, ∀ o, H p = some o → H' p = some o) → MixR K T cm G H ms vs ds ps → MixR K T cm' G' H' ms vs ds ps
  | _, _, _, _, _, .nil => .nil
  | _, _, _, _, h, .val r t => .val (Rep.mono hc hg _ _ r) (MixR.mono hc hg h t)
  | _, _, _, _, h, .own e r t => .own (h _ List.mem_cons_self _ e) (Reps.mono hc hg _ _ r) (MixR.mono hc hg (fun p hp => h p (List.mem_cons_of_mem _ hp)) t)
def AX (K : PySem.W.Frag) (T : Tb) (ms : List Bool) : AK (List D) (List V) := fun F H0 cm H s vs ds => ∃ ps : List Addr, (∀ p ∈ ps, H0 p = none ∧ p ∉ cm) ∧ ps.Nodup ∧ Rel K T F.B (fun a => F.Z a ∨ a ∈ ps) cm F.σ H F.ρ s ∧
  MixR K T cm (GV cm (fun a => F.Z a ∨ a ∈ ps) F.O H) H ms vs ds ps
theorem up_AX {K : PySem.W.Frag} {T : Tb} {ms : List Bool} : Up (AX K T ms) := fun _ _ _ _ _ _ _ _ h z => by
  obtain ⟨ps, h1, h2⟩ := z
  exact ⟨ps, fun p hp => ⟨none_of_there h (h1 p hp).1, (h1 p hp).2⟩, h2⟩
theorem ErrRep.mono {K : PySem.W.Frag} {T : Tb} {cm cm' : List Addr} {G G' H H' : Hp} {cls : Value} {d : Option Addr} {c : Nat} {ds : List D} (h : ErrRep K T cm G H cls d c ds) (hc : Pre cm cm') (hg : Sub G G') (hh : ∀ a o, H a = some (.xd o) → H' a = some (.xd o)) : ErrRep K T cm' G' H' cls d c ds := by
  obtain ⟨h1, h2⟩ := h
  refine ⟨h1, ?_⟩
  rcases h2 with h2 | ⟨dx, gs, h2, h3, h4, h5⟩
  · exact .inl h2
  · exact .inr ⟨dx, gs, h2, hh _ _ h3, h4, Reps.mono hc hg _ _ h5⟩
abbrev QX (X : Cx) (T : Tb) (W : WX) (ms : List Bool) (es : List Expr) (m : LM) : Prop := PA X es (tP X.K T W (AX X.K T ms) m)
theorem or_nil {Z : Addr → Prop} : (fun a => Z a ∨ a ∈ ([] : List Addr)) = Z := by
  funext a
  simp
section
variable {X : Cx} {T : Tb} {W : WX} {ms : List Bool} {e : Expr} {es : List Expr} {m : EM} {lm : LM} {pos : Pos}
theorem qx_nil : QX X T W [] [] mNil := PA.conv pa_nil fun σ H Q h => by
  obtain ⟨B, Z, cm, ρ, s, r, p⟩ := h
  refine p.fin (F := ⟨B, Z, σ, ρ⟩) r ⟨[], (fun _ h => nomatch h), List.nodup_nil, ?_, .nil⟩
  show Rel X.K T B (fun a => Z a ∨ a ∈ ([] : List Addr)) cm σ H ρ s
  rw [or_nil]
  exact r
theorem qx_val (ha : QE X T W e m) (hr : QX X T W ms es lm) (hs : starEach (e :: es) X.env = (false, eval e X.env) :: starEach es X.env := by rfl) : QX X T W (false :: ms) (e :: es) (mCons m lm) := PA.conv (pa_cons ha hr hs) fun σ H Q h => by
  refine h.bind (AR X.K T) up_AX fun B Z cm ρ x H1 ⟨cm1, dx, s1, e1, r1, a1, p1⟩ => ?_
  refine ⟨B, Z, cm1, ρ, s1, r1, tE_of (fun ys s' e y H2 cm2 e2 r3 z => ?_) (fun c es s' e cls dx H2 cm2 e2 r3 z => ?_) (fun e => ?_)⟩
  · dsimp only at p1
    rw [e] at p1
    obtain ⟨ps, k1, k2, k3, k4⟩ := z
    refine p1 _ H2 cm2 e2 r3 ⟨ps, k1, k2, k3, .val (Rep.mono e2.pre (hid_sub fun a o n e => ?_) _ _ a1) k4⟩
    have nc : a ∉ cm1 := fun z => n (.inl z)
    obtain ⟨q1, q2⟩ := e2.keep a o e nc
    refine ⟨fun z => ?_, q1⟩
    rcases z with z | z | z
    · exact q2 z
    · rcases z with z | z
      · exact n (.inr (.inl z))
      · rw [(k1 a z).1] at e; cases e
    · exact n (.inr (.inr z))
  · dsimp only at p1
    rw [e] at p1
    exact p1 cls dx H2 cm2 e2 r3 z
  · dsimp only at p1
    rw [e] at p1
    exact p1
theorem qx_own (ha : QF X T W e m) (hr : QX X T W ms es lm) (hs : starEach (e :: es) X.env = (false, eval e X.env) :: starEach es X.env := by rfl) : QX X T W (true :: ms) (e :: es) (mCons m lm) := PA.conv (pa_cons ha hr hs) fun σ H Q h => by
  obtain ⟨B, Z, cm, ρ, s, r, P⟩ := h
  refine ⟨B, Z, cm, ρ, s, r, tE_of (fun d s1 em b H1 cm1 e1 r1 a1 => ?_) (fun c es s' e cls dx H2 cm2 e2 r3 z => ?_) (fun e => ?_)⟩
  case refine_2 =>
    unfold mCons at P
    rw [e] at P
    exact P cls dx H2 cm2 e2 r3 z
  case refine_3 =>
    unfold mCons at P
    rw [e] at P
    exact P
  unfold mCons at P
  rw [em] at P
  have p1 : Post X.K T ⟨B, Z, σ, ρ⟩ cm H W (AX X.K T (true :: ms)) ((lm ρ s1).bind fun xs s2 => .ok (d :: xs) s2) Q := P
  obtain ⟨p, ds, xs, rfl, rfl, hp, hc, r2, hx, q⟩ := a1
  have lessG : ∀ cm2 H2, Sub (GV cm2 (fun a => Z a ∨ a = p) (Ow σ ρ) H2) (GV cm2 Z (Ow σ ρ) H2) := fun cm2 H2 => hid_sub fun a o n e => ⟨fun z => by
    rcases z with z | z | z
    · exact n (.inl z)
    · exact n (.inr (.inl (.inl z)))
    · exact n (.inr (.inr z)), e⟩
  refine ⟨B, (fun a => Z a ∨ a = p), cm1, ρ, s1, r2, tE_of (fun ys s' e y H2 cm2 e2 r3 z => ?_) (fun c es s' e cls dx H2 cm2 e2 r3 z => ?_) (fun e => ?_)⟩
  · rw [e] at p1
    have p1 : Post X.K T ⟨B, Z, σ, ρ⟩ cm H W (AX X.K T (true :: ms)) (.ok (.lst ds :: ys) s') Q := p1
    obtain ⟨ps, k1, k2, k3, k4⟩ := z
    obtain ⟨hx2, hc2⟩ := e2.keep p _ hx hc
    have npp : p ∉ ps := fun z => by
      have := (k1 p z).1
      rw [hx] at this
      cases this
    have eZ : (fun a => Z a ∨ a ∈ p :: ps) = (fun a => (Z a ∨ a = p) ∨ a ∈ ps) := by
      funext a
      apply propext
      rw [List.mem_cons]
      constructor
      · rintro (h | h | h)
        · exact .inl (.inl h)
        · exact .inl (.inr h)
        · exact .inr h
      · rintro ((h | h) | h)
        · exact .inl h
        · exact .inr (.inl h)
        · exact .inr (.inr h)
    have sub2 : Sub (GV cm1 (fun a => Z a ∨ a = p) (Ow σ ρ) H1) (GV cm2 (fun a => (Z a ∨ a = p) ∨ a ∈ ps) (Ow σ ρ) H2) := hid_sub fun a o n e => by
      have nc : a ∉ cm1 := fun z => n (.inl z)
      obtain ⟨q1, q2⟩ := e2.keep a o e nc
      refine ⟨fun z => ?_, q1⟩
      rcases z with z | z | z
      · exact q2 z
      · rcases z with z | z
        · exact n (.inr (.inl z))
        · have := (k1 a z).1
          rw [this] at e; cases e
      · exact n (.inr (.inr z))
    have k3' : Rel X.K T B (fun a => Z a ∨ a ∈ p :: ps) cm2 σ H2 ρ s' := by rw [eZ]; exact k3
    have k4' : MixR X.K T cm2 (GV cm2 (fun a => Z a ∨ a ∈ p :: ps) (Ow σ ρ) H2) H2 (true :: ms) (.ref p :: y) (.lst ds :: ys) (p :: ps) := by rw [eZ]; exact .own hx2 (Reps.mono e2.pre sub2 _ _ q) k4
    refine p1 _ H2 cm2 (e1.trans e2) (r3.lessZ fun a z => .inl z) ⟨p :: ps, fun a ha => ?_, List.nodup_cons.mpr ⟨npp, k2⟩, k3', k4'⟩
    rcases List.mem_cons.mp ha with z | z
    · rw [z]
      exact ⟨hp, hc2⟩
    · exact ⟨none_of_there e1.there (k1 a z).1, (k1 a z).2⟩
  · rw [e] at p1
    exact p1 cls dx H2 cm2 (e1.trans e2) (r3.lessZ fun a z => .inl z) (z.mono (.refl _) (lessG _ _) fun _ _ h => h)
  · rw [e] at p1
    exact p1
end
/-- a hidden new list to a slot of its own -/
theorem Rel.setOwnZ {K : PySem.W.Frag} {T : Tb} {B : Hp} {Z : Addr → Prop} {cm : List Addr} {σ : L2.St} {H : Hp} {ρ : List SD} {s : S} {i : Nat} {p : Addr} {ds : List D} {xs : List V} (r : Rel K T B (fun a => Z a ∨ a = p) cm σ H ρ s) (hi : i < ρ.length) (nZ : ¬ Z p) (hc : p ∉ cm) (hB : B p = none)
    (hx : H p = some (.lst xs)) (q : Reps K T cm (GV cm (fun a => Z a ∨ a = p) (Ow σ ρ) H) xs ds) : Rel K T B Z cm (σ.set i (some (.ref p))) H (ρ.set i (.own (.lst ds))) s ∧ Sub (GV cm (fun a => Z a ∨ a = p) (Ow σ ρ) H) (GV cm Z (Ow (σ.set i (some (.ref p))) (ρ.set i (.own (.lst ds)))) H) := by
  have hiσ : i < σ.length := by rw [← r.len]; exact hi
  have sub : Sub (GV cm (fun a => Z a ∨ a = p) (Ow σ ρ) H) (GV cm Z (Ow (σ.set i (some (.ref p))) (ρ.set i (.own (.lst ds)))) H) := hid_sub fun a u n e => ⟨fun z => by
    rcases z with z | z | ⟨j, e, q1, q2⟩
    · exact n (.inl z)
    · exact n (.inr (.inl (.inl z)))
    · rcases set_get q1 with ⟨rfl, _, z⟩ | ⟨nj, z⟩
      · rw [List.getElem?_set_self hiσ] at q2
        cases q2
        exact n (.inr (.inl (.inr rfl)))
      · rw [List.getElem?_set_ne (Ne.symm nj)] at q2
        exact n (.inr (.inr ⟨j, e, z, q2⟩)), e⟩
  refine ⟨?_, sub⟩
  refine ⟨by rw [List.length_set, List.length_set]; exact r.len, fun j e h => ?_, fun j e h => ?_, fun j k e f a h1 h2 h3 h4 => ?_,
    ⟨r.cells.len, r.cells.nd, fun n a d e1 e2 => (r.cells.at_ n a d e1 e2).ext (.refl _) sub fun o z => z, r.cells.there, fun a m => r.cells.zok a (.inl m), r.cells.nosf⟩, r.base⟩
  · rcases set_get h with ⟨_, _, z⟩ | ⟨n, z⟩
    · cases z
    · obtain ⟨w, h1, h2⟩ := r.val j e z
      refine ⟨w, ?_, Rep.mono (.refl _) sub _ _ h2⟩
      rw [List.getElem?_set_ne (Ne.symm n)]
      exact h1
  · rcases set_get h with ⟨rfl, hl, z⟩ | ⟨n, z⟩
    · cases z
      refine ⟨p, ?_, ⟨xs, hx, Reps.mono (.refl _) sub _ _ q⟩, hc, nZ, ?_⟩
      · rw [List.getElem?_set_self hiσ]
      · exact hB
    · obtain ⟨a, h1, h2, h3, h4, h5⟩ := r.own j e z
      refine ⟨a, ?_, h2.ext (.refl _) sub fun o z => z, h3, fun q => h4 (.inl q), h5⟩
      rw [List.getElem?_set_ne (Ne.symm n)]
      exact h1
  · have key : ∀ (j : Nat) (e : D), (ρ.set i (.own (.lst ds)))[j]? = some (.own e) → (σ.set i (some (.ref p)))[j]? = some (some (V.ref a)) → (j = i ∧ a = p) ∨ (j ≠ i ∧ ρ[j]? = some (.own e) ∧ σ[j]? = some (some (.ref a)) ∧ a ≠ p) := fun j e q1 q2 => by
      rcases set_get q1 with ⟨rfl, _, z⟩ | ⟨nj, z⟩
      · rw [List.getElem?_set_self hiσ] at q2
        cases q2
        exact .inl ⟨rfl, rfl⟩
      · rw [List.getElem?_set_ne (Ne.symm nj)] at q2
        obtain ⟨b, h1, _, _, h4, _⟩ := r.own j e z
        rw [q2] at h1
        cases h1
        exact .inr ⟨nj, z, q2, fun e => h4 (.inr e)⟩
    rcases key j e h1 h3 with ⟨e1, e2⟩ | ⟨n1, z1, z2, z3⟩
    · rcases key k f h2 h4 with ⟨e3, e4⟩ | ⟨n2, y1, y2, y3⟩
      · rw [e1, e3]
      · exact absurd e2 y3
    · rcases key k f h2 h4 with ⟨e3, e4⟩ | ⟨n2, y1, y2, y3⟩
      · exact absurd e4 z3
      · exact r.apart j k e f a z1 y1 z2 y2

def setM : List Nat → List Bool → List D → List SD → Option (List SD)
  | [], [], [], ρ => some ρ
  | i :: is, m :: ms, d :: ds, ρ => if i < ρ.length then setM is ms ds (ρ.set i (match m with | true => .own d | false => .v d)) else none
  | _, _, _, _ => none
def setV : List Nat → List V → L2.St → L2.St
  | i :: is, v :: vs, σ => setV is vs (σ.set i (some v))
  | _, _, σ => σ
theorem Rel.setM {K : PySem.W.Frag} {T : Tb} {B : Hp} {Z : Addr → Prop} {cm : List Addr} {H : Hp} {s : S} {G : Hp} : ∀ (is : List Nat) {ms : List Bool} {ds : List D} {vs : List V} {ps : List Addr} {σ : L2.St} {ρ ρ' : List SD},
    Rel K T B (fun a => Z a ∨ a ∈ ps) cm σ H ρ s → MixR K T cm G H ms vs ds ps → Sub G (GV cm (fun a => Z a ∨ a ∈ ps) (Ow σ ρ) H) → ps.Nodup → (∀ p ∈ ps, p ∉ cm ∧ ¬ Z p ∧ B p = none) → Tv.setM is ms ds ρ = some ρ' → Rel K T B Z cm (setV is vs σ) H ρ' s
  | [], ms, ds, vs, ps, σ, ρ, ρ', r, m, hs, nd, hp, h => by
    cases m with
    | nil =>
      unfold Tv.setM at h
      cases h
      rw [or_nil] at r
      exact r
    | val _ _ => unfold Tv.setM at h; cases h
    | own _ _ _ => unfold Tv.setM at h; cases h
  | i :: is, ms, ds, vs, ps, σ, ρ, ρ', r, m, hs, nd, hp, h => by
    cases m with
    | nil => unfold Tv.setM at h; cases h
    | val q t =>
      unfold Tv.setM at h
      split at h
      · rename_i hl
        exact Rel.setM is (r.set (Rep.mono (.refl _) hs _ _ q)) t (hs.trans (sub_shrink fun a => ow_shrink)) nd hp h
      · cases h
    | @own p xs es ms vs ds ps e q t =>
      unfold Tv.setM at h
      split at h
      · rename_i hl
        have eZ : (fun a => Z a ∨ a ∈ p :: ps) = (fun a => (Z a ∨ a ∈ ps) ∨ a = p) := by
          funext a
          apply propext
          rw [List.mem_cons]
          constructor
          · rintro (h | h | h)
            · exact .inl (.inl h)
            · exact .inr h
            · exact .inl (.inr h)
          · rintro ((h | h) | h)
            · exact .inl h
            · exact .inr (.inr h)
            · exact .inr (.inl h)
        rw [eZ] at r hs
        obtain ⟨nd1, nd2⟩ := List.nodup_cons.mp nd
        obtain ⟨h1, h2, h3⟩ := hp p List.mem_cons_self
        obtain ⟨r', sub⟩ := Rel.setOwnZ (Z := fun a => Z a ∨ a ∈ ps) r hl (fun z => z.elim h2 nd1) h1 h3 e (Reps.mono (.refl _) hs _ _ q)
        exact Rel.setM is r' t (hs.trans sub) nd2 (fun a ha => hp a (List.mem_cons_of_mem _ ha)) h
      · cases h
def mPar (is : List Nat) (ms : List Bool) (lm : LM) : SM := fun ρ s => match lm ρ s with
  | .ok ds s1 => match setM is ms ds ρ with
    | some ρ' => .nx ρ' s1
    | none => .no
  | .er c ds s1 => .er c ds ρ s1
  | .no => .no
section
variable {X : Cx} {T : Tb} {W : WX} {ms : List Bool} {lm : LM} {a b c : Expr} {px py pz pt pos : Pos} {kt k2 pt2} {x y z : Str} {i j l : Nat}
theorem mPar_of {is : List Nat} {D0 : Ends} {σ : L2.St} {H : Hp} {Q : List V → Hp → Prop} (h : tS X.K T W (mPar is ms lm) D0 σ H)
    (q : ∀ vs H', vs.length = ms.length → D0.nx (setV is vs σ) H' → Q vs H') : tP X.K T W (AX X.K T ms) lm σ H Q := by
  obtain ⟨B, Z, cm, ρ, s, r, p⟩ := h
  refine ⟨B, Z, cm, ρ, s, r, tE_of (fun ds s' e vs H' cm' ex r' w => ?_) (fun c ds s' e cls dx H' cm' ex r' w => ?_) (fun e => ?_)⟩
  · unfold mPar at p
    rw [e] at p
    dsimp only at p
    split at p
    · rename_i ρ' e0
      obtain ⟨ps, k1, k2, k3, k4⟩ := w
      have lm : ∀ {ms : List Bool} {vs : List V} {ds : List D} {ps : List Addr} {G : Hp}, MixR X.K T cm' G H' ms vs ds ps → vs.length = ms.length := fun m => by
        induction m with
        | nil => rfl
        | val _ _ ih => rw [List.length_cons, List.length_cons, ih]
        | own _ _ _ ih => rw [List.length_cons, List.length_cons, ih]
      refine q vs H' (lm k4) (p _ H' cm' ex.pre (Rel.setM is k3 k4 (Sub.refl _) k2 (fun a ha => ⟨(k1 a ha).2, fun z => r.cells.zok a z (k1 a ha).1, ?_⟩) e0))
      cases hb : B a with
      | none => rfl
      | some o =>
        have := (r.base a o hb).1
        rw [(k1 a ha).1] at this
        cases this
    · exact p.elim
  · unfold mPar at p
    rw [e] at p
    exact p cls dx σ H' cm' ex.pre r' w
  · unfold mPar at p
    rw [e] at p
    exact p
theorem q_par {m1 m2 : Bool} (hc : X.calm = true) (hN : X.N.Nodup) (ha : QX X T W [m1, m2] [a, b] lm) (hi : X.N[i]? = some x := by rfl) (hj : X.N[j]? = some y := by rfl) (hij : i ≠ j := by decide)
    (hx : X.env.scope.names.lookup x = some .local := by rfl) (hy : X.env.scope.names.lookup y = some .local := by rfl)
    (hw : swappedStores [.Tuple [.Name x px, .Name y py] kt pt] (.Tuple [a, b] k2 pt2) X.env = pure (some [x, y]) := by rfl)
    (hs : swapsWithSole [.Tuple [.Name x px, .Name y py] kt pt] (.Tuple [a, b] k2 pt2) pos.line X.env = pure false := by rfl) :
    QSt X T W (.Assign [.Tuple [.Name x px, .Name y py] kt pt] (.Tuple [a, b] k2 pt2) pos) (mPar [i, j] [m1, m2] lm) :=
  PS.conv (ps_par hc hN hi hj hij hx hy ha hw hs) fun Ed σ H h => mPar_of h fun vs H' hl q => by
    match vs, hl with
    | [v, w], _ => exact ⟨v, w, rfl, q⟩
theorem q_par3 {m1 m2 m3 : Bool} (hc : X.calm = true) (hN : X.N.Nodup) (ha : QX X T W [m1, m2, m3] [a, b, c] lm) (hi : X.N[i]? = some x := by rfl) (hj : X.N[j]? = some y := by rfl) (hl : X.N[l]? = some z := by rfl) (hij : i ≠ j := by decide) (hil : i ≠ l := by decide) (hjl : j ≠ l := by decide)
    (hx : X.env.scope.names.lookup x = some .local := by rfl) (hy : X.env.scope.names.lookup y = some .local := by rfl) (hz : X.env.scope.names.lookup z = some .local := by rfl)
    (hw : swappedStores [.Tuple [.Name x px, .Name y py, .Name z pz] kt pt] (.Tuple [a, b, c] k2 pt2) X.env = pure (some [x, y, z]) := by rfl)
    (hs : swapsWithSole [.Tuple [.Name x px, .Name y py, .Name z pz] kt pt] (.Tuple [a, b, c] k2 pt2) pos.line X.env = pure false := by rfl) :
    QSt X T W (.Assign [.Tuple [.Name x px, .Name y py, .Name z pz] kt pt] (.Tuple [a, b, c] k2 pt2) pos) (mPar [i, j, l] [m1, m2, m3] lm) :=
  PS.conv (ps_par3 hc hN hi hj hl hij hil hjl hx hy hz ha hw hs) fun Ed σ H h => mPar_of h fun vs H' hl q => by
    match vs, hl with
    | [u, v, w], _ => exact ⟨u, v, w, rfl, q⟩
end
end Tv

/-! Tv12: defs and their calls -/
namespace Tv
open PySem PySem.Spec PyProof.Rows L2

abbrev O0 : Addr → Prop := fun _ => False
section
variable (K : PySem.W.Frag) (T : Tb)
/-- what a call is to give | r: what the callee reckons -/
def PostF (Z : Addr → Prop) (cm : List Addr) (H : Hp) (r : R D) (Q : VK) (E : XK) : Prop := match r with
  | .ok d s' => ∀ v H' cm', Ext cm H cm' H' → Cells K T Z O0 cm' H' s' → Rep K T cm' (GV cm' Z O0 H') v d → Q v H'
  | .er c ds s' => ∀ cls dx H' cm', Ext cm H cm' H' → Cells K T Z O0 cm' H' s' → ErrRep K T cm' (GV cm' Z O0 H') H' cls dx c ds → E cls dx H'
  | .no => False
def spD (n : Nat) (F : FM) : Sp := fun vs H Q E => vs.length = n ∧ ∃ cm Z ds s, Cells K T Z O0 cm H s ∧ Reps K T cm (GV cm Z O0 H) vs ds ∧ PostF K T Z cm H (F ds s) Q E
end
def mFun (e : Nat) (m : SM) : FM := fun ds s => match m (ds.map .v ++ List.replicate e .un) s with
  | .nx _ s' => .ok .non s'
  | .rt d s' => .ok d s'
  | .er c es _ s' => .er c es s'
  | _ => .no
section
variable {K : PySem.W.Frag} {T : Tb} {Z O : Addr → Prop} {cm cm1 : List Addr} {H H1 : Hp} {s s1 : S}
open Classical in
/-- all that is no cell -/
noncomputable def offC (cm : List Addr) (H : Hp) : Hp := fun a => if a ∈ cm then none else H a
theorem offC_some {a : Addr} {o : HO} : offC cm H a = some o ↔ a ∉ cm ∧ H a = some o := by
  unfold offC
  by_cases h : a ∈ cm
  · rw [if_pos h]
    exact ⟨fun z => by (have z : (none : Option HO) = some o := z; cases z), fun z => absurd h z.1⟩
  · rw [if_neg h]
    exact ⟨fun z => ⟨h, z⟩, fun z => z.2⟩
theorem Cells.fewer {O' : Addr → Prop} (c : Cells K T Z O cm H s) (h : ∀ a, O' a → O a) : Cells K T Z O' cm H s :=
  ⟨c.len, c.nd, fun n a d e1 e2 => (c.at_ n a d e1 e2).ext (.refl _) (sub_shrink h) fun _ e => e, c.there, c.zok, c.nosf⟩
theorem ow_args {ds : List D} {n : Nat} {σ : L2.St} : Ow σ (ds.map SD.v ++ List.replicate n SD.un) = O0 := by
  funext a
  apply propext
  constructor
  · rintro ⟨i, d, h1, h2⟩
    have := List.mem_of_getElem? h1
    rcases List.mem_append.mp this with z | z
    · obtain ⟨x, _, e⟩ := List.mem_map.mp z
      cases e
    · cases (List.mem_replicate.mp z).2
  · exact fun z => z.elim
theorem Rel.start {N : List Str} {vs : List V} {ds : List D} (c : Cells K T Z O0 cm H s) (r : Reps K T cm (GV cm Z O0 H) vs ds) (hl : vs.length ≤ N.length) : Rel K T (offC cm H) Z cm (L2.start N vs) H (ds.map SD.v ++ List.replicate (N.length - vs.length) SD.un) s where
  len := by
    unfold L2.start
    rw [List.length_append, List.length_append, List.length_map, List.length_map, List.length_replicate, List.length_replicate, r.len]
  val := fun i d h => by
    rw [ow_args]
    by_cases hi : i < ds.length
    · rw [List.getElem?_append_left (by rw [List.length_map]; exact hi), List.getElem?_map] at h
      cases e : ds[i]? with
      | none => rw [e] at h; cases h
      | some d' =>
        rw [e] at h
        cases h
        obtain ⟨v, h1, h2⟩ := r.get e
        refine ⟨v, ?_, h2⟩
        unfold L2.start
        rw [List.getElem?_append_left (by rw [List.length_map, r.len]; exact hi), List.getElem?_map, h1]
        rfl
    · rw [List.getElem?_append_right (by rw [List.length_map]; omega)] at h
      have := List.mem_of_getElem? h
      cases (List.mem_replicate.mp this).2
  own := fun i d h => by
    have := List.mem_of_getElem? h
    rcases List.mem_append.mp this with z | z
    · obtain ⟨x, _, e⟩ := List.mem_map.mp z
      cases e
    · cases (List.mem_replicate.mp z).2
  apart := fun i j d e a h1 _ _ _ => by
    have := List.mem_of_getElem? h1
    rcases List.mem_append.mp this with z | z
    · obtain ⟨x, _, e⟩ := List.mem_map.mp z
      cases e
    · cases (List.mem_replicate.mp z).2
  cells := by rw [ow_args]; exact c
  base := fun a o h => by
    obtain ⟨h1, h2⟩ := offC_some.mp h
    exact ⟨h2, h1⟩
theorem Rel.extC {σ : L2.St} {ρ : List SD} (r : Rel K T (offC cm H) Z cm1 σ H1 ρ s1) (p : Pre cm cm1) : Ext cm H cm1 H1 :=
  ⟨p, fun a o h n => r.base a o (offC_some.mpr ⟨n, h⟩), fun a h => by
    by_cases q : a ∈ cm
    · exact r.cells.there a (p.mem q)
    · cases e : H a with
      | none => exact absurd e h
      | some o => rw [(r.base a o (offC_some.mpr ⟨q, e⟩)).1]; intro z; cases z⟩
end
section
variable {P : Program} {w : World} {K : PySem.W.Frag} {mg : Str → Option Value} {base : Heap} {T : Tb} {x qual : Str} {params : Arguments} {body : List Stmt} {scope : Scope} {dvs : List V} {kws : List (Str × V)} {f : Addr} {fd : FuncData}
theorem post_fn {m : SM} {ds : List D} {e : Nat} {s : S} {Z : Addr → Prop} {cm : List Addr} {H : Hp} {Q : VK} {E : XK} (h : PostF K T Z cm H (mFun e m ds s) Q E) :
    PostS K T (offC cm H) Z cm (fun cls d _ H => E cls d H) (m (ds.map .v ++ List.replicate e .un) s) { nx := fun _ H' => Q .non H', rt := Q } := by
  unfold mFun at h
  cases e0 : m (ds.map .v ++ List.replicate e .un) s with
  | nx ρ' s' =>
    rw [e0] at h
    exact fun σ H' cm' p r => h .non H' cm' (r.extC p) (r.cells.fewer fun a z => z.elim) .non
  | rt d s' =>
    rw [e0] at h
    exact fun v σ H' cm' ρ p r z => h v H' cm' (r.extC p) (r.cells.fewer fun a z => z.elim) (Rep.mono (.refl _) (sub_shrink fun a z => z.elim) _ _ z)
  | er c es ρ' s' =>
    rw [e0] at h
    exact fun cls dx σ H' cm' p r z => h cls dx H' cm' (r.extC p) (r.cells.fewer fun a z => z.elim) (z.mono (.refl _) (sub_shrink fun a z => z.elim) fun _ _ h => h)
  | bk ρ' s' => rw [e0] at h; exact h.elim
  | ct ρ' s' => rw [e0] at h; exact h.elim
  | no => rw [e0] at h; exact h.elim
/-- a def keeps what its body reckons -/
theorem fn_ok {N ps : List Str} {k : Nat} {m : SM} (F : FunD K x qual params body scope dvs kws f fd) (S : FnScope N ps scope) (hN : ps.length ≤ N.length)
    (hbody : ∀ (cdv : Value) (A : Around) (outer : List Env) (s : Shared) (H : Hp) (E : XK), Room k (A.deeper (envOfC qual scope s.heap.objs.size f cdv)) →
      QSs (cxOf (L2.CX P w) P w K mg base N qual scope f cdv A outer s H E) T (fun cls d _ H => E cls d H) body m) : FnOk P w K mg base (L2.CX P w) (k + 1) f fd ps (spD K T ps.length (mFun (N.length - ps.length) m)) := by
  refine F.ok S (fun vs H Q E h => h.1) (fun cdv A outer s H vs Q E hr h => ⟨tS K T (fun cls d _ H => E cls d H) m, hbody cdv A outer s H E hr, ?_⟩)
  obtain ⟨hl, cm, Z, ds, s0, c, r, p⟩ := h
  exact ⟨offC cm H, Z, cm, _, s0, Rel.start c r (by omega), by rw [hl]; exact post_fn p⟩
/-- a def that may be called by its name; dfl: defaults that fill up -/
structure Fn (P : Program) (w : World) (K : PySem.W.Frag) (mg : Str → Option Value) (base : Heap) (T : Tb) (k : Nat) (x : Str) (n : Nat) (F : FM) : Prop where
  ex : ∃ f fd ps, FnOk P w K mg base (L2.CX P w) k f fd ps (spD K T n F) ∧ mg x = some (.ref f) ∧ PySem.W.keepIn K (.ref f) = true ∧ Binds K fd ps []
theorem Fn.mk_ {k n : Nat} {ps : List Str} {F : FM} (h : FnOk P w K mg base (L2.CX P w) k f fd ps (spD K T n F)) (hm : mg x = some (.ref f)) (hk : PySem.W.keepIn K (.ref f) = true) (b : Binds K fd ps []) : Fn P w K mg base T k x n F := ⟨f, fd, ps, h, hm, hk, b⟩
theorem Fn.le {k j n : Nat} {F : FM} (h : Fn P w K mg base T k x n F) (e : k ≤ j) : Fn P w K mg base T j x n F := by
  obtain ⟨f, fd, ps, h1, h2⟩ := h.ex
  exact ⟨f, fd, ps, h1.mono e, h2⟩
end
def mCallF (F : FM) (lm : LM) : EM := fun ρ s => (lm ρ s).bind fun ds s1 => F ds s1
section
variable {X : Cx} {T : Tb} {W : WX} {n j k : Nat} {x : Str} {F : FM} {e : Expr} {es : List Expr} {lm : LM} {p pos : Pos}
/-- from the caller's frame to the callee's and back -/
theorem spD_of {F0 : Fm} {cm : List Addr} {H : Hp} {s : S} {vs : List V} {ds : List D} {Q : VK} (r : FRel X.K T F0 cm H s) (rv : Reps X.K T cm (F0.G cm H) vs ds) (hn : vs.length = n) (p : Post X.K T F0 cm H W (AR X.K T) (F ds s) Q) :
    spD X.K T n F vs H Q (fun cls d H' => W cls d F0.σ H') := by
  have eG : ∀ cm H, GV cm (fun a => F0.Z a ∨ F0.O a) O0 H = F0.G cm H := fun cm H => by
    have e : HidP cm (fun a => F0.Z a ∨ F0.O a) O0 = HidP cm F0.Z F0.O := by
      funext a
      apply propext
      unfold HidP
      constructor
      · rintro (h | h | h)
        · exact .inl h
        · exact .inr h
        · exact h.elim
      · rintro (h | h)
        · exact .inl h
        · exact .inr (.inl h)
    show hid (HidP cm (fun a => F0.Z a ∨ F0.O a) O0) H = hid (HidP cm F0.Z F0.O) H
    rw [e]
  have back : ∀ {H' cm' s'}, Ext cm H cm' H' → Cells X.K T (fun a => F0.Z a ∨ F0.O a) O0 cm' H' s' → FRel X.K T F0 cm' H' s' := fun {H' cm' s'} ex c => by
    refine Rel.ext r ex ⟨c.len, c.nd, fun n a d e1 e2 => ?_, c.there, fun a z => c.zok a (.inl z), c.nosf⟩
    have := c.at_ n a d e1 e2
    rw [eG] at this
    exact this
  refine ⟨hn, cm, fun a => F0.Z a ∨ F0.O a, ds, s, ⟨r.cells.len, r.cells.nd, fun n a d e1 e2 => ?_, r.cells.there, fun a z => ?_, r.cells.nosf⟩, by rw [eG]; exact rv, ?_⟩
  · rw [eG]
    exact r.cells.at_ n a d e1 e2
  · exact r.hidden (.inr z)
  · cases e : F ds s with
    | ok d s' =>
      rw [e] at p
      exact fun v H' cm' ex c z => p v H' cm' ex (back ex c) (by rw [eG] at z; exact z)
    | er c es s' =>
      rw [e] at p
      exact fun cls dx H' cm' ex c z => p cls dx H' cm' ex (back ex c) (by rw [eG] at z; exact z)
    | no => rw [e] at p; exact p
theorem tCallF_of {σ : L2.St} {H : Hp} {Q : VK} (h : tP X.K T W (AR X.K T) (mCallF F lm) σ H Q) : tCallS (spD X.K T n F) (WE W) (tP X.K T W (ALn X.K T n) lm) σ H Q := by
  refine h.bind (ALn X.K T n) up_AR fun B Z cm ρ x H1 ⟨cm1, dx, s1, e1, r1, a1, p1⟩ => ?_
  exact spD_of (F0 := ⟨B, Z, σ, ρ⟩) r1 a1.1 a1.2 p1
theorem q_call (c : Fn X.prog X.w X.K X.mg X.base T k x n F) (hr : Room j X.A) (tk : Takes X W) (hk : k ≤ j := by decide) (hg : Gl X x := by rfl) (ha : QS X T W n (e :: es) lm) (hdb : (x == ("__debug__" : Str)) = false := by decide) (he : starEach (e :: es) X.env = (false, eval e X.env) :: starEach es X.env := by rfl) (hpl : (backTo pos (starEach es X.env)).any (·.1) = false := by rfl) :
    QE X T W (.Call (.Name x p) (e :: es) [] pos) (mCallF F lm) := by
  obtain ⟨f, fd, ps, hF, hm, hkp, hb⟩ := c.ex
  exact PE.conv (pe_callS hF (hr.mono hk) hg hm hkp hb (fun σ => passAt tk σ) ha hdb he hpl) fun σ H Q h => tCallF_of h
theorem q_call0 (c : Fn X.prog X.w X.K X.mg X.base T k x 0 F) (hr : Room j X.A) (tk : Takes X W) (hk : k ≤ j := by decide) (hg : Gl X x := by rfl) (hdb : (x == ("__debug__" : Str)) = false := by decide) :
    QE X T W (.Call (.Name x p) [] [] pos) (mCallF F mNil) := by
  obtain ⟨f, fd, ps, hF, hm, hkp, hb⟩ := c.ex
  refine ⟨fun pins s σ H Q I h => ?_⟩
  refine wpAny_Call_Name_kw (ld_glob I hg hm ?_ hdb)
  obtain ⟨B, Z, cm, ρ, s0, r, p⟩ := h
  exact PySem.W.callWith_K0 I.kIn hkp (run_fnS (us := []) (vs := []) (E := WE W) hF (hr.mono hk) hb (passAt tk σ) I .nil (spD_of (F0 := ⟨B, Z, σ, ρ⟩) r .nil rfl p))
end
end Tv

/-! Tv13: classes: making, fields, methods, own == -/
namespace Tv
open PySem PySem.Spec PyProof.Rows L2

def Tb.w (T : Tb) (o : Option Addr) : Tb := { T with self := o }
section
variable {K : PySem.W.Frag} {T : Tb} {o : Option Addr} {cm : List Addr} {G H : Hp} {Z O : Addr → Prop} {s : S}
mutual
theorem Rep.tb : ∀ (d : D) (v : V), Rep K T cm G v d → Rep K (T.w o) cm G v d
  | .non, _, h => by cases h; exact .non
  | .bl b, _, h => by cases h; exact .bl b
  | .int i, _, h => by cases h; exact .int i
  | .str x, _, h => by cases h; exact .str x
  | .tup ds, _, h => by
    cases h with
    | tup hs hr => exact .tup hs (Reps.tb ds _ hr)
  | .lst ds, _, h => by
    cases h with
    | lst hs hr => exact .lst hs (Reps.tb ds _ hr)
  | .frz ds, _, h => by
    cases h with
    | frz hs hr => exact .frz hs (Reps.tb ds _ hr)
  | .ins c ds, _, h => by
    cases h with
    | ins ha hn hr => exact .ins (T := T.w o) ha hn (Reps.tb ds _ hr)
  | .cell n, _, h => by
    cases h with
    | cell e => exact .cell e
  | .fn n, _, h => by
    cases h
    exact .fn (T := T.w o) n
  | .dic ks ds, _, h => by
    cases h with
    | dic ha hr => exact .dic ha (Reps.tb ds _ hr)
  | .exc _ _, _, h => by cases h
  | .sf _ _, _, h => by cases h
theorem Reps.tb : ∀ (ds : List D) (vs : List V), Reps K T cm G vs ds → Reps K (T.w o) cm G vs ds
  | [], _, h => by cases h; exact .nil
  | d :: ds, _, h => by
    cases h with
    | cons h1 h2 => exact .cons (Rep.tb d _ h1) (Reps.tb ds _ h2)
end
theorem Rep.bt {d : D} {v : V} (h : Rep K (T.w o) cm G v d) : Rep K T cm G v d := Rep.tb (T := T.w o) (o := T.self) d v h
theorem Reps.bt {d : List D} {v : List V} (h : Reps K (T.w o) cm G v d) : Reps K T cm G v d := Reps.tb (T := T.w o) (o := T.self) d v h
theorem OwnRep.tb {a : Addr} {d : D} (h : OwnRep K T cm G H a d) (hs : d.isSf = false) : OwnRep K (T.w o) cm G H a d := by
  cases d with
  | lst ds =>
    obtain ⟨xs, h1, h2⟩ := h
    exact ⟨xs, h1, Reps.tb _ _ h2⟩
  | ins c ds =>
    obtain ⟨dx, fs, h1, h2, h3⟩ := h
    exact ⟨dx, fs, h1, h2, Reps.tb _ _ h3⟩
  | sf c ds => cases hs
  | _ => exact h.elim
theorem Cells.tb (c : Cells K T Z O cm H s) : Cells K (T.w o) Z O cm H s :=
  ⟨c.len, c.nd, fun n a d e1 e2 => (c.at_ n a d e1 e2).tb (c.nosf d (List.mem_of_getElem? e2)), c.there, c.zok, c.nosf⟩
theorem Cells.bt (c : Cells K (T.w o) Z O cm H s) : Cells K T Z O cm H s := Cells.tb (T := T.w o) (o := T.self) c
theorem ErrRep.tb {cls : Value} {dx : Option Addr} {c : Nat} {ds : List D} (h : ErrRep K T cm G H cls dx c ds) : ErrRep K (T.w o) cm G H cls dx c ds := by
  obtain ⟨h1, h2⟩ := h
  refine ⟨h1, ?_⟩
  rcases h2 with h2 | ⟨dx, gs, h2, h3, h4, h5⟩
  · exact .inl h2
  · exact .inr ⟨dx, gs, h2, h3, h4, Reps.tb _ _ h5⟩
theorem ErrRep.bt {cls : Value} {dx : Option Addr} {c : Nat} {ds : List D} (h : ErrRep K (T.w o) cm G H cls dx c ds) : ErrRep K T cm G H cls dx c ds := ErrRep.tb (T := T.w o) (o := T.self) h
theorem PostF.tb {r : R D} {Q : VK} {E : XK} (p : PostF K T Z cm H r Q E) : PostF K (T.w o) Z cm H r Q E := by
  cases r with
  | ok d s' => exact fun v H' cm' ex c z => p v H' cm' ex c.bt z.bt
  | er c ds s' => exact fun cls dx H' cm' ex c z => p cls dx H' cm' ex c.bt z.bt
  | no => exact p
theorem spD_tb {n : Nat} {F : FM} {vs : List V} {Q : VK} {E : XK} (h : spD K (T.w o) n F vs H Q E) : spD K T n F vs H Q E := by
  obtain ⟨hl, cm, Z, ds, s, c, r, p⟩ := h
  exact ⟨hl, cm, Z, ds, s, c.bt, r.bt, PostF.tb (T := T.w o) (o := T.self) p⟩
theorem Fn.tb {P : Program} {w : World} {mg : Str → Option Value} {base : Heap} {k n : Nat} {x : Str} {F : FM} (h : Fn P w K mg base T k x n F) : Fn P w K mg base (T.w o) k x n F := by
  obtain ⟨f, fd, ps, h1, h2⟩ := h.ex
  exact ⟨f, fd, ps, h1.imp fun vs H Q E z => spD_tb z, h2⟩
end

/-! ### __init__ -/
structure ExtX (x : Addr) (cm : List Addr) (H : Hp) (cm' : List Addr) (H' : Hp) : Prop where
  pre : Pre cm cm'
  keep : ∀ a o, H a = some o → a ∉ cm → a ≠ x → H' a = some o ∧ a ∉ cm'
  there : ∀ a, a ≠ x → H a ≠ none → H' a ≠ none
section
variable (K : PySem.W.Frag) (T : Tb)
def PostI (Z : Addr → Prop) (cm : List Addr) (x : Addr) (H : Hp) (r : R D) (Q : VK) (E : XK) : Prop := match r with
  | .ok d s' => ∀ H' cm', ExtX x cm H cm' H' → Cells K T Z O0 cm' H' s' → Rep K T cm' (GV cm' Z O0 H') (.ref x) d → Q .non H'
  | .er c ds s' => ∀ cls dx H' cm', ExtX x cm H cm' H' → Cells K T Z O0 cm' H' s' → ErrRep K T cm' (GV cm' Z O0 H') H' cls dx c ds → E cls dx H'
  | .no => False
def spI (c n : Nat) (F : FM) : Sp := fun vs H Q E => vs.length = n + 1 ∧ ∃ x rest cm Z ds s dx, vs = .ref x :: rest ∧ H x = some (.ins (T.cls c) dx []) ∧ x ∉ cm ∧ ¬ Z x ∧ Cells K T Z (fun a => a = x) cm H s ∧ Reps K T cm (GV cm Z (fun a => a = x) H) rest ds ∧ PostI K T Z cm x H (F ds s) Q E
end
def mInit (c nf e : Nat) (m : SM) : FM := fun ds s => match m (.own (.sf c []) :: (ds.map .v ++ List.replicate e .un)) s with
  | .nx ρ' s' => match (ρ'[0]? : Option SD) with
    | some (.own (.sf c' fs)) => if c' = c ∧ fs.length = nf then .ok (.ins c fs) s' else .no
    | _ => .no
  | .er k es _ s' => .er k es s'
  | _ => .no
section
variable {K : PySem.W.Frag} {T : Tb} {Z : Addr → Prop} {cm cm1 : List Addr} {H H1 : Hp} {s s1 : S} {x : Addr}
open Classical in
noncomputable def offX (x : Addr) (cm : List Addr) (H : Hp) : Hp := fun a => if a ∈ cm ∨ a = x then none else H a
theorem offX_some {a : Addr} {o : HO} : offX x cm H a = some o ↔ (a ∉ cm ∧ a ≠ x) ∧ H a = some o := by
  unfold offX
  by_cases h : a ∈ cm ∨ a = x
  · rw [if_pos h]
    exact ⟨fun z => by (have z : (none : Option HO) = some o := z; cases z), fun z => absurd h (fun q => q.elim z.1.1 z.1.2)⟩
  · rw [if_neg h]
    exact ⟨fun z => ⟨⟨fun q => h (.inl q), fun q => h (.inr q)⟩, z⟩, fun z => z.2⟩
theorem ow_init {c : Nat} {ds : List D} {n : Nat} {σ : L2.St} : Ow (some (.ref x) :: σ) (SD.own (.sf c []) :: (ds.map SD.v ++ List.replicate n SD.un)) = fun a => a = x := by
  funext a
  apply propext
  constructor
  · rintro ⟨i, d, h1, h2⟩
    cases i with
    | zero =>
      have h2 : some (some (V.ref x)) = some (some (V.ref a)) := h2
      cases h2
      rfl
    | succ i =>
      have h1 : (ds.map SD.v ++ List.replicate n SD.un)[i]? = some (.own d) := h1
      have := List.mem_of_getElem? h1
      rcases List.mem_append.mp this with z | z
      · obtain ⟨x, _, e⟩ := List.mem_map.mp z
        cases e
      · cases (List.mem_replicate.mp z).2
  · rintro rfl
    exact ⟨0, _, rfl, rfl⟩
theorem Rel.startI {N : List Str} {vs : List V} {ds : List D} {c : Nat} {dx : Addr} (hx : H x = some (.ins (T.cls c) dx [])) (hc : x ∉ cm) (hz : ¬ Z x) (cl : Cells K T Z (fun a => a = x) cm H s) (r : Reps K T cm (GV cm Z (fun a => a = x) H) vs ds) (hl : vs.length + 1 ≤ N.length) :
    Rel K (T.w (some x)) (offX x cm H) Z cm (L2.start N (.ref x :: vs)) H (SD.own (.sf c []) :: (ds.map SD.v ++ List.replicate (N.length - (vs.length + 1)) SD.un)) s := by
  have eσ : L2.start N (.ref x :: vs) = some (.ref x) :: (vs.map some ++ List.replicate (N.length - (vs.length + 1)) none) := rfl
  rw [eσ]
  refine ⟨?_, fun i d h => ?_, fun i d h => ?_, fun i j d e a h1 h2 _ _ => ?_, ?_, fun a o h => ?_⟩
  · rw [List.length_cons, List.length_cons, List.length_append, List.length_append, List.length_map, List.length_map, List.length_replicate, List.length_replicate, r.len]
  · rw [ow_init]
    cases i with
    | zero => cases h
    | succ i =>
      have h : (ds.map SD.v ++ List.replicate (N.length - (vs.length + 1)) SD.un)[i]? = some (.v d) := h
      by_cases hi : i < ds.length
      · rw [List.getElem?_append_left (by rw [List.length_map]; exact hi), List.getElem?_map] at h
        cases e : ds[i]? with
        | none => rw [e] at h; cases h
        | some d' =>
          rw [e] at h
          cases h
          obtain ⟨v, h1, h2⟩ := r.get e
          refine ⟨v, ?_, Rep.tb _ _ h2⟩
          show (vs.map some ++ List.replicate (N.length - (vs.length + 1)) none)[i]? = _
          rw [List.getElem?_append_left (by rw [List.length_map, r.len]; exact hi), List.getElem?_map, h1]
          rfl
      · rw [List.getElem?_append_right (by rw [List.length_map]; omega)] at h
        have := List.mem_of_getElem? h
        cases (List.mem_replicate.mp this).2
  · rw [ow_init]
    cases i with
    | zero =>
      cases h
      refine ⟨x, rfl, ⟨rfl, dx, [], hx, by simp, .nil⟩, hc, hz, ?_⟩
      unfold offX
      rw [if_pos (.inr rfl)]
    | succ i =>
      have h : (ds.map SD.v ++ List.replicate (N.length - (vs.length + 1)) SD.un)[i]? = some (.own d) := h
      have := List.mem_of_getElem? h
      rcases List.mem_append.mp this with z | z
      · obtain ⟨x, _, e⟩ := List.mem_map.mp z
        cases e
      · cases (List.mem_replicate.mp z).2
  · have key : ∀ (i : Nat) (d : D), (SD.own (.sf c []) :: (ds.map SD.v ++ List.replicate (N.length - (vs.length + 1)) SD.un))[i]? = some (.own d) → i = 0 := fun i d h => by
      cases i with
      | zero => rfl
      | succ i =>
        have h : (ds.map SD.v ++ List.replicate (N.length - (vs.length + 1)) SD.un)[i]? = some (.own d) := h
        have := List.mem_of_getElem? h
        rcases List.mem_append.mp this with z | z
        · obtain ⟨x, _, e⟩ := List.mem_map.mp z
          cases e
        · cases (List.mem_replicate.mp z).2
    rw [key i d h1, key j e h2]
  · rw [ow_init]
    exact cl.tb
  · obtain ⟨h1, h2⟩ := offX_some.mp h
    exact ⟨h2, h1.1⟩
theorem Rel.extX {T' : Tb} {σ : L2.St} {ρ : List SD} (r : Rel K T' (offX x cm H) Z cm1 σ H1 ρ s1) (p : Pre cm cm1) : ExtX x cm H cm1 H1 :=
  ⟨p, fun a o h n n' => r.base a o (offX_some.mpr ⟨⟨n, n'⟩, h⟩), fun a q2 h => by
    by_cases q : a ∈ cm
    · exact r.cells.there a (p.mem q)
    · cases e : H a with
      | none => exact absurd e h
      | some o => rw [(r.base a o (offX_some.mpr ⟨⟨q, q2⟩, e⟩)).1]; intro z; cases z⟩
end
section
variable {P : Program} {w : World} {K : PySem.W.Frag} {mg : Str → Option Value} {base : Heap} {T : Tb} {x qual : Str} {params : Arguments} {body : List Stmt} {scope : Scope} {dvs : List V} {kws : List (Str × V)} {f : Addr} {fd : FuncData}
theorem init_ok {N ps : List Str} {p0 : Str} {k c nf : Nat} {m : SM} (F : FunD K x qual params body scope dvs kws f fd) (S : FnScope N (p0 :: ps) scope) (hN : ps.length + 1 ≤ N.length) (hnf : (T.fl c).length = nf)
    (hbody : ∀ (cdv : Value) (A : Around) (outer : List Env) (s : Shared) (H : Hp) (E : XK) (a : Addr), Room k (A.deeper (envOfC qual scope s.heap.objs.size f cdv)) →
      QSs (cxOf (L2.CX P w) P w K mg base N qual scope f cdv A outer s H E) (T.w (some a)) (fun cls d _ H => E cls d H) body m)
 : FnOk P w K mg base (L2.CX P w) (k + 1) f fd (p0 :: ps) (spI K T c ps.length (mInit c nf (N.length - (ps.length + 1)) m)) := by
  refine F.ok S (fun vs H Q E h => h.1) (fun cdv A outer s H vs Q E hr h => ?_)
  obtain ⟨hl, a, rest, cm, Z, ds, s0, dx, rfl, hx, hc, hz, cl, r, p⟩ := h
  have hl' : rest.length = ps.length := by simpa using hl
  refine ⟨tS K (T.w (some a)) (fun cls d _ H => E cls d H) m, hbody cdv A outer s H E a hr, ?_⟩
  refine ⟨offX a cm H, Z, cm, _, s0, Rel.startI hx hc hz cl r (by omega), ?_⟩
  rw [hl']
  unfold mInit at p
  -- the instance stays: nobody frees; told by the frame where it is owned, else by the exception's road
  cases e0 : m (SD.own (.sf c []) :: (ds.map .v ++ List.replicate (N.length - (ps.length + 1)) .un)) s0 with
  | nx ρ' s' =>
    rw [e0] at p
    dsimp only at p
    split at p
    · rename_i c' fs e1
      split at p
      · rename_i hcf
        obtain ⟨rfl, hlen⟩ := hcf
        refine fun σ' H' cm' pr r' => ?_
        obtain ⟨b, h1, ⟨h2, dx', gs, h3, h4, h5⟩, h6, h7, h8⟩ := r'.own 0 _ e1
        have eb : b = a := by
          have : some a = some b := h2
          exact (Option.some.inj this).symm
        subst eb
        refine p H' cm' (r'.extX pr) (r'.cells.fewer fun a z => z.elim).bt ?_
        refine .ins (hid_some.mpr ⟨fun z => ?_, h3⟩) ?_ (Reps.bt (Reps.mono (.refl _) (sub_shrink fun a z => z.elim) _ _ h5))
        · rcases z with z | z | z
          · exact h6 z
          · exact h7 z
          · exact z
        · rw [h4, hlen, ← hnf]
          exact List.take_length
      · exact p.elim
    · exact p.elim
  | rt d s' => rw [e0] at p; exact p.elim
  | er k es ρ' s' =>
    rw [e0] at p
    exact fun cls dx' σ' H' cm' pr r' z => p cls dx' H' cm' (r'.extX pr) (r'.cells.fewer fun a z => z.elim).bt (z.mono (.refl _) (sub_shrink fun a z => z.elim) fun _ _ h => h).bt
  | bk ρ' s' => rw [e0] at p; exact p.elim
  | ct ρ' s' => rw [e0] at p; exact p.elim
  | no => rw [e0] at p; exact p.elim
end

/-! ### making -/
section
variable {P : Program} {w : World} {K : PySem.W.Frag} {mg : Str → Option Value} {base : Heap} {T : Tb}
/-- a class that may be made by its name; F: what its __init__ reckons -/
structure Mak (P : Program) (w : World) (K : PySem.W.Frag) (mg : Str → Option Value) (base : Heap) (T : Tb) (k : Nat) (x : Str) (c n : Nat) (F : FM) : Prop where
  ex : ∃ f fd ps, Mk K (T.cls c) f ∧ FnOk P w K mg base (L2.CX P w) k f fd ps (spI K T c n F) ∧ mg x = some (.ref (T.cls c)) ∧ Binds K fd ps []
theorem PostI.tb {o : Option Addr} {Z : Addr → Prop} {cm : List Addr} {x : Addr} {H : Hp} {r : R D} {Q : VK} {E : XK} (p : PostI K T Z cm x H r Q E) : PostI K (T.w o) Z cm x H r Q E := by
  cases r with
  | ok d s' => exact fun H' cm' ex c z => p H' cm' ex c.bt z.bt
  | er c ds s' => exact fun cls dx H' cm' ex c z => p cls dx H' cm' ex c.bt z.bt
  | no => exact p
theorem Mak.tb {o : Option Addr} {k c n : Nat} {x : Str} {F : FM} (h : Mak P w K mg base T k x c n F) : Mak P w K mg base (T.w o) k x c n F := by
  obtain ⟨f, fd, ps, h1, h2, h3⟩ := h.ex
  refine ⟨f, fd, ps, h1, h2.imp fun vs H Q E z => ?_, h3⟩
  obtain ⟨hl, x, rest, cm, Z, ds, s, dx, e, hx, hc, hz, cl, r, p⟩ := z
  exact ⟨hl, x, rest, cm, Z, ds, s, dx, e, hx, hc, hz, cl.bt, r.bt, PostI.tb (T := T.w o) (o := T.self) p⟩
theorem Mak.le {k j c n : Nat} {x : Str} {F : FM} (h : Mak P w K mg base T k x c n F) (e : k ≤ j) : Mak P w K mg base T j x c n F := by
  obtain ⟨f, fd, ps, h1, h2, h3⟩ := h.ex
  exact ⟨f, fd, ps, h1, h2.mono e, h3⟩
end
section
variable {X : Cx} {T : Tb} {W : WX} {n j k c : Nat} {x : Str} {F : FM} {e : Expr} {es : List Expr} {lm : LM} {p pos : Pos}
theorem run_makeS {CX : CXT} {C f : Addr} {fd : FuncData} {ps : List Str} {sp : Sp} {E : XK} {pins : List (Addr × Obj)} {σ : L2.St} {H : Hp} {s : Shared} {Q : VK} {us : List Value} {vs : List V} (M : Mk X.K C f) (F : FnOk X.prog X.w X.K X.mg X.base CX k f fd ps sp) (hr : Room (k + 1) X.A) (hb : Binds X.K fd ps [])
    (hx : PassesAt CX X σ E) (I : Inv X pins σ H s) (r : Vals vs us)
    (h : ∀ x dx, H x = none → H dx = none → dx ≠ x → sp (.ref x :: vs) (upd (upd H dx (.own x)) x (.ins C dx [])) (fun v H2 => v = .non ∧ Q (.ref x) H2) E) :
    wpAny (model X.prog X.w) X.A (call (.ref C) us) (EP X pins σ Q) X.xe s := by
  have hq := h (s.heap.objs.size + 1) s.heap.objs.size (I.hok.fresh (Nat.le_succ _)) (I.hok.fresh (Nat.le_refl _)) (Nat.ne_of_lt (Nat.lt_succ_self _))
  have I2 := Inv.made (C := C) I
  have r2 : Vals (V.ref (s.heap.objs.size + 1) :: vs) (Value.ref (s.heap.objs.size + 1) :: us) := .cons rfl r
  have hl : (Value.ref (s.heap.objs.size + 1) :: us).length = ps.length := by
    have e := r2.length
    rw [F.len _ _ _ _ hq] at e
    exact e.symm
  have b := hb (s := _) (Value.ref (s.heap.objs.size + 1) :: us) I2.kIn (by rw [List.append_nil]; exact hl)
  rw [List.append_nil] at b
  refine wpAny_call (make_map (f := f) I.kIn M.makes M.init (beq_iff_eq.mp M.fn) (codeAny_mono (F.run _ X.stack _ _ ⟨Value.ref (s.heap.objs.size + 1) :: us, []⟩ (Value.ref (s.heap.objs.size + 1) :: us) _ _ E (hr.make C us [])
    (I2.env0.make C us []) b r2 hq) fun r s' hq' => ?_))
  cases r with
  | error e => exact hx pins _ _ e s' I2 hq'
  | ok fl =>
    cases fl with
    | ret u =>
      obtain ⟨v, H', I3, rv, ev, q3⟩ := I2.after hq'
      subst ev
      exact ⟨rv, ⟨V.ref (s.heap.objs.size + 1), H', I3, rfl, q3⟩⟩
    | next => exact False.elim hq'
    | brk => exact False.elim hq'
    | cont => exact False.elim hq'
theorem eG_zo {cm : List Addr} {Z O : Addr → Prop} {H : Hp} : GV cm (fun a => Z a ∨ O a) O0 H = GV cm Z O H := by
  have e : HidP cm (fun a => Z a ∨ O a) O0 = HidP cm Z O := by
    funext a
    apply propext
    unfold HidP
    constructor
    · rintro (h | h | h)
      · exact .inl h
      · exact .inr h
      · exact h.elim
    · rintro (h | h)
      · exact .inl h
      · exact .inr (.inl h)
  show hid (HidP cm (fun a => Z a ∨ O a) O0) H = hid (HidP cm Z O) H
  rw [e]
theorem spI_of {F0 : Fm} {cm : List Addr} {H : Hp} {s : S} {vs : List V} {ds : List D} {Q : VK} (r : FRel X.K T F0 cm H s) (rv : Reps X.K T cm (F0.G cm H) vs ds) (hn : vs.length = n) (p : Post X.K T F0 cm H W (AR X.K T) (F ds s) Q)
    (x dx : Addr) (hx : H x = none) (hdx : H dx = none) (hne : dx ≠ x) : spI X.K T c n F (.ref x :: vs) (upd (upd H dx (.own x)) x (.ins (T.cls c) dx [])) (fun v H2 => v = .non ∧ Q (.ref x) H2) (fun cls d H' => W cls d F0.σ H') := by
  have hx2 : upd H dx (.own x) x = none := by rw [upd_ne (Ne.symm hne)]; exact hx
  have sub0 : Sub H (upd (upd H dx (.own x)) x (.ins (T.cls c) dx [])) := (sub_upd hdx).trans (sub_upd hx2)
  have nv := r.new_vis hx
  have subG : Sub (F0.G cm H) (GV cm (fun a => F0.Z a ∨ F0.O a) (fun a => a = x) (upd (upd H dx (.own x)) x (.ins (T.cls c) dx []))) := hid_sub fun a u n e => ⟨fun z => by
    rcases z with z | z | z
    · exact n (.inl z)
    · exact n (.inr z)
    · exact ne_of_none e hx z, sub0 a u e⟩
  have toE : ∀ {H' cm'}, ExtX x cm (upd (upd H dx (.own x)) x (.ins (T.cls c) dx [])) cm' H' → Ext cm H cm' H' := fun {H' cm'} ex =>
    ⟨ex.pre, fun a o e n => ex.keep a o (sub0 a o e) n (ne_of_none e hx), fun a h => by
      cases e : H a with
      | none => exact absurd e h
      | some o => exact ex.there a (ne_of_none e hx) (by rw [sub0 a o e]; intro z; cases z)⟩
  have back : ∀ {H' cm' s'}, Ext cm H cm' H' → Cells X.K T (fun a => F0.Z a ∨ F0.O a) O0 cm' H' s' → FRel X.K T F0 cm' H' s' := fun {H' cm' s'} ex c => by
    refine Rel.ext r ex ⟨c.len, c.nd, fun n a d e1 e2 => ?_, c.there, fun a z => c.zok a (.inl z), c.nosf⟩
    have := c.at_ n a d e1 e2
    rw [eG_zo] at this
    exact this
  refine ⟨by rw [List.length_cons, hn], x, vs, cm, fun a => F0.Z a ∨ F0.O a, ds, s, dx, rfl, upd_same, fun z => nv (.inl z), fun z => nv (.inr z), ⟨r.cells.len, r.cells.nd, fun n a d e1 e2 => ?_, fun a z => ?_, fun a z => ?_, r.cells.nosf⟩, Reps.mono (.refl _) subG _ _ rv, ?_⟩
  · exact (r.cells.at_ n a d e1 e2).ext (.refl _) subG fun o e => sub0 a o e
  · have q := r.cells.there a z
    cases e : H a with
    | none => exact absurd e q
    | some o => rw [sub0 a o e]; intro z; cases z
  · have q := r.hidden (.inr z)
    cases e : H a with
    | none => exact absurd e q
    | some o => rw [sub0 a o e]; intro z; cases z
  · cases e : F ds s with
    | ok d s' =>
      rw [e] at p
      exact fun H' cm' ex c z => ⟨rfl, p (.ref x) H' cm' (toE ex) (back (toE ex) c) (by rw [eG_zo] at z; exact z)⟩
    | er c es s' =>
      rw [e] at p
      exact fun cls dx H' cm' ex c z => p cls dx H' cm' (toE ex) (back (toE ex) c) (by rw [eG_zo] at z; exact z)
    | no => rw [e] at p; exact p
theorem q_make (m : Mak X.prog X.w X.K X.mg X.base T k x c n F) (hr : Room j X.A) (tk : Takes X W) (hk : k + 1 ≤ j := by decide) (hg : Gl X x := by rfl) (ha : QS X T W n (e :: es) lm) (hdb : (x == ("__debug__" : Str)) = false := by decide) (he : starEach (e :: es) X.env = (false, eval e X.env) :: starEach es X.env := by rfl) (hpl : (backTo pos (starEach es X.env)).any (·.1) = false := by rfl) :
    QE X T W (.Call (.Name x p) (e :: es) [] pos) (mCallF F lm) := by
  obtain ⟨f, fd, ps, M, hF, hm, hb⟩ := m.ex
  refine ⟨fun pins s σ H Q I h => ?_⟩
  refine wpAny_Call_Name_kw (ld_glob I hg hm ?_ hdb)
  have h' : tP X.K T W (ALn X.K T n) lm σ H fun vs H1 => ∀ x dx, H1 x = none → H1 dx = none → dx ≠ x → spI X.K T c n F (.ref x :: vs) (upd (upd H1 dx (.own x)) x (.ins (T.cls c) dx [])) (fun v H2 => v = .non ∧ Q (.ref x) H2) (fun cls d H' => W cls d σ H') := by
    refine h.bind (ALn X.K T n) up_AR fun B Z cm ρ x H1 ⟨cm1, dx, s1, e1, r1, a1, p1⟩ => ?_
    exact spI_of (F0 := ⟨B, Z, σ, ρ⟩) r1 a1.1 a1.2 p1
  refine PySem.W.callWith_K (h₀ := X.base) I.ok.mod.kin M.kp (thn (ha.run pos pins s σ H _ I h') fun us s1 ⟨vs, H1, I1, r, q⟩ => ⟨I1.kIn, ?_⟩) he hpl
  exact run_makeS M hF (hr.mono hk) hb (passAt tk σ) I1 r q
theorem q_make0 (m : Mak X.prog X.w X.K X.mg X.base T k x c 0 F) (hr : Room j X.A) (tk : Takes X W) (hk : k + 1 ≤ j := by decide) (hg : Gl X x := by rfl) (hdb : (x == ("__debug__" : Str)) = false := by decide) :
    QE X T W (.Call (.Name x p) [] [] pos) (mCallF F mNil) := by
  obtain ⟨f, fd, ps, M, hF, hm, hb⟩ := m.ex
  refine ⟨fun pins s σ H Q I h => ?_⟩
  refine wpAny_Call_Name_kw (ld_glob I hg hm ?_ hdb)
  obtain ⟨B, Z, cm, ρ, s0, r, p⟩ := h
  exact PySem.W.callWith_K0 I.kIn M.kp (run_makeS (us := []) (vs := []) M hF (hr.mono hk) hb (passAt tk σ) I .nil (spI_of (F0 := ⟨B, Z, σ, ρ⟩) r .nil rfl p))
end

/-! ### self.f = e, in __init__ -/
def mSetF (c j : Nat) (m : EM) : SM := mE m fun d ρ s => match (ρ[0]? : Option SD) with
  | some (.own (.sf c' ds)) => if c' = c ∧ ds.length = j then .nx (ρ.set 0 (.own (.sf c (ds ++ [d])))) s else .no
  | _ => .no
theorem putF_new {f : Str} {y : V} : ∀ {fs : List (Str × V)}, f ∉ fs.map (·.1) → putF f y fs = fs ++ [(f, y)]
  | [], _ => rfl
  | (g, z) :: r, h => by
    have h1 : ¬ g = f := fun e => h (by rw [e]; exact List.mem_cons_self)
    show (if g = f then (g, y) :: r else (g, z) :: putF f y r) = _
    rw [if_neg h1, putF_new (fs := r) fun e => h (List.mem_cons_of_mem _ e)]
    rfl
section
variable {X : Cx} {T : Tb} {W : WX} {c j : Nat} {e : Expr} {m : EM} {x f : Str} {p p' pos : Pos}
theorem q_setF (hc : Cls X.K (T.cls c)) (hn : NoAttr X.K (T.cls c) f) (he : QE X T W e m) (hj : (T.fl c)[j]? = some f := by rfl) (hj2 : ((T.fl c).take j).contains f = false := by kernel_rfl) (hj3 : j < 100 := by decide) (hN : X.N[0]? = some x := by rfl) (hv : Vis X.env.scope x := by first | exact Or.inl rfl | exact Or.inr (Or.inl rfl) | exact Or.inr (Or.inr rfl))
    (hd : (x == ("__debug__" : Str)) = false := by decide) (hcd : (x == ("__classdict__" : Str)) = false := by decide)
    (hs : swapsWith e (some (.Attribute (.Name x p) f p')) pos.line X.env = pure false := by rfl) : QSt X T W (.Assign [.Attribute (.Name x p) f p'] e pos) (mSetF c j m) :=
  PS.conv (ps_fld (pe_var hN hv hd hcd) he hs) fun Ed σ H h => by
    refine mE_of (A := AR X.K T) h fun B Z cm0 s0 cm H' ρ d s v pre r0 r z q => ?_
    split at q
    · rename_i c' ds e0
      split at q
      · rename_i hcj
        obtain ⟨rfl, rfl⟩ := hcj
        obtain ⟨a, h1, ⟨h2, dx, fs, h3, h4, h5⟩, h6⟩ := r.own 0 _ e0
        have hlen : fs.length = ds.length := by
          have := h5.len
          rw [List.length_map] at this
          exact this
        refine ⟨_, h1, a, T.cls c', dx, fs, rfl, h3, hc, hn, by omega, ?_⟩
        rw [putF_new (by rw [h4]; intro z; rw [List.contains_iff_mem.mpr z] at hj2; cases hj2)]
        refine q σ _ cm (.refl _) (r.mutOwn e0 h1 ⟨h2, dx, _, upd_same, ?_, ?_⟩)
        · rw [List.map_append, h4, List.length_append]
          show _ = (T.fl c').take (ds.length + 1)
          rw [List.take_add_one, hj]
          rfl
        · rw [List.map_append]
          exact h5.app (.cons z .nil)
      · exact q.elim
    · exact q.elim
end

/-! ### methods -/
section
variable {P : Program} {w : World} {K : PySem.W.Frag} {mg : Str → Option Value} {base : Heap} {T : Tb}
structure Met (P : Program) (w : World) (K : PySem.W.Frag) (mg : Str → Option Value) (base : Heap) (T : Tb) (k c : Nat) (m : Str) (n : Nat) (F : FM) : Prop where
  ex : ∃ f fd ps, Cls K (T.cls c) ∧ Meth K (T.cls c) m f ∧ FnOk P w K mg base (L2.CX P w) k f fd ps (spD K T (n + 1) F) ∧ Binds K fd ps []
theorem Met.tb {o : Option Addr} {k c n : Nat} {m : Str} {F : FM} (h : Met P w K mg base T k c m n F) : Met P w K mg base (T.w o) k c m n F := by
  obtain ⟨f, fd, ps, h1, h2, h3, h4⟩ := h.ex
  exact ⟨f, fd, ps, h1, h2, h3.imp fun vs H Q E z => spD_tb z, h4⟩
end
def clsOf (d : D) (s : S) : Option Nat := match d with
  | .ins c _ => some c
  | .cell n => match s[n]? with
    | some (.ins c _) => some c
    | _ => none
  | _ => none
def mMeth (c : Nat) (F : FM) (o : EM) (lm : LM) : EM := fun ρ s => (o ρ s).bind fun x s1 => if clsOf x s1 = some c then (lm ρ s1).bind fun ds s2 => F (x :: ds) s2 else .no
section
variable {X : Cx} {T : Tb} {W : WX} {n j k c : Nat} {mn : Str} {F : FM} {o e : Expr} {es : List Expr} {mo : EM} {lm : LM} {apos pos : Pos}
theorem run_methS {CX : CXT} {f : Addr} {fd : FuncData} {ps : List Str} {sp : Sp} {E : XK} {pins : List (Addr × Obj)} {σ : L2.St} {H : Hp} {s : Shared} {Q : VK} {us : List Value} {vs : List V} (F : FnOk X.prog X.w X.K X.mg X.base CX k f fd ps sp) (hr : Room k X.A) (hb : Binds X.K fd ps []) (hx : PassesAt CX X σ E)
    (I : Inv X pins σ H s) (r : Vals vs us) (h : sp vs H Q E) : wpAny (model X.prog X.w) X.A (call (.ref f) us) (EP X pins σ Q) X.xe s := run_fnS (E := fun _ => E) F hr hb hx I r h
theorem clsOf_at {K : PySem.W.Frag} {B : Hp} {Z : Addr → Prop} {cm : List Addr} {σ : L2.St} {H : Hp} {ρ : List SD} {s : S} {v : V} {d : D} (r : Rel K T B Z cm σ H ρ s) (z : Rep K T cm (GV cm Z (Ow σ ρ) H) v d) (h : clsOf d s = some c) :
    ∃ a dx fs m, v = .ref a ∧ H a = some (.ins (T.cls c) dx fs) ∧ fs.map (·.1) = (T.fl c).take m := by
  unfold clsOf at h
  split at h
  · cases h
    cases z with
    | @ins a dx c fs ds h1 h2 h3 => exact ⟨a, dx, fs, (T.fl c).length, rfl, Sub.hidH _ _ h1, by rw [List.take_length]; exact h2⟩
  · split at h
    · rename_i e
      cases h
      cases z with
      | cell hc =>
        obtain ⟨dx, fs, h1, h2, h3⟩ := r.cells.at_ _ _ _ hc e
        exact ⟨_, dx, fs, _, rfl, h1, h2⟩
    · cases h
  · cases h
theorem lookup_none {f : Str} : ∀ {fs : List (Str × V)}, f ∉ fs.map (·.1) → fs.lookup f = none
  | [], _ => rfl
  | (g, z) :: r, h => by
    have h1 : (f == g) = false := by
      have : f ≠ g := fun e => h (by rw [e]; exact List.mem_cons_self)
      simpa using this
    rw [List.lookup_cons, h1]
    exact lookup_none fun e => h (List.mem_cons_of_mem _ e)
theorem q_methI {pl : Sem Bool} (c0 : Met X.prog X.w X.K X.mg X.base T k c mn n F) (hr : Room j X.A) (tk : Takes X W) (hk : k ≤ j := by decide) (ho : QE X T W o mo) (ha : QS X T W n (e :: es) lm) (hf : (T.fl c).contains mn = false := by kernel_rfl)
    (hst : starEach (e :: es) X.env = (false, eval e X.env) :: starEach es X.env := by rfl) (hpl : (backTo pos (starEach es X.env)).any (·.1) = false := by rfl)
    (ht : eval (.Call (.Attribute o mn apos) (e :: es) [] pos) X.env = (do
      let ov ← eval o X.env
      standAt apos.atName
      let (f, first) ← holding [ov] (getMethod ov mn pl)
      callWith pos f first (backTo pos (starEach (e :: es) X.env)) (backToKw pos (keywordEach [] X.env))) := by rfl) : QE X T W (.Call (.Attribute o mn apos) (e :: es) [] pos) (mMeth c F mo lm) := by
  obtain ⟨f, fd, ps, hc, hm, hF, hb⟩ := c0.ex
  refine ⟨fun pins s σ H Q I h => ?_⟩
  have h' : tP X.K T W (AR X.K T) mo σ H fun x H1 => ∃ a dx fs, x = .ref a ∧ H1 a = some (.ins (T.cls c) dx fs) ∧ fs.lookup mn = none ∧ tP X.K T W (ALn X.K T n) lm σ H1 fun vs H2 => spD X.K T (n + 1) F (x :: vs) H2 Q (fun cls d H' => W cls d σ H') := by
    refine h.bind (AR X.K T) up_AR fun B Z cm ρ x H1 ⟨cm1, dx, s1, e1, r1, a1, p1⟩ => ?_
    dsimp only at p1
    split at p1
    · rename_i ec
      obtain ⟨a, dxa, fs, m, rfl, ha, hfs⟩ := clsOf_at r1 a1 ec
      refine ⟨a, dxa, fs, rfl, ha, lookup_none (by rw [hfs]; exact fun z => by rw [List.contains_iff_mem.mpr (List.mem_of_mem_take z)] at hf; cases hf), B, Z, cm1, ρ, s1, r1, (p1.bind (A := ALn X.K T n) up_AR).mono fun y H2 ⟨cm2, dy, s2, e2, r2, a2, p2⟩ => ?_⟩
      exact spD_of (F0 := ⟨B, Z, σ, ρ⟩) r2 (.cons (Rep.mono e2.pre e2.sub _ _ a1) a2.1) (by rw [List.length_cons, a2.2]) p2
    · exact p1.elim
  refine PySem.W.methodCall_KW (pl := pl) (thn (ho.run pins s σ H _ I h') fun u s1 ⟨x, H1, I1, rx, a, dx, fs, ex, ea, l, q⟩ => ?_) ht
  subst ex
  obtain rfl : u = Value.ref a := rx
  refine getmeth_ok I1 ea hc hm l ?_
  refine PySem.W.callWith_K (first := [.ref a]) (h₀ := X.base) I.ok.mod.kin hm.kp (thn (ha.run pos pins s1 σ H1 _ I1 q) fun us s2 ⟨vs, H2, I2, r, q2⟩ => ⟨I2.kIn, ?_⟩) hst hpl
  exact run_methS (us := .ref a :: us) (vs := .ref a :: vs) hF (hr.mono hk) hb (passAt tk σ) I2 (.cons rfl r) q2
theorem q_methI0 {pl : Sem Bool} (c0 : Met X.prog X.w X.K X.mg X.base T k c mn 0 F) (hr : Room j X.A) (tk : Takes X W) (hk : k ≤ j := by decide) (ho : QE X T W o mo) (hf : (T.fl c).contains mn = false := by kernel_rfl)
    (ht : eval (.Call (.Attribute o mn apos) [] [] pos) X.env = (do
      let ov ← eval o X.env
      standAt apos.atName
      let (f, first) ← holding [ov] (getMethod ov mn pl)
      callWith pos f first (backTo pos (starEach [] X.env)) (backToKw pos (keywordEach [] X.env))) := by rfl) : QE X T W (.Call (.Attribute o mn apos) [] [] pos) (mMeth c F mo mNil) := by
  obtain ⟨f, fd, ps, hc, hm, hF, hb⟩ := c0.ex
  refine ⟨fun pins s σ H Q I h => ?_⟩
  have h' : tP X.K T W (AR X.K T) mo σ H fun x H1 => ∃ a dx fs, x = .ref a ∧ H1 a = some (.ins (T.cls c) dx fs) ∧ fs.lookup mn = none ∧ spD X.K T (0 + 1) F [x] H1 Q (fun cls d H' => W cls d σ H') := by
    refine h.bind (AR X.K T) up_AR fun B Z cm ρ x H1 ⟨cm1, dx, s1, e1, r1, a1, p1⟩ => ?_
    dsimp only at p1
    split at p1
    · rename_i ec
      obtain ⟨a, dxa, fs, m, rfl, ha, hfs⟩ := clsOf_at r1 a1 ec
      exact ⟨a, dxa, fs, rfl, ha, lookup_none (by rw [hfs]; exact fun z => by rw [List.contains_iff_mem.mpr (List.mem_of_mem_take z)] at hf; cases hf), spD_of (F0 := ⟨B, Z, σ, ρ⟩) r1 (.cons a1 .nil) rfl p1⟩
    · exact p1.elim
  refine PySem.W.methodCall_KW (pl := pl) (thn (ho.run pins s σ H _ I h') fun u s1 ⟨x, H1, I1, rx, a, dx, fs, ex, ea, l, q⟩ => ?_) ht
  subst ex
  obtain rfl : u = Value.ref a := rx
  refine getmeth_ok I1 ea hc hm l ?_
  exact PySem.W.callWith_K0 (first := [.ref a]) I1.kIn hm.kp (run_methS (us := [.ref a]) (vs := [.ref a]) hF (hr.mono hk) hb (passAt tk σ) I1 (.cons rfl .nil) q)

/-! ### x == y by an own __eq__ -/
def gEqO (c : Nat) (F : FM) : D → D → S → R D := fun x y s => match x, y with
  | .ins c1 _, .ins c2 _ => if c1 = c ∧ c2 = c then match F [x, y] s with
    | .ok (.bl b) s' => .ok (.bl b) s'
    | _ => .no
    else .no
  | _, _ => .no
variable {a b : Expr} {ma mb : EM}
def rEqOwn (K : PySem.W.Frag) (C : Addr) (sp : Sp) : R2 := fun x y H Q => ∃ p q dx dy fs gs, x = .ref p ∧ y = .ref q ∧ H p = some (.ins C dx fs) ∧ H q = some (.ins C dy gs) ∧ sp [x, y] H (fun v H' => ∃ b, v = .bl b ∧ Q (.bl b) H') E0
theorem op_eqOwn {C f : Addr} {fd : FuncData} {ps : List Str} {sp : Sp} (F : FnOk X.prog X.w X.K X.mg X.base (L2.CX X.prog X.w) k f fd ps sp) (hr : Room k X.A)
    (hs : PySem.W.findIn X.K (.ref C) "__eq__" = some (some (.ref f))) (hf : PySem.W.isFn X.K (.ref f) = true) (hb : Binds X.K fd ps []) : OpR X (compareOp .Eq) (rEqOwn X.K C sp) := by
  intro pins s σ H x y v u Q I rx ry h
  obtain ⟨a, b, dx, dy, fs, gs, rfl, rfl, ha, hb', hsp⟩ := h
  cases rx
  cases ry
  show wpAny (model X.prog X.w) X.A (richCompare .Eq (.ref a) (.ref b)) (EP X pins σ Q) X.xe s
  obtain ⟨mA, J, _⟩ := ins_get I.hok ha
  obtain ⟨mB, J', _⟩ := ins_get I.hok hb'
  obtain ⟨od, J, _⟩ := J.look
  obtain ⟨od', J', _⟩ := J'.look
  obtain ⟨m, hF⟩ := I.fr
  refine PySem.W.cmp_K (op := .Eq) (tb := .ref C) (by have := hr.un; omega) hF I.ok.mod.kin J J'.type (by simp [PySem.W.notFirst]) hs hf ?_
  have r2 : Vals [V.ref a, V.ref b] [Value.ref a, Value.ref b] := .cons rfl (.cons rfl .nil)
  refine wpAny_mono (run_fn (E := E0) (dvs := []) (ds := []) F hr hb .nil passL I r2 (by rw [List.append_nil]; exact hsp)) (fun w s' hq => ?_) fun _ _ z => z
  obtain ⟨z, H', I', rz, q⟩ := hq
  obtain ⟨bb, ez, q⟩ := q
  subst ez
  obtain rfl : w = .bool bb := rz
  exact ⟨.bl bb, H', I', rfl, q⟩
theorem q_eqO (c0 : Met X.prog X.w X.K X.mg X.base T k c "__eq__" 1 F) (hr : Room j X.A) (hk : k ≤ j := by decide) (ha : QE X T W a ma) (hb : QE X T W b mb) (hm : behindInMarks .Eq b = false := by rfl) : QE X T W (.Compare a [.Eq] [b] pos) (mOp (gEqO c F) ma mb) := by
  obtain ⟨f, fd, ps, hc, hmt, hF, hbn⟩ := c0.ex
  refine PE.conv (pe_cmpR (op_eqOwn hF (hr.mono hk) hmt.at_ hmt.fn hbn) ha hb hm) fun σ H Q h => ?_
  refine h.bind (AR X.K T) up_AR fun B Z cm ρ x H1 ⟨cm1, dx, s1, e1, r1, a1, p1⟩ => ?_
  refine ⟨B, Z, cm1, ρ, s1, r1, (p1.bind (A := AR X.K T) up_AR).mono fun y H2 ⟨cm2, dy, s2, e2, r2, a2, p2⟩ => ?_⟩
  have a1 : Rep X.K T cm2 (GV cm2 Z (Ow σ ρ) H2) x dx := Rep.mono e2.pre e2.sub _ _ a1
  unfold gEqO at p2
  dsimp only at p2
  split at p2
  · rename_i c1 ds1 c2 ds2
    split at p2
    · rename_i hcc
      obtain ⟨rfl, rfl⟩ := hcc
      have a1' := a1
      have a2' : Rep X.K T cm2 (GV cm2 Z (Ow σ ρ) H2) y _ := a2
      cases a1' with
      | @ins p dp _ fs _ k1 k2 k3 =>
        cases a2' with
        | @ins q dq _ gs _ l1 l2 l3 =>
          refine ⟨p, q, dp, dq, fs, gs, rfl, rfl, Sub.hidH _ _ k1, Sub.hidH _ _ l1, ?_⟩
          have eE : (E0 : XK) = fun cls d H' => W0 cls d σ H' := rfl
          rw [eE]
          refine spD_of (W := W0) (F0 := ⟨B, Z, σ, ρ⟩) r2 (.cons a1 (.cons a2 .nil)) rfl ?_
          generalize F [_, _] s2 = rr at p2 ⊢
          cases rr with
          | ok d s' =>
            refine fun v H' cm' ex r' z => ?_
            cases d with
            | bl b =>
              cases z
              exact ⟨b, rfl, p2 (.bl b) H' cm' ex r' (.bl b)⟩
            | _ => exact p2.elim
          | er _ _ _ => exact p2.elim
          | no => exact p2
    · exact p2.elim
  · exact p2.elim
end
end Tv

/-! Tv14: isinstance, functions as values, module constants -/
namespace Tv
open PySem PySem.Spec PyProof.Rows L2

def tyN : List String := ["NoneType", "bool", "int", "str", "tuple", "list", "dict"]
def insB (K : PySem.W.Frag) (C : Addr) : Bool :=
  decide (PySem.W.findIn K (.ref C) "__class__" = some (some (.builtin "object.__class__"))) && (decide (PySem.W.specialIn K (.builtin "object.__class__") "__get__" = some (some (.builtin "getset_descriptor.__get__"))) &&
    (decide (PySem.W.takesIn K (.builtin "object.__class__") = some true) && decide (PySem.W.mroIn K C (.type "object") = some true)))
def kitB (K : PySem.W.Frag) (cs : List Addr) : Bool := cs.all fun c => (tyN.all fun t => decide (PySem.W.kitOne K (.ref c) (.type t) = some false) && decide (PySem.W.kitOne K (.type t) (.ref c) = some false)) && cs.all fun d => decide (PySem.W.kitOne K (.ref c) (.ref d) = some (c == d))
/-- the plain classes of the text (their numbers) -/
structure IsC (K : PySem.W.Frag) (T : Tb) (cs : List Nat) : Prop where
  cl : ∀ c ∈ cs, ClsOk K T c
  ins : ∀ c ∈ cs, insB K (T.cls c) = true
  kit : kitB K (cs.map T.cls) = true
  inj : ∀ c ∈ cs, ∀ d ∈ cs, T.cls c = T.cls d → c = d
theorem IsC.insT {K : PySem.W.Frag} {T : Tb} {cs : List Nat} (h : IsC K T cs) {c : Nat} (hc : c ∈ cs) : InsT K (T.cls c) := by
  have q := h.ins c hc
  unfold insB at q
  obtain ⟨q1, q⟩ := Bool.and_eq_true_iff.mp q
  obtain ⟨q2, q⟩ := Bool.and_eq_true_iff.mp q
  obtain ⟨q3, q4⟩ := Bool.and_eq_true_iff.mp q
  exact ⟨(h.cl c hc).1, of_decide_eq_true q1, of_decide_eq_true q2, of_decide_eq_true q3, of_decide_eq_true q4⟩
theorem IsC.ty {K : PySem.W.Frag} {T : Tb} {cs : List Nat} (h : IsC K T cs) {c : Nat} (hc : c ∈ cs) {t : String} (ht : t ∈ tyN) : PySem.W.kitOne K (.ref (T.cls c)) (.type t) = some false ∧ PySem.W.kitOne K (.type t) (.ref (T.cls c)) = some false := by
  have q := List.all_eq_true.mp h.kit (T.cls c) (List.mem_map.mpr ⟨c, hc, rfl⟩)
  obtain ⟨q1, _⟩ := Bool.and_eq_true_iff.mp q
  obtain ⟨a, b⟩ := Bool.and_eq_true_iff.mp (List.all_eq_true.mp q1 t ht)
  exact ⟨of_decide_eq_true a, of_decide_eq_true b⟩
theorem IsC.cc {K : PySem.W.Frag} {T : Tb} {cs : List Nat} (h : IsC K T cs) {c d : Nat} (hc : c ∈ cs) (hd : d ∈ cs) : PySem.W.kitOne K (.ref (T.cls c)) (.ref (T.cls d)) = some (c == d) := by
  have q := List.all_eq_true.mp h.kit (T.cls c) (List.mem_map.mpr ⟨c, hc, rfl⟩)
  obtain ⟨_, q2⟩ := Bool.and_eq_true_iff.mp q
  have q3 := of_decide_eq_true (List.all_eq_true.mp q2 (T.cls d) (List.mem_map.mpr ⟨d, hd, rfl⟩))
  rw [q3]
  have e : (T.cls c == T.cls d) = (c == d) := by
    by_cases hcd : c = d
    · rw [hcd, beq_self_eq_true, beq_self_eq_true]
    · have : T.cls c ≠ T.cls d := fun e => hcd (h.inj c hc d hd e)
      rw [beq_eq_false_iff_ne.mpr this, beq_eq_false_iff_ne.mpr hcd]
  rw [e]
/-- the kind's name -/
def tyS (d : D) : Option String := match d with
  | .non => some "NoneType"
  | .bl _ => some "bool"
  | .int _ => some "int"
  | .str _ => some "str"
  | .tup _ => some "tuple"
  | .lst _ => some "list"
  | .dic _ _ => some "dict"
  | _ => none
/-- is it of that built-in type -/
def kTy (cs : List Nat) (t : String) (d : D) : Option Bool := match d with
  | .ins c _ => if c ∈ cs then some false else none
  | .bl _ => some (decide (t = "bool" ∨ t = "int"))
  | .non => some (decide (t = "NoneType"))
  | .int _ => some (decide (t = "int"))
  | .str _ => some (decide (t = "str"))
  | .tup _ => some (decide (t = "tuple"))
  | .lst _ => some (decide (t = "list"))
  | .dic _ _ => some (decide (t = "dict"))
  | _ => none
def kTy2 (cs : List Nat) (t u : String) (d : D) : Option Bool := match kTy cs t d, kTy cs u d with
  | some a, some b => some (a || b)
  | _, _ => none
/-- .. of that class -/
def kCl (cs : List Nat) (n : Nat) (d : D) : Option Bool := match d with
  | .ins c _ => if c ∈ cs ∧ n ∈ cs then some (c == n) else none
  | .non => if n ∈ cs then some false else none
  | .bl _ => if n ∈ cs then some false else none
  | .int _ => if n ∈ cs then some false else none
  | .str _ => if n ∈ cs then some false else none
  | .tup _ => if n ∈ cs then some false else none
  | .lst _ => if n ∈ cs then some false else none
  | .dic _ _ => if n ∈ cs then some false else none
  | _ => none
theorem kit_ty {K : PySem.W.Frag} {T : Tb} {cs : List Nat} (h : IsC K T cs) {t : String} (ht : t ∈ tyN) {d : D} {b : Bool} (hk : kTy cs t d = some b) : (∀ c ds, d = .ins c ds → InsT K (T.cls c)) ∧ ∃ v, tyD T d = some v ∧ PySem.W.kitOne K v (.type t) = some b := by
  have ht' := ht
  have ht : t = "NoneType" ∨ t = "bool" ∨ t = "int" ∨ t = "str" ∨ t = "tuple" ∨ t = "list" ∨ t = "dict" := by simpa [tyN] using ht
  cases d with
  | ins c ds =>
    have hk : (if c ∈ cs then some false else none) = some b := hk
    by_cases hc : c ∈ cs
    · rw [if_pos hc] at hk
      cases hk
      refine ⟨(fun c' ds' e => by cases e; exact h.insT hc), _, rfl, (h.ty hc ht').1⟩
    · rw [if_neg hc] at hk
      cases hk
  | non =>
    cases hk
    refine ⟨(fun _ _ e => nomatch e), _, rfl, ?_⟩
    rcases ht with rfl | rfl | rfl | rfl | rfl | rfl | rfl <;> rfl
  | bl x =>
    cases hk
    refine ⟨(fun _ _ e => nomatch e), _, rfl, ?_⟩
    rcases ht with rfl | rfl | rfl | rfl | rfl | rfl | rfl <;> rfl
  | int x =>
    cases hk
    refine ⟨(fun _ _ e => nomatch e), _, rfl, ?_⟩
    rcases ht with rfl | rfl | rfl | rfl | rfl | rfl | rfl <;> rfl
  | str x =>
    cases hk
    refine ⟨(fun _ _ e => nomatch e), _, rfl, ?_⟩
    rcases ht with rfl | rfl | rfl | rfl | rfl | rfl | rfl <;> rfl
  | tup x =>
    cases hk
    refine ⟨(fun _ _ e => nomatch e), _, rfl, ?_⟩
    rcases ht with rfl | rfl | rfl | rfl | rfl | rfl | rfl <;> rfl
  | lst x =>
    cases hk
    refine ⟨(fun _ _ e => nomatch e), _, rfl, ?_⟩
    rcases ht with rfl | rfl | rfl | rfl | rfl | rfl | rfl <;> rfl
  | dic x y =>
    cases hk
    refine ⟨(fun _ _ e => nomatch e), _, rfl, ?_⟩
    rcases ht with rfl | rfl | rfl | rfl | rfl | rfl | rfl <;> rfl
  | _ => cases hk
theorem isi_ty {K : PySem.W.Frag} {T : Tb} {cs : List Nat} (h : IsC K T cs) {t : String} (ht : t ∈ tyN) : IsiOk K T (.type t) (kTy cs t) := fun d b hk => kit_ty h ht hk
theorem isi_ty2 {K : PySem.W.Frag} {T : Tb} {cs : List Nat} (h : IsC K T cs) {t u : String} (ht : t ∈ tyN) (hu : u ∈ tyN) : IsiTOk K T [.type t, .type u] (kTy2 cs t u) := fun d b hk => by
  unfold kTy2 at hk
  split at hk
  · rename_i a b' h1 h2
    cases hk
    obtain ⟨q1, v, q2, q3⟩ := kit_ty h ht h1
    obtain ⟨_, v', q4, q5⟩ := kit_ty h hu h2
    rw [q2] at q4
    cases q4
    refine ⟨q1, v, q2, ?_⟩
    show PySem.W.kitAny K v [.type t, .type u] = _
    simp only [PySem.W.kitAny, q3, q5]
    cases a <;> cases b' <;> rfl
  · cases hk
theorem isi_cl {K : PySem.W.Frag} {T : Tb} {cs : List Nat} (h : IsC K T cs) {n : Nat} : IsiOk K T (.ref (T.cls n)) (kCl cs n) := fun d b hk => by
  have flat : ∀ {d : D} {t : String}, t ∈ tyN → (∀ c ds, d ≠ .ins c ds) → tyD T d = some (.type t) → kCl cs n d = (if n ∈ cs then some false else none) → kCl cs n d = some b → (∀ c ds, d = .ins c ds → InsT K (T.cls c)) ∧ ∃ t, tyD T d = some t ∧ PySem.W.kitOne K t (.ref (T.cls n)) = some b := fun {d t} ht nd e1 e2 hk => by
    rw [e2] at hk
    by_cases hc : n ∈ cs
    · rw [if_pos hc] at hk
      cases hk
      exact ⟨fun c ds e => absurd e (nd c ds), _, e1, (h.ty hc ht).2⟩
    · rw [if_neg hc] at hk
      cases hk
  cases d with
  | ins c ds =>
    have hk : (if c ∈ cs ∧ n ∈ cs then some (c == n) else none) = some b := hk
    by_cases hc : c ∈ cs ∧ n ∈ cs
    · rw [if_pos hc] at hk
      cases hk
      exact ⟨(fun c' ds' e => by cases e; exact h.insT hc.1), _, rfl, h.cc hc.1 hc.2⟩
    · rw [if_neg hc] at hk
      cases hk
  | non => exact flat (t := "NoneType") (by decide) (fun _ _ e => nomatch e) rfl rfl hk
  | bl x => exact flat (t := "bool") (by decide) (fun _ _ e => nomatch e) rfl rfl hk
  | int x => exact flat (t := "int") (by decide) (fun _ _ e => nomatch e) rfl rfl hk
  | str x => exact flat (t := "str") (by decide) (fun _ _ e => nomatch e) rfl rfl hk
  | tup x => exact flat (t := "tuple") (by decide) (fun _ _ e => nomatch e) rfl rfl hk
  | lst x => exact flat (t := "list") (by decide) (fun _ _ e => nomatch e) rfl rfl hk
  | dic x y => exact flat (t := "dict") (by decide) (fun _ _ e => nomatch e) rfl rfl hk
  | _ => cases hk
section
variable {X : Cx} {T : Tb} {W : WX} {e e2 : Expr} {m : EM} {pos p p2 p3 p4 : Pos} {x : Str} {cs : List Nat} {t u : String}
/-- the built-in types' names -/
theorem boot_of {t : String} (ht : t ∈ tyN) (hn : t ≠ "NoneType") : bootBuiltins t = some (.type t) := by
  have ht : t = "NoneType" ∨ t = "bool" ∨ t = "int" ∨ t = "str" ∨ t = "tuple" ∨ t = "list" ∨ t = "dict" := by simpa [tyN] using ht
  rcases ht with rfl | rfl | rfl | rfl | rfl | rfl | rfl
  · exact absurd rfl hn
  · decide +kernel
  · decide +kernel
  · decide +kernel
  · decide +kernel
  · decide +kernel
  · decide +kernel
theorem q_isTy (h : IsC X.K T cs) (hg2 : Gl X t := by rfl) (hm2 : X.mg t = none) (hg : Gl X "isinstance" := by rfl) (hm : X.mg "isinstance" = none) (ha : QB X T W e m) (ht : t ∈ tyN := by decide) (hnt : t ≠ "NoneType" := by decide) (hn : (t : Str) ≠ "__name__" := by decide) (hd : ((t : Str) == ("__debug__" : Str)) = false := by decide)
    (hs : starEach [e, .Name t p2] X.env = (false, eval e X.env) :: starEach [.Name t p2] X.env := by rfl) (hs2 : starEach [.Name t p2] X.env = (false, eval (.Name t p2) X.env) :: starEach [] X.env := by rfl) (hpl : (backTo pos (starEach [.Name t p2] X.env)).any (·.1) = false := by rfl) :
    QE X T W (.Call (.Name "isinstance" p) [e, .Name t p2] [] pos) (gIsi (kTy cs t) m) :=
  q_isi1 (te := fun _ _ _ => True) (isi_ty h ht) (.ty t) (pe_bltn (v := .ty t) hg2 hm2 (boot_of ht hnt) rfl hn hd) hg hm ha hs hs2 hpl
theorem q_isTy2 {x1 : Nat} (h : IsC X.K T cs) (hg2 : Gl X t := by rfl) (hm2 : X.mg t = none) (hg3 : Gl X u := by rfl) (hm3 : X.mg u = none) (hg : Gl X "isinstance" := by rfl) (hm : X.mg "isinstance" = none) (ha : QB X T W e m) (ht : t ∈ tyN := by decide) (hnt : t ≠ "NoneType" := by decide) (hn : (t : Str) ≠ "__name__" := by decide) (hd : ((t : Str) == ("__debug__" : Str)) = false := by decide)
    (hu : u ∈ tyN := by decide) (hnu : u ≠ "NoneType" := by decide) (hnu2 : (u : Str) ≠ "__name__" := by decide) (hdu : ((u : Str) == ("__debug__" : Str)) = false := by decide)
    (hs : starEach [e, .Tuple [.Name t p2, .Name u p3] x1 p4] X.env = (false, eval e X.env) :: starEach [.Tuple [.Name t p2, .Name u p3] x1 p4] X.env := by rfl) (hs2 : starEach [.Tuple [.Name t p2, .Name u p3] x1 p4] X.env = (false, eval (.Tuple [.Name t p2, .Name u p3] x1 p4) X.env) :: starEach [] X.env := by rfl) (hpl : (backTo pos (starEach [.Tuple [.Name t p2, .Name u p3] x1 p4] X.env)).any (·.1) = false := by rfl)
    (ht1 : starEach [.Name t p2, .Name u p3] X.env = (false, eval (.Name t p2) X.env) :: starEach [.Name u p3] X.env := by rfl) (ht2 : starEach [.Name u p3] X.env = (false, eval (.Name u p3) X.env) :: starEach [] X.env := by rfl) :
    QE X T W (.Call (.Name "isinstance" p) [e, .Tuple [.Name t p2, .Name u p3] x1 p4] [] pos) (gIsi (kTy2 cs t u) m) :=
  q_isi2 (isi_ty2 h ht hu) (.ty t) (.ty u) (pe_bltn (v := .ty t) hg2 hm2 (boot_of ht hnt) rfl hn hd) (pe_bltn (v := .ty u) hg3 hm3 (boot_of hu hnu) rfl hnu2 hdu) hg hm ha hs hs2 hpl ht1 ht2
theorem q_isCl {n : Nat} (h : IsC X.K T cs) (hm2 : X.mg x = some (.ref (T.cls n))) (hg2 : Gl X x := by rfl) (hg : Gl X "isinstance" := by rfl) (hm : X.mg "isinstance" = none) (ha : QB X T W e m) (hd : (x == ("__debug__" : Str)) = false := by decide)
    (hs : starEach [e, .Name x p2] X.env = (false, eval e X.env) :: starEach [.Name x p2] X.env := by rfl) (hs2 : starEach [.Name x p2] X.env = (false, eval (.Name x p2) X.env) :: starEach [] X.env := by rfl) (hpl : (backTo pos (starEach [.Name x p2] X.env)).any (·.1) = false := by rfl) :
    QE X T W (.Call (.Name "isinstance" p) [e, .Name x p2] [] pos) (gIsi (kCl cs n) m) :=
  q_isi1 (te := fun _ _ _ => True) (isi_cl h) (.own _) (pe_glob (v := .ref (T.cls n)) hg2 hm2 rfl hd) hg hm ha hs hs2 hpl
end

/-! ### functions as values -/
section
variable {P : Program} {w : World} {K : PySem.W.Frag} {mg : Str → Option Value} {base : Heap} {T : Tb}
/-- the def at T.fn i -/
structure FnA (P : Program) (w : World) (K : PySem.W.Frag) (mg : Str → Option Value) (base : Heap) (T : Tb) (k i n : Nat) (F : FM) : Prop where
  ex : ∃ fd ps, FnOk P w K mg base (L2.CX P w) k (T.fn i) fd ps (spD K T n F) ∧ PySem.W.keepIn K (.ref (T.fn i)) = true ∧ Binds K fd ps []
theorem FnA.tb {o : Option Addr} {k i n : Nat} {F : FM} (h : FnA P w K mg base T k i n F) : FnA P w K mg base (T.w o) k i n F := by
  obtain ⟨fd, ps, h1, h2⟩ := h.ex
  exact ⟨fd, ps, h1.imp fun vs H Q E z => spD_tb z, h2⟩
theorem Fn.at_ {k i n : Nat} {x : Str} {F : FM} (h : Fn P w K mg base T k x n F) (e : mg x = some (.ref (T.fn i))) : FnA P w K mg base T k i n F := by
  obtain ⟨f, fd, ps, h1, h2, h3, h4⟩ := h.ex
  rw [e] at h2
  cases h2
  exact ⟨fd, ps, h1, h3, h4⟩
end
def mCallV (i : Nat) (tbl : List (Nat × FM)) (lm : LM) : EM := fun ρ s => match ρ[i]? with
  | some (.v (.fn j)) => match tbl.lookup j with
    | some F => (lm ρ s).bind fun ds s1 => F ds s1
    | none => .no
  | _ => .no
section
variable {X : Cx} {T : Tb} {W : WX} {e : Expr} {es : List Expr} {lm : LM} {pos p : Pos} {x : Str} {i j k n : Nat} {tbl : List (Nat × FM)}
theorem q_gfn {i : Nat} (hm : X.mg x = some (.ref (T.fn i))) (hg : Gl X x := by rfl) (hd : (x == ("__debug__" : Str)) = false := by decide) : QE X T W (.Name x pos) (mC (.fn i)) := q_c (v := .ref (T.fn i)) (pe_glob hg hm rfl hd) fun _ _ => .fn i
theorem q_callV (hF : ∀ q ∈ tbl, FnA X.prog X.w X.K X.mg X.base T k q.1 n q.2) (hr : Room j X.A) (tk : Takes X W) (hk : k ≤ j := by decide) (ha : QS X T W n (e :: es) lm) (hN : X.N[i]? = some x := by rfl) (hv : Vis X.env.scope x := by first | exact Or.inl rfl | exact Or.inr (Or.inl rfl) | exact Or.inr (Or.inr rfl))
    (hd : (x == ("__debug__" : Str)) = false := by decide) (hcd : (x == ("__classdict__" : Str)) = false := by decide)
    (he : starEach (e :: es) X.env = (false, eval e X.env) :: starEach es X.env := by rfl) (hpl : (backTo pos (starEach es X.env)).any (·.1) = false := by rfl) :
    QE X T W (.Call (.Name x p) (e :: es) [] pos) (mCallV i tbl lm) := by
  refine ⟨fun pins s σ H Q I h => ?_⟩
  obtain ⟨B, Z, cm, ρ, s0, r, q⟩ := h
  unfold mCallV at q
  split at q
  · rename_i i' e0
    obtain ⟨v, h1, h2⟩ := r.val _ _ e0
    cases h2
    split at q
    · rename_i F eF
      obtain ⟨fd, ps, F1, kp, b⟩ := (hF _ (lookup_mem eF)).ex
      refine wpAny_Call_Name_kw (thn ((pe_var (pos := p) hN hv hd hcd).run pins s σ H (fun v H1 => v = .ref (T.fn i') ∧ H1 = H) I ⟨_, h1, rfl, rfl⟩) fun u s1 ⟨v, H1, I1, r1, q1⟩ => ?_)
      obtain ⟨rfl, rfl⟩ := q1
      cases r1
      have h' : tCallS (spD X.K T n F) (WE W) (tP X.K T W (ALn X.K T n) lm) σ H1 Q := tCallF_of ⟨B, Z, cm, ρ, s0, r, q⟩
      refine PySem.W.callWith_K (h₀ := X.base) I.ok.mod.kin kp (thn (ha.run pos pins s1 σ _ _ I1 h') fun us s2 ⟨vs, H2, I2, r, q⟩ => ⟨I2.kIn, ?_⟩) he hpl
      exact run_fnS (E := WE W) F1 (hr.mono hk) b (passAt tk σ) I2 r q
    · exact q.elim
  · exact q.elim

/-! ### constants of the module: tuples | dicts -/
theorem q_gtup {v : Addr} {xs : List V} {ds : List D} (hm : X.mg x = some (.ref v)) (hs : ∀ H, SqT X.K H v xs) (hr : ∀ cm G, Reps X.K T cm G xs ds) (hg : Gl X x := by rfl) (hd : (x == ("__debug__" : Str)) = false := by decide) : QE X T W (.Name x pos) (mC (.tup ds)) :=
  q_c (v := .ref v) (pe_glob hg hm rfl hd) fun cm G => .tup (hs G) (hr cm G)
end
end Tv

/-! Tv15: rules in short for the printer -/
namespace Tv
open PySem PySem.Spec PyProof.Rows L2

theorem hu64 {A : Around} {k : Nat} (hr : Room k A) : A.units + 64 < cLine := by have := hr.un; omega
def gSliceA (x : D) (lo hi : Option Int) (s : S) : R D := match x with
  | .tup a => .ok (.tup (cutD a lo hi)) s
  | .lst a => .ok (.lst (cutD a lo hi)) s
  | .frz a => .ok (.lst (cutD a lo hi)) s
  | .str z => if z.length ≤ sizeLine then .ok (.str (cutS z lo hi)) s else .no
  | _ => .no
def gAddA : D → D → S → R D := fun x y s => match x, y with
  | .int i, .int j => .ok (.int (i + j)) s
  | .str a, .str b => if a.length + b.length ≤ sizeLine then .ok (.str (a ++ b)) s else .no
  | .tup a, .tup b => if a.length + b.length ≤ sizeLine then .ok (.tup (a ++ b)) s else .no
  | .lst a, .lst b => if a.length + b.length ≤ sizeLine then .ok (.lst (a ++ b)) s else .no
  | _, _ => .no
def fldOkB (T : Tb) (f : Str) (ixs : List (Nat × Nat)) : Bool := ixs.all fun p => decide (fldIx (T.fl p.1) f = some p.2)
theorem fldOkB_ok {T : Tb} {f : Str} {ixs : List (Nat × Nat)} (h : fldOkB T f ixs = true) : FldOk T f ixs := fun p hp => of_decide_eq_true (List.all_eq_true.mp h p hp)
theorem ClsOk.no {K : PySem.W.Frag} {T : Tb} {c : Nat} {f : Str} (h : ClsOk K T c) (hf : (T.fl c).contains f = true) : NoAttr K (T.cls c) f := h.2 f (List.contains_iff_mem.mp hf)
section
variable {X : Cx} {T : Tb} {W : WX} {a b e : Expr} {ma mb m : EM} {pos p2 : Pos} {lo hi : Option Expr} {lom him : OM} {x : Str}
theorem osl_any : OSl X T (AR X.K T) (fun x lo hi H Q => (rSlA X.K x lo hi H Q ∨ rSlS x lo hi H Q) ∨ rSlL X.K x lo hi H Q) gSliceA := by
  intro F cm H s W x d lo hi Q r a p
  cases d with
  | tup ds => exact .inl (osl_tup F cm H s W x _ lo hi Q r a p)
  | str z => exact .inl (osl_tup F cm H s W x _ lo hi Q r a p)
  | lst ds => exact .inr (osl_lst F cm H s W x (.lst ds) lo hi Q r a fun v H' cm' ex r' z => p v H' cm' ex r' (AF.val r z))
  | frz ds => exact .inr (osl_lst F cm H s W x (.frz ds) lo hi Q r a fun v H' cm' ex r' z => p v H' cm' ex r' (AF.val r z))
  | _ => exact p.elim
theorem q_sliceA (he : QB X T W e m) (hl : QO X T W lo lom) (hh : QO X T W hi him) : QE X T W (.Subscript e (.Slice lo hi none p2) pos) (mSlice gSliceA m lom him) :=
  PE.conv (pe_slice ((sl_tupA.or sl_str).or sl_list) he hl hh) fun _ _ _ h => tSl_of osl_any up_AR h
theorem o2_addA : O2 X T (AR X.K T) (fun x y H Q => rAddAll X.K x y H Q ∨ rCat x y H Q) gAddA := by
  intro F cm H s W x y dx dy Q r a b p
  cases dx with
  | int i =>
    cases dy with
    | int j => exact .inl (o2_add F cm H s W x y _ _ Q r a b p)
    | _ => exact p.elim
  | str i =>
    cases dy with
    | str j => exact .inl (o2_add F cm H s W x y _ _ Q r a b p)
    | _ => exact p.elim
  | tup i =>
    cases dy with
    | tup j => exact .inl (o2_add F cm H s W x y _ _ Q r a b p)
    | _ => exact p.elim
  | lst i =>
    cases dy with
    | lst j =>
      refine .inr (o2_cat F cm H s W x y (.lst i) (.lst j) Q r a b ?_)
      unfold gCat
      unfold gAddA at p
      dsimp only at p ⊢
      split at p
      · rename_i hl
        rw [if_pos hl]
        exact fun v H' cm' ex r' z => p v H' cm' ex r' (AF.val r z)
      · exact p.elim
    | _ => exact p.elim
  | _ => exact p.elim
theorem q_addA (ha : QB X T W a ma) (hb : QB X T W b mb) : QE X T W (.BinOp a .Add b pos) (mOp gAddA ma mb) := q_op (op_addAll.or op_cat) o2_addA up_AR ha hb
theorem q_gintE {i : Int} (h : ∃ t, X.mg x = some (.int i t)) (hg : Gl X x := by rfl) (hd : (x == ("__debug__" : Str)) = false := by decide) : QE X T W (.Name x pos) (mC (.int i)) := by
  obtain ⟨t, ht⟩ := h
  exact q_gint hg ht hd
theorem q_gstrE {i : Str} (h : ∃ t, X.mg x = some (.str i t)) (hg : Gl X x := by rfl) (hd : (x == ("__debug__" : Str)) = false := by decide) : QE X T W (.Name x pos) (mC (.str i)) := by
  obtain ⟨t, ht⟩ := h
  exact q_gstr hg ht hd
theorem q_fldC {f : Str} {cs : List Nat} {ixs : List (Nat × Nat)} (h : IsC X.K T cs) (he : QB X T W e m) (hx : ∀ p ∈ ixs, p.1 ∈ cs := by decide) (hf : fldOkB T f ixs = true := by kernel_rfl) (hb : attributeBase e f X.env (eval e X.env) = eval e X.env := by rfl) : QE X T W (.Attribute e f pos) (mFld ixs m) :=
  q_fld (fun p hp => h.cl p.1 (hx p hp)) (fldOkB_ok hf) he hb
theorem IsC.tb {K : PySem.W.Frag} {o : Option Addr} {cs : List Nat} (h : IsC K T cs) : IsC K (T.w o) cs := ⟨h.cl, h.ins, h.kit, h.inj⟩
end
end Tv

/-! Tv16: the end -/
namespace Tv
open PySem PySem.Spec PyProof.Rows L2
theorem reps_ints {K : PySem.W.Frag} {T : Tb} {cm : List Addr} {G : Hp} : ∀ ns : List Int, Reps K T cm G (ns.map V.int) (ns.map D.int)
  | [] => .nil
  | n :: ns => .cons (.int n) (reps_ints ns)
abbrev scr (ns : List Int) : D := .frz (ns.map D.int)
theorem lawAt {l : PySem.W.OpenLaw} {w : World} {K : PySem.W.Frag} {mg : Str → Option Value} {fa : Addr} {h : Heap} {k : Nat} {fd : FuncData} {T : Tb} {F : FM} (hb : ∀ (s : Shared) (v : Value), BindsTo s fd ⟨[v], []⟩ [("script", v)])
    (hF : ∀ base : Heap, K.In base → base.Ns mainGlobals mg → FnOk l.prog w K mg base (L2.CX l.prog w) k fa fd ["script"] (spD K T 1 F))
    (hl : ∀ ns : List Int, ns.length ≤ 63 → (∀ z ∈ ns, Builtin.Int.intBits z ≤ 1048576) → ∃ s, F [scr ns] [] = .ok (.bl true) s) : LamX.LawAtS l w K (L2.CX l.prog w) k 63 "script" mg fa h := by
  refine ⟨fd, [], spD K T 1 F, (fun _ h => nomatch h), (fun _ h => nomatch h), (fun _ h => nomatch h), hb, fun H a ns h1 h2 _ hS => ?_, fun base b1 b2 _ => hF base b1 b2⟩
  obtain ⟨s, e⟩ := hl ns h1 h2
  have eG : GV [] (fun _ => False) O0 H = H := by
    funext b
    show hid _ H b = H b
    unfold hid
    exact if_neg fun z => by
      rcases z with z | z | z
      · cases z
      · exact z
      · exact z
  refine ⟨rfl, [], fun _ => False, [scr ns], [], ⟨rfl, List.nodup_nil, (fun n a d e => by cases e), (fun _ h => nomatch h), (fun _ h => h.elim), (fun _ h => nomatch h)⟩, ?_, ?_⟩
  · rw [eG]
    exact .cons (.frz hS (reps_ints ns)) .nil
  · rw [e]
    intro v H' cm' _ _ r
    cases r
    rfl
end Tv

/-! Tv17: the evaluator's steps, applied forms -/
namespace Tv
open PySem PySem.Spec PyProof.Rows L2
section
variable {ρ : List SD} {s : S} {a b c m : EM} {ta tb tc : TM} {lm : LM} {x y d : D} {i k n : Nat} {sa sb : SM} {F : FM}
theorem v_var : mVar i ρ s = match (ρ[i]? : Option SD) with | some (.v d) => .ok d s | _ => .no := by
  unfold mVar
  cases (ρ[i]? : Option SD) with
  | none => rfl
  | some y => cases y <;> rfl
theorem v_varB : mVarB i ρ s = match (ρ[i]? : Option SD) with | some (.v d) => .ok d s | some (.own d) => .ok d s | _ => .no := by
  unfold mVarB
  cases (ρ[i]? : Option SD) with
  | none => rfl
  | some y => cases y <;> rfl
theorem v_c : mC d ρ s = .ok d s := rfl
theorem v_op {g : D → D → S → R D} : mOp g a b ρ s = match a ρ s with
  | .ok x s1 => (match b ρ s1 with | .ok y s2 => g x y s2 | .er c ds s => .er c ds s | .no => .no)
  | .er c ds s => .er c ds s
  | .no => .no := by
  unfold mOp
  cases a ρ s <;> (try rfl)
  rename_i x1 s1
  dsimp only [R.bind, mE]
  cases b ρ s1 <;> rfl
theorem v_un {g : D → S → R D} : mUn g a ρ s = match a ρ s with
  | .ok x s1 => g x s1
  | .er c ds s => .er c ds s
  | .no => .no := by
  unfold mUn
  cases a ρ s <;> rfl
theorem v_nil : mNil ρ s = .ok [] s := rfl
theorem v_cons : mCons a lm ρ s = match a ρ s with
  | .ok x s1 => (match lm ρ s1 with | .ok xs s2 => .ok (x :: xs) s2 | .er c ds s => .er c ds s | .no => .no)
  | .er c ds s => .er c ds s
  | .no => .no := by
  unfold mCons
  cases a ρ s <;> (try rfl)
  rename_i x1 s1
  dsimp only [R.bind, mE]
  cases lm ρ s1 <;> rfl
theorem v_tup : mTup lm ρ s = match lm ρ s with
  | .ok xs s1 => .ok (.tup xs) s1
  | .er c ds s => .er c ds s
  | .no => .no := by
  unfold mTup
  cases lm ρ s <;> rfl
theorem v_lst : mLst lm ρ s = match lm ρ s with
  | .ok xs s1 => .ok (.lst xs) s1
  | .er c ds s => .er c ds s
  | .no => .no := by
  unfold mLst
  cases lm ρ s <;> rfl
theorem v_test : mTest a ρ s = match a ρ s with
  | .ok x s1 => (match x with | .bl b => .ok b s1 | _ => .no)
  | .er c ds s => .er c ds s
  | .no => .no := by
  unfold mTest
  cases a ρ s <;> (try rfl)
theorem v_and : mAnd ta tb ρ s = match ta ρ s with
  | .ok x s1 => (match x with | true => tb ρ s1 | false => .ok false s1)
  | .er c ds s => .er c ds s
  | .no => .no := by
  unfold mAnd
  cases ta ρ s <;> (try rfl)
theorem v_or : mOr ta tb ρ s = match ta ρ s with
  | .ok x s1 => (match x with | true => .ok true s1 | false => tb ρ s1)
  | .er c ds s => .er c ds s
  | .no => .no := by
  unfold mOr
  cases ta ρ s <;> (try rfl)
theorem v_not : mNot ta ρ s = match ta ρ s with
  | .ok x s1 => .ok (!x) s1
  | .er c ds s => .er c ds s
  | .no => .no := by
  unfold mNot
  cases ta ρ s <;> rfl
theorem v_if : mIf tc a b ρ s = match tc ρ s with
  | .ok x s1 => (match x with | true => a ρ s1 | false => b ρ s1)
  | .er c ds s => .er c ds s
  | .no => .no := by
  unfold mIf
  cases tc ρ s <;> (try rfl)
theorem v_andV : mAndV a b ρ s = match a ρ s with
  | .ok x s1 => (match x with | .bl true => b ρ s1 | .bl false => .ok (.bl false) s1 | _ => .no)
  | .er c ds s => .er c ds s
  | .no => .no := by
  unfold mAndV
  cases a ρ s <;> (try rfl)
theorem v_orV : mOrV a b ρ s = match a ρ s with
  | .ok x s1 => (match x with | .bl true => .ok (.bl true) s1 | .bl false => b ρ s1 | _ => .no)
  | .er c ds s => .er c ds s
  | .no => .no := by
  unfold mOrV
  cases a ρ s <;> (try rfl)
theorem v_notV : mNotV a ρ s = match a ρ s with
  | .ok x s1 => (match x with | .bl b => .ok (.bl (!b)) s1 | _ => .no)
  | .er c ds s => .er c ds s
  | .no => .no := by
  unfold mNotV
  cases a ρ s <;> (try rfl)
theorem v_chain {g g' : D → D → S → R D} : mChain g g' a b c ρ s = match a ρ s with
  | .ok x s1 => (match b ρ s1 with
    | .ok y s2 => (match g x y s2 with
      | .ok z s3 => (match z with
        | .bl true => (match c ρ s3 with | .ok w s4 => g' y w s4 | .er c ds s => .er c ds s | .no => .no)
        | .bl false => .ok (.bl false) s3
        | _ => .no)
      | .er c ds s => .er c ds s
      | .no => .no)
    | .er c ds s => .er c ds s
    | .no => .no)
  | .er c ds s => .er c ds s
  | .no => .no := by
  unfold mChain
  cases a ρ s <;> (try rfl)
  rename_i x1 s1
  dsimp only [R.bind]
  cases b ρ s1 <;> (try rfl)
  rename_i x2 s2
  dsimp only [R.bind]
  cases g x1 x2 s2 <;> (try rfl)
  rename_i x3 s3
  dsimp only [R.bind]
  cases x3 <;> (try rfl)
  rename_i k
  cases k <;> (try rfl)
  dsimp only [R.bind]
  cases c ρ s3 <;> rfl
theorem v_call {g : List D → S → R D} : mCall g lm ρ s = match lm ρ s with
  | .ok xs s1 => g xs s1
  | .er c ds s => .er c ds s
  | .no => .no := by
  unfold mCall
  cases lm ρ s <;> rfl
theorem v_callF : mCallF F lm ρ s = match lm ρ s with
  | .ok xs s1 => F xs s1
  | .er c ds s => .er c ds s
  | .no => .no := by
  unfold mCallF
  cases lm ρ s <;> rfl
theorem v_callV {tbl : List (Nat × FM)} : mCallV i tbl lm ρ s = match (ρ[i]? : Option SD) with
  | some (.v (.fn j)) => (match tbl.lookup j with
    | some F => (match lm ρ s with | .ok xs s1 => F xs s1 | .er c ds s => .er c ds s | .no => .no)
    | none => .no)
  | _ => .no := by
  unfold mCallV
  cases (ρ[i]? : Option SD) with
  | none => rfl
  | some y =>
    cases y with
    | v d =>
      cases d <;> (try rfl)
      rename_i j
      dsimp only
      cases tbl.lookup j <;> (try rfl)
      dsimp only
      cases lm ρ s <;> rfl
    | _ => rfl
theorem v_isi {k : D → Option Bool} : gIsi k m ρ s = match m ρ s with
  | .ok x s1 => (match k x with | some b => .ok (.bl b) s1 | none => .no)
  | .er c ds s => .er c ds s
  | .no => .no := by
  unfold gIsi
  cases m ρ s <;> (try rfl)
theorem v_slice {g : D → Option Int → Option Int → S → R D} {lo hi : OM} : mSlice g m lo hi ρ s = match m ρ s with
  | .ok x s1 => (match lo ρ s1 with
    | .ok l s2 => (match hi ρ s2 with | .ok u s3 => g x l u s3 | .er c ds s => .er c ds s | .no => .no)
    | .er c ds s => .er c ds s
    | .no => .no)
  | .er c ds s => .er c ds s
  | .no => .no := by
  unfold mSlice
  cases m ρ s <;> (try rfl)
  rename_i x1 s1
  dsimp only [R.bind, mE]
  cases lo ρ s1 <;> (try rfl)
  rename_i x2 s2
  dsimp only [R.bind, mE]
  cases hi ρ s2 <;> rfl
theorem v_part : mPart m ρ s = match m ρ s with
  | .ok x s1 => (match x with | .int i => .ok (some i) s1 | _ => .no)
  | .er c ds s => .er c ds s
  | .no => .no := by
  unfold mPart
  cases m ρ s <;> (try rfl)
theorem v_noPart : mNoPart ρ s = .ok none s := rfl
theorem v_fld {ixs : List (Nat × Nat)} : mFld ixs m ρ s = match m ρ s with
  | .ok x s1 => (match x with
    | .ins c ds => match ixs.lookup c with
      | some j => (match (ds[j]? : Option D) with | some d => .ok d s1 | none => .no)
      | none => .no
    | .cell n => match (s1[n]? : Option D) with
      | some (.ins c ds) => (match ixs.lookup c with
        | some j => (match (ds[j]? : Option D) with | some d => .ok d s1 | none => .no)
        | none => .no)
      | _ => .no
    | _ => .no)
  | .er c ds s => .er c ds s
  | .no => .no := by
  unfold mFld
  cases m ρ s <;> (try rfl)
theorem v_comp {vs : List Nat} {mi : LM} {pm : Pt} {tt : TM} {te : EM} : mComp vs mi pm tt te ρ s = match mi ρ s with
  | .ok ds s1 => if unowned ρ vs = true ∧ ds.length ≤ sizeLine then (match compF pm tt te (wipeR ρ vs) ds s1 with | .ok ys s2 => .ok (.lst ys) s2 | .er c ds s => .er c ds s | .no => .no) else .no
  | .er c ds s => .er c ds s
  | .no => .no := by
  unfold mComp
  cases mi ρ s <;> (try rfl)
  rename_i x1 s1
  dsimp only [R.bind]
  split <;> (try rfl)
  cases compF pm tt te (wipeR ρ vs) x1 s1 <;> rfl
theorem v_yes : mYes ρ s = .ok true s := rfl
theorem v_seqI : mSeqI m ρ s = match m ρ s with
  | .ok x s1 => (match x with
    | .tup ds => .ok ds s1
    | .lst ds => .ok ds s1
    | .frz ds => .ok ds s1
    | .str z => .ok (z.cps.toList.map fun c => .str ⟨#[c]⟩) s1
    | _ => .no)
  | .er c ds s => .er c ds s
  | .no => .no := by
  unfold mSeqI
  cases m ρ s <;> (try rfl)
theorem v_rng1 : mRng1 lm ρ s = match lm ρ s with
  | .ok xs s1 => (match xs with
    | [.int j] => if rngOk j then .ok (rngD 0 j.toNat) s1 else .no
    | _ => .no)
  | .er c ds s => .er c ds s
  | .no => .no := by
  unfold mRng1
  cases lm ρ s <;> (try rfl)
theorem v_rng2 : mRng2 lm ρ s = match lm ρ s with
  | .ok xs s1 => (match xs with
    | [.int i, .int j] => if rngOk i && rngOk j then .ok (rngD i (j - i).toNat) s1 else .no
    | _ => .no)
  | .er c ds s => .er c ds s
  | .no => .no := by
  unfold mRng2
  cases lm ρ s <;> (try rfl)
theorem v_enumI : mEnumI lm ρ s = match lm ρ s with
  | .ok xs s1 => (match xs with
    | [x] => (match seqV x with | some ds => .ok (enumD ds) s1 | none => .no)
    | _ => .no)
  | .er c ds s => .er c ds s
  | .no => .no := by
  unfold mEnumI
  cases lm ρ s <;> (try rfl)
theorem v_zipI : mZipI lm ρ s = match lm ρ s with
  | .ok xs s1 => (match xs with
    | [x, y] => (match seqV x, seqV y with | some ds, some es => .ok (zipD ds es) s1 | _, _ => .no)
    | _ => .no)
  | .er c ds s => .er c ds s
  | .no => .no := by
  unfold mZipI
  cases lm ρ s <;> (try rfl)
/-! ### statements -/
theorem v_next : mNext ρ s = .nx ρ s := rfl
theorem v_seq : mSeq sa sb ρ s = match sa ρ s with
  | .nx ρ' s' => sb ρ' s'
  | .rt d s' => .rt d s'
  | .bk ρ' s' => .bk ρ' s'
  | .ct ρ' s' => .ct ρ' s'
  | .er c ds ρ' s' => .er c ds ρ' s'
  | .no => .no := by
  unfold mSeq
  cases sa ρ s <;> rfl
theorem v_set : mSet i m ρ s = match m ρ s with
  | .ok d s' => .nx (ρ.set i (.v d)) s'
  | .er c ds s' => .er c ds ρ s'
  | .no => .no := by
  unfold mSet mE
  cases m ρ s <;> rfl
theorem v_setO : mSetO i m ρ s = match m ρ s with
  | .ok d s' => (if i < ρ.length then .nx (ρ.set i (.own d)) s' else .no)
  | .er c ds s' => .er c ds ρ s'
  | .no => .no := by
  unfold mSetO mE
  cases m ρ s <;> rfl
theorem v_drop : mDrop m ρ s = match m ρ s with
  | .ok d s' => .nx ρ s'
  | .er c ds s' => .er c ds ρ s'
  | .no => .no := by
  unfold mDrop mE
  cases m ρ s <;> rfl
theorem v_ret : mRet m ρ s = match m ρ s with
  | .ok d s' => .rt d s'
  | .er c ds s' => .er c ds ρ s'
  | .no => .no := by
  unfold mRet mE
  cases m ρ s <;> rfl
theorem v_retN : mRetN ρ s = .rt .non s := rfl
theorem v_brk : mBrk ρ s = .bk ρ s := rfl
theorem v_cnt : mCnt ρ s = .ct ρ s := rfl
theorem v_ifS : mIfS tc sa sb ρ s = match tc ρ s with
  | .ok b s' => (match b with | true => sa ρ s' | false => sb ρ s')
  | .er k ds s' => .er k ds ρ s'
  | .no => .no := by
  show mIfS tc sa sb ρ s = _
  unfold mIfS
  cases tc ρ s with
  | ok b s' => cases b <;> rfl
  | er _ _ _ => rfl
  | no => rfl
theorem v_frz : mFrz i sa ρ s = sa (frz i ρ) s := rfl
theorem v_while {fuel : List SD → S → Nat} : mWhile fuel tc sb ρ s = loopW tc sb (fuel ρ s) ρ s := rfl
theorem v_for {mi : LM} {pm : Pt} : mFor mi pm sb ρ s = match mi ρ s with
  | .ok ds s1 => loopF pm sb ds ρ s1
  | .er k e s1 => .er k e ρ s1
  | .no => .no := by
  unfold mFor
  cases mi ρ s <;> rfl
theorem v_meth {g : List D → List D → Option (D × List D)} : mMethS i g lm ρ s = match ownL i ρ with
  | some ds => (match lm ρ s with
    | .ok as s1 => (match g ds as with
      | some (_, ds') => .nx (ρ.set i (.own (.lst ds'))) s1
      | none => .no)
    | .er c ds s1 => .er c ds ρ s1
    | .no => .no)
  | none => .no := by
  unfold mMethS
  cases ownL i ρ <;> (try rfl)
theorem v_setIx {mi : EM} : mSetIx i mi m ρ s = match m ρ s with
  | .ok d s1 => (match baseOk i ρ with
    | true => (match mi ρ s1 with
      | .ok k s2 => (match k with | .int k => setIx i k d ρ s2 | _ => .no)
      | .er c ds s' => .er c ds ρ s'
      | .no => .no)
    | false => .no)
  | .er c ds s' => .er c ds ρ s'
  | .no => .no := by
  unfold mSetIx mE
  cases m ρ s <;> (try rfl)
theorem v_cell : mCell i m ρ s = match m ρ s with
  | .ok d s1 => .nx (ρ.set i (.v (.cell s1.length))) (s1 ++ [d])
  | .er c ds s' => .er c ds ρ s'
  | .no => .no := by
  unfold mCell mE
  cases m ρ s <;> rfl
theorem v_aug {g : Int → Int → Int} : mAug i g m ρ s = match (ρ[i]? : Option SD) with
  | some (.v (.int a)) => (match m ρ s with
    | .ok d s1 => (match d with | .int b => .nx (ρ.set i (.v (.int (g a b)))) s1 | _ => .no)
    | .er c ds s' => .er c ds ρ s'
    | .no => .no)
  | _ => .no := by
  unfold mAug mE
  cases (ρ[i]? : Option SD) with
  | none => rfl
  | some y =>
    cases y with
    | v d =>
      cases d <;> (try rfl)
    | _ => rfl
theorem v_pt {pt : Pt} : mPt pt m ρ s = match m ρ s with
  | .ok d s1 => (match pt.run d ρ with | some ρ' => .nx ρ' s1 | none => .no)
  | .er c ds s' => .er c ds ρ s'
  | .no => .no := by
  unfold mPt mE
  cases m ρ s <;> (try rfl)
theorem v_par {is : List Nat} {ms : List Bool} : mPar is ms lm ρ s = match lm ρ s with
  | .ok ds s1 => (match setM is ms ds ρ with
    | some ρ' => .nx ρ' s1
    | none => .no)
  | .er c ds s1 => .er c ds ρ s1
  | .no => .no := by
  unfold mPar
  cases lm ρ s <;> (try rfl)
theorem v_setF {j : Nat} {c0 : Nat} : mSetF c0 j m ρ s = match m ρ s with
  | .ok d s1 => (match (ρ[0]? : Option SD) with
    | some (.own (.sf c' ds)) => if c' = c0 ∧ ds.length = j then .nx (ρ.set 0 (.own (.sf c0 (ds ++ [d])))) s1 else .no
    | _ => .no)
  | .er c ds s' => .er c ds ρ s'
  | .no => .no := by
  unfold mSetF mE
  cases m ρ s <;> (try rfl)
theorem v_fun {e : Nat} {ds : List D} : mFun e sb ds s = match sb (ds.map .v ++ List.replicate e .un) s with
  | .nx _ s' => .ok .non s'
  | .rt d s' => .ok d s'
  | .er c es _ s' => .er c es s'
  | .bk _ _ => .no
  | .ct _ _ => .no
  | .no => .no := by
  show mFun e sb ds s = _
  unfold mFun
  cases sb (ds.map .v ++ List.replicate e .un) s <;> rfl
theorem v_ne_ok {α : Type} {x : α} : (R.ok x s).ne = .ok x s := rfl
theorem v_loopF_nil {pm : Pt} : loopF pm sb [] ρ s = .nx ρ s := rfl
theorem v_loopF {pm : Pt} {ds : List D} : loopF pm sb (d :: ds) ρ s = match pm.run d ρ with
  | some ρ1 => (match sb ρ1 s with
    | .nx ρ' s' => loopF pm sb ds ρ' s'
    | .ct ρ' s' => loopF pm sb ds ρ' s'
    | .bk ρ' s' => .nx ρ' s'
    | .rt d s' => .rt d s'
    | .er k e ρ' s' => .er k e ρ' s'
    | .no => .no)
  | none => .no := by
  conv => lhs; unfold loopF
  all_goals (cases pm.run d ρ <;> (try rfl))
theorem v_loopW : loopW tc sb (n + 1) ρ s = match tc ρ s with
  | .ok b s1 => (match b with
    | true => (match sb ρ s1 with
      | .nx ρ' s' => loopW tc sb n ρ' s'
      | .ct ρ' s' => loopW tc sb n ρ' s'
      | .bk ρ' s' => .nx ρ' s'
      | .rt d s' => .rt d s'
      | .er k ds ρ' s' => .er k ds ρ' s'
      | .no => .no)
    | false => .nx ρ s1)
  | .er k ds s1 => .er k ds ρ s1
  | .no => .no := by
  show loopW tc sb (n + 1) ρ s = _
  conv => lhs; unfold loopW
  cases tc ρ s with
  | ok b s' => cases b <;> rfl
  | er _ _ _ => rfl
  | no => rfl
theorem v_compF_nil {pm : Pt} {tt : TM} {te : EM} : compF pm tt te ρ [] s = .ok [] s := rfl
theorem v_compF {pm : Pt} {tt : TM} {te : EM} {ds : List D} : compF pm tt te ρ (d :: ds) s = match pm.run d ρ with
  | some ρ1 => (match tt ρ1 s with
    | .ok k s1 => (match k with
      | true => (match te ρ1 s1 with
        | .ok y s2 => (match compF pm tt te ρ ds s2 with | .ok ys s3 => .ok (y :: ys) s3 | .er c ds s => .er c ds s | .no => .no)
        | _ => .no)
      | false => compF pm tt te ρ ds s1)
    | _ => .no)
  | none => .no := by
  show compF pm tt te ρ (d :: ds) s = _
  conv => lhs; unfold compF
  cases pm.run d ρ with
  | none => rfl
  | some ρ1 =>
    dsimp only
    cases tt ρ1 s with
    | ok k s1 =>
      cases k with
      | true =>
        show (R.bind (R.ne (te ρ1 s1)) _) = _
        simp only
        generalize te ρ1 s1 = r
        cases r with
        | ok y s2 =>
          show (R.bind (compF pm tt te ρ ds s2) _) = _
          simp only
          generalize compF pm tt te ρ ds s2 = r2
          cases r2 <;> rfl
        | er _ _ _ => rfl
        | no => rfl
      | false => rfl
    | er _ _ _ => rfl
    | no => rfl
/-! ### operations -/
variable {i j : Int} {z w : Bool}
theorem w_add : gAddA (.int i) (.int j) s = .ok (.int (i + j)) s := rfl
theorem w_sub : gSub (.int i) (.int j) s = .ok (.int (i - j)) s := rfl
theorem w_lt : gLt (.int i) (.int j) s = .ok (.bl (decide (i < j))) s := rfl
theorem w_le : gLe (.int i) (.int j) s = .ok (.bl (decide (i ≤ j))) s := rfl
theorem w_gt : gGt (.int i) (.int j) s = .ok (.bl (decide (j < i))) s := rfl
theorem w_ge : gGe (.int i) (.int j) s = .ok (.bl (decide (j ≤ i))) s := rfl
theorem w_neg : gNeg (.int i) s = .ok (.int (-i)) s := rfl
theorem eqD_int (i j : Int) : eqD (.int i) (.int j) = some (decide (i = j)) := by
  unfold eqD D.py
  dsimp only
  rw [if_pos ⟨rfl, rfl⟩]
  show some (i == j) = _
  congr 1
theorem eqD_bl (i j : Bool) : eqD (.bl i) (.bl j) = some (i == j) := by
  unfold eqD D.py
  dsimp only
  rw [if_pos ⟨rfl, rfl⟩]
  cases i <;> cases j <;> rfl
theorem w_eq {x y : D} {k : Bool} (h : eqD x y = some k) : gEq x y s = .ok (.bl k) s := by
  show (match eqD x y with | some b => R.ok (D.bl b) s | none => R.no) = _
  rw [h]
theorem w_ne {x y : D} {k : Bool} (h : eqD x y = some k) : gNe x y s = .ok (.bl (!k)) s := by
  show (match eqD x y with | some b => R.ok (D.bl (!b)) s | none => R.no) = _
  rw [h]
theorem w_eqI : gEq (.int i) (.int j) s = .ok (.bl (decide (i = j))) s := w_eq (eqD_int i j)
theorem w_neI : gNe (.int i) (.int j) s = .ok (.bl (!decide (i = j))) s := w_ne (eqD_int i j)
theorem w_eqB : gEq (.bl z) (.bl w) s = .ok (.bl (z == w)) s := w_eq (eqD_bl z w)
theorem w_neB : gNe (.bl z) (.bl w) s = .ok (.bl (!(z == w))) s := w_ne (eqD_bl z w)
theorem w_mod (h : 0 < j) : gMod (.int i) (.int j) s = .ok (.int (i % j)) s := by
  show (if 0 < j then _ else _) = _
  rw [if_pos h]
theorem w_is : gIs x .non s = .ok (.bl (isNon x)) s := rfl
theorem w_isNot : gIsNot x .non s = .ok (.bl (!isNon x)) s := rfl
theorem w_ix20 {a b : D} : gIx (.tup [a, b]) (.int 0) s = .ok a s := rfl
theorem w_ix21 {a b : D} : gIx (.tup [a, b]) (.int 1) s = .ok b s := rfl
theorem w_lenT {ds : List D} : gLen [.tup ds] s = .ok (.int (ds.length : Nat)) s := rfl
theorem w_lenL {ds : List D} : gLen [.lst ds] s = .ok (.int (ds.length : Nat)) s := rfl
theorem w_lenZ {ds : List D} : gLen [.frz ds] s = .ok (.int (ds.length : Nat)) s := rfl
theorem w_abs : gAbs [.int i] s = .ok (.int (i.natAbs : Nat)) s := by
  show R.ok (D.int (if i < 0 then -i else i)) s = _
  congr 2
  split <;> omega
theorem w_int : gInt [.int i] s = .ok (.int i) s := rfl
theorem w_min : gMin [.int i, .int j] s = .ok (.int (min i j)) s := by
  show R.ok (D.int (if j < i then j else i)) s = _
  congr 2
  omega
theorem w_max : gMax [.int i, .int j] s = .ok (.int (max i j)) s := by
  show R.ok (D.int (if j > i then j else i)) s = _
  congr 2
  omega
theorem w_tupT {ds : List D} : gTuple [.tup ds] s = .ok (.tup ds) s := rfl
theorem w_tupL {ds : List D} : gTuple [.lst ds] s = .ok (.tup ds) s := rfl
theorem w_tupZ {ds : List D} : gTuple [.frz ds] s = .ok (.tup ds) s := rfl
theorem atI_nat {α : Type} (xs : List α) (i : Nat) : atI xs (i : Int) = xs[i]? := by
  unfold atI ixN
  rw [if_pos (by omega)]
  by_cases h : i < xs.length
  · rw [if_pos (by omega)]
    show xs[((i : Int)).toNat]? = _
    rw [Int.toNat_natCast]
  · rw [if_neg (by omega)]
    show none = _
    rw [List.getElem?_eq_none (by omega)]
theorem atI_neg {α : Type} (xs : List α) (k : Nat) (h : k < xs.length) : atI xs (-((k : Int) + 1)) = xs[xs.length - 1 - k]? := by
  unfold atI ixN
  rw [if_neg (by omega), if_pos (by omega)]
  show xs[(-((k : Int) + 1) + xs.length).toNat]? = _
  congr 1
  omega
theorem ixT {ds : List D} {i : Int} {d : D} (h : atI ds i = some d) : gIx (.tup ds) (.int i) s = .ok d s := by
  show (match atI ds i with | some d => R.ok d s | none => R.no) = _
  rw [h]
theorem ixL {ds : List D} {i : Int} {d : D} (h : atI ds i = some d) : gIx (.lst ds) (.int i) s = .ok d s := by
  show (match atI ds i with | some d => R.ok d s | none => R.no) = _
  rw [h]
theorem ixZ {ds : List D} {i : Int} {d : D} (h : atI ds i = some d) : gIx (.frz ds) (.int i) s = .ok d s := by
  show (match atI ds i with | some d => R.ok d s | none => R.no) = _
  rw [h]
theorem kT_int {cs : List Nat} {t : String} : kTy cs t (.int i) = some (decide (t = "int")) := rfl
theorem kT_bl {cs : List Nat} {t : String} : kTy cs t (.bl z) = some (decide (t = "bool" ∨ t = "int")) := rfl
theorem kT_non {cs : List Nat} {t : String} : kTy cs t .non = some (decide (t = "NoneType")) := rfl
theorem kT_str {cs : List Nat} {t : String} {x : Str} : kTy cs t (.str x) = some (decide (t = "str")) := rfl
theorem kT_tup {cs : List Nat} {t : String} {ds : List D} : kTy cs t (.tup ds) = some (decide (t = "tuple")) := rfl
theorem kT_lst {cs : List Nat} {t : String} {ds : List D} : kTy cs t (.lst ds) = some (decide (t = "list")) := rfl
theorem k2 {cs : List Nat} {t u : String} {d : D} : kTy2 cs t u d = match kTy cs t d, kTy cs u d with
  | some a, some b => some (a || b)
  | _, _ => none := rfl
end
end Tv

/-! Tv18: comprehensions and loops that leave the store -/
namespace Tv
open PySem PySem.Spec PyProof.Rows L2
/-- a comprehension whose tests and elements leave the store -/
theorem compF_pure {pm : Pt} {tt : TM} {te : EM} {ρ : List SD} (p : D → Bool) (f : D → D) : ∀ (ds : List D) (s : S), (∀ d, d ∈ ds → ∃ ρ1, pm.run d ρ = some ρ1 ∧ tt ρ1 s = .ok (p d) s ∧ (p d = true → te ρ1 s = .ok (f d) s)) → compF pm tt te ρ ds s = .ok ((ds.filter p).map f) s
  | [], s, _ => rfl
  | d :: ds, s, h => by
    obtain ⟨ρ1, h1, h2, h3⟩ := h d List.mem_cons_self
    have ih := compF_pure p f ds s fun d hd => h d (List.mem_cons_of_mem _ hd)
    rw [v_compF, h1]
    simp only [h2]
    cases hp : p d with
    | true =>
      simp only [h3 hp, ih]
      rw [List.filter_cons_of_pos hp]
      rfl
    | false =>
      simp only [ih]
      rw [List.filter_cons_of_neg (by rw [hp]; exact Bool.false_ne_true)]
theorem compF_none {pm : Pt} {tt : TM} {te : EM} {ρ : List SD} {ds : List D} {s : S} (h : ∀ d, d ∈ ds → ∃ ρ1, pm.run d ρ = some ρ1 ∧ tt ρ1 s = .ok false s) : compF pm tt te ρ ds s = .ok [] s := by
  have := compF_pure (pm := pm) (tt := tt) (te := te) (ρ := ρ) (fun _ => false) id ds s fun d hd => by
    obtain ⟨ρ1, h1, h2⟩ := h d hd
    exact ⟨ρ1, h1, h2, fun z => by cases z⟩
  rw [this]
  simp
theorem compF_map {pm : Pt} {te : EM} {ρ : List SD} {ds : List D} {s : S} (f : D → D) (h : ∀ d, d ∈ ds → ∃ ρ1, pm.run d ρ = some ρ1 ∧ te ρ1 s = .ok (f d) s) : compF pm mYes te ρ ds s = .ok (ds.map f) s := by
  have := compF_pure (pm := pm) (tt := mYes) (te := te) (ρ := ρ) (fun _ => true) f ds s fun d hd => by
    obtain ⟨ρ1, h1, h2⟩ := h d hd
    exact ⟨ρ1, h1, rfl, fun _ => h2⟩
  rw [this, List.filter_eq_self.mpr (fun _ _ => rfl)]
/-- .. over values of a Lean list -/
theorem compF_mapL {α : Type} {pm : Pt} {te : EM} {ρ : List SD} {s : S} (g : α → D) (f : α → D) (l : List α) (h : ∀ a, a ∈ l → ∃ ρ1, pm.run (g a) ρ = some ρ1 ∧ te ρ1 s = .ok (f a) s) : compF pm mYes te ρ (l.map g) s = .ok (l.map f) s := by
  induction l with
  | nil => rfl
  | cons a l ih =>
    obtain ⟨ρ1, h1, h2⟩ := h a List.mem_cons_self
    have ih := ih fun a ha => h a (List.mem_cons_of_mem _ ha)
    rw [List.map_cons, v_compF, h1]
    simp only [v_yes, h2, ih]
    rfl
theorem compF_filL {α : Type} {pm : Pt} {tt : TM} {te : EM} {ρ : List SD} {s : S} (g : α → D) (p : α → Bool) (f : α → D) (l : List α) (h : ∀ a, a ∈ l → ∃ ρ1, pm.run (g a) ρ = some ρ1 ∧ tt ρ1 s = .ok (p a) s ∧ (p a = true → te ρ1 s = .ok (f a) s)) : compF pm tt te ρ (l.map g) s = .ok ((l.filter p).map f) s := by
  induction l with
  | nil => rfl
  | cons a l ih =>
    obtain ⟨ρ1, h1, h2, h3⟩ := h a List.mem_cons_self
    have ih := ih fun a ha => h a (List.mem_cons_of_mem _ ha)
    rw [List.map_cons, v_compF, h1]
    simp only [h2]
    cases hp : p a with
    | true =>
      simp only [h3 hp, ih]
      rw [List.filter_cons_of_pos hp]
      rfl
    | false =>
      simp only [ih]
      rw [List.filter_cons_of_neg (by rw [hp]; exact Bool.false_ne_true)]
theorem rngD_map (i : Int) (n : Nat) : rngD i n = (List.range n).map fun k : Nat => D.int (i + (k : Int)) := rfl
theorem size_ok {n : Nat} (h : n ≤ 100000) : n ≤ sizeLine := by rw [sizeLine_eq]; omega
theorem rng_ok {i : Int} (h1 : -1000000 ≤ i) (h2 : i ≤ 1000000) : rngOk i = true := decide_eq_true ⟨by omega, by omega⟩
theorem atI_get {α : Type} {xs : List α} {i : Nat} {x : α} (h : xs[i]? = some x) : atI xs (i : Int) = some x := by rw [Tv.atI_nat, h]
theorem eqD_nil : eqD (.lst []) (.lst []) = some true := by
  unfold eqD D.py D.pys
  dsimp only [Option.map]
  rw [if_pos ⟨rfl, rfl⟩]
  rfl
theorem eqD_non : eqD .non .non = some true := by
  unfold eqD D.py
  dsimp only
  rw [if_pos ⟨rfl, rfl⟩]
  rfl
/-! ### equality of values as the program sees it -/
/-- ints, None, tuples and lists of such, at most n deep -/
def pl : Nat → D → Bool
  | _, .int _ => true
  | _, .non => true
  | n + 1, .tup ds => ds.all (pl n)
  | n + 1, .lst ds => ds.all (pl n)
  | _, _ => false
theorem pls_py {n : Nat} (ih : ∀ d, pl n d = true → ∃ p, d.py = some p ∧ p.canLay0 = true ∧ p.depth ≤ n) : ∀ ds : List D, ds.all (pl n) = true → ∃ ps, D.pys ds = some ps ∧ PyData.canLayAll0 ps = true ∧ PyData.depthAll ps ≤ n
  | [], _ => ⟨[], rfl, rfl, Nat.zero_le _⟩
  | d :: ds, h => by
    rw [List.all_cons, Bool.and_eq_true] at h
    obtain ⟨p, h1, h2, h3⟩ := ih d h.1
    obtain ⟨ps, g1, g2, g3⟩ := pls_py ih ds h.2
    refine ⟨p :: ps, ?_, ?_, ?_⟩
    · unfold D.pys
      rw [h1, g1]
    · unfold PyData.canLayAll0
      rw [h2, g2]
      rfl
    · unfold PyData.depthAll
      omega
theorem pl_py : ∀ (n : Nat) (d : D), pl n d = true → ∃ p, d.py = some p ∧ p.canLay0 = true ∧ p.depth ≤ n
  | n, .int i, _ => ⟨.int i, rfl, rfl, Nat.zero_le _⟩
  | n, .non, _ => ⟨.none, rfl, rfl, Nat.zero_le _⟩
  | 0, .tup ds, h => by unfold pl at h; cases h
  | 0, .lst ds, h => by unfold pl at h; cases h
  | n + 1, .tup ds, h => by
    unfold pl at h
    obtain ⟨ps, g1, g2, g3⟩ := pls_py (pl_py n) ds h
    refine ⟨.tuple ps, ?_, ?_, ?_⟩
    · unfold D.py
      rw [g1]
      rfl
    · unfold PyData.canLay0
      exact g2
    · unfold PyData.depth
      omega
  | n + 1, .lst ds, h => by
    unfold pl at h
    obtain ⟨ps, g1, g2, g3⟩ := pls_py (pl_py n) ds h
    refine ⟨.list ps, ?_, ?_, ?_⟩
    · unfold D.py
      rw [g1]
      rfl
    · unfold PyData.canLay0
      exact g2
    · unfold PyData.depth
      omega
  | n, .bl b, h => by unfold pl at h; cases n <;> cases h
  | n, .str b, h => by unfold pl at h; cases n <;> cases h
  | n, .frz b, h => by unfold pl at h; cases n <;> cases h
  | n, .ins _ _, h => by unfold pl at h; cases n <;> cases h
  | n, .cell _, h => by unfold pl at h; cases n <;> cases h
  | n, .fn _, h => by unfold pl at h; cases n <;> cases h
  | n, .dic _ _, h => by unfold pl at h; cases n <;> cases h
  | n, .exc _ _, h => by unfold pl at h; cases n <;> cases h
  | n, .sf _ _, h => by unfold pl at h; cases n <;> cases h
theorem eqvs_pl {n : Nat} (ih : ∀ x y p q, pl n x = true → pl n y = true → D.py x = some p → D.py y = some q → (PyData.eqv p q = true ↔ x = y)) : ∀ (xs ys : List D) (ps qs : List PyData), xs.all (pl n) = true → ys.all (pl n) = true → D.pys xs = some ps → D.pys ys = some qs → (PyData.eqvAll ps qs = true ↔ xs = ys) := by
  have key : ∀ {x : D} {xs : List D} {l : List PyData}, D.pys (x :: xs) = some l → (x :: xs).all (pl n) = true → ∃ p ps, l = p :: ps ∧ x.py = some p ∧ D.pys xs = some ps := fun {x xs l} h hp => by
    unfold D.pys at h
    cases e1 : x.py with
    | none => rw [e1] at h; cases h
    | some p =>
      cases e2 : D.pys xs with
      | none => rw [e1, e2] at h; cases h
      | some ps =>
        rw [e1, e2] at h
        cases h
        exact ⟨p, ps, rfl, rfl, rfl⟩
  intro xs
  induction xs with
  | nil =>
    intro ys ps qs h1 h2 e1 e2
    cases e1
    cases ys with
    | nil => cases e2; simp [PyData.eqvAll]
    | cons y ys =>
      obtain ⟨q, qs', rfl, _, _⟩ := key e2 h2
      simp [PyData.eqvAll]
  | cons x xs ihx =>
    intro ys ps qs h1 h2 e1 e2
    obtain ⟨p, ps', rfl, k1, k2⟩ := key e1 h1
    cases ys with
    | nil => cases e2; simp [PyData.eqvAll]
    | cons y ys =>
      obtain ⟨q, qs', rfl, l1, l2⟩ := key e2 h2
      rw [List.all_cons, Bool.and_eq_true] at h1 h2
      have a := ih x y p q h1.1 h2.1 k1 l1
      have b := ihx ys ps' qs' h1.2 h2.2 k2 l2
      rw [PyData.eqvAll, Bool.and_eq_true, a, b, List.cons.injEq]
theorem eqv_pl : ∀ (n : Nat) (x y : D) (p q : PyData), pl n x = true → pl n y = true → D.py x = some p → D.py y = some q → (PyData.eqv p q = true ↔ x = y) := by
  intro n
  induction n with
  | zero =>
    intro x y p q hx hy ex ey
    cases x with
    | int i =>
      cases ex
      cases y with
      | int j => cases ey; simp [PyData.eqv]
      | non => cases ey; simp [PyData.eqv]
      | _ => unfold pl at hy; cases hy
    | non =>
      cases ex
      cases y with
      | int j => cases ey; simp [PyData.eqv]
      | non => cases ey; simp [PyData.eqv]
      | _ => unfold pl at hy; cases hy
    | _ => unfold pl at hx; cases hx
  | succ n ih =>
    intro x y p q hx hy ex ey
    have tupP : ∀ {ds : List D} {p : PyData}, D.py (.tup ds) = some p → ∃ ps, p = .tuple ps ∧ D.pys ds = some ps := fun {ds p} h => by
      unfold D.py at h
      cases e : D.pys ds with
      | none => rw [e] at h; cases h
      | some ps => rw [e] at h; cases h; exact ⟨ps, rfl, rfl⟩
    have lstP : ∀ {ds : List D} {p : PyData}, D.py (.lst ds) = some p → ∃ ps, p = .list ps ∧ D.pys ds = some ps := fun {ds p} h => by
      unfold D.py at h
      cases e : D.pys ds with
      | none => rw [e] at h; cases h
      | some ps => rw [e] at h; cases h; exact ⟨ps, rfl, rfl⟩
    cases x with
    | int i =>
      cases ex
      cases y with
      | int j => cases ey; simp [PyData.eqv]
      | non => cases ey; simp [PyData.eqv]
      | tup ds => obtain ⟨ps, rfl, _⟩ := tupP ey; simp [PyData.eqv]
      | lst ds => obtain ⟨ps, rfl, _⟩ := lstP ey; simp [PyData.eqv]
      | _ => unfold pl at hy; cases hy
    | non =>
      cases ex
      cases y with
      | int j => cases ey; simp [PyData.eqv]
      | non => cases ey; simp [PyData.eqv]
      | tup ds => obtain ⟨ps, rfl, _⟩ := tupP ey; simp [PyData.eqv]
      | lst ds => obtain ⟨ps, rfl, _⟩ := lstP ey; simp [PyData.eqv]
      | _ => unfold pl at hy; cases hy
    | tup ds =>
      obtain ⟨ps, rfl, e1⟩ := tupP ex
      cases y with
      | int j => cases ey; simp [PyData.eqv]
      | non => cases ey; simp [PyData.eqv]
      | tup es =>
        obtain ⟨qs, rfl, e2⟩ := tupP ey
        unfold pl at hx hy
        rw [PyData.eqv, eqvs_pl ih ds es ps qs hx hy e1 e2, D.tup.injEq]
      | lst es => obtain ⟨qs, rfl, _⟩ := lstP ey; simp [PyData.eqv]
      | _ => unfold pl at hy; cases hy
    | lst ds =>
      obtain ⟨ps, rfl, e1⟩ := lstP ex
      cases y with
      | int j => cases ey; simp [PyData.eqv]
      | non => cases ey; simp [PyData.eqv]
      | tup es => obtain ⟨qs, rfl, _⟩ := tupP ey; simp [PyData.eqv]
      | lst es =>
        obtain ⟨qs, rfl, e2⟩ := lstP ey
        unfold pl at hx hy
        rw [PyData.eqv, eqvs_pl ih ds es ps qs hx hy e1 e2, D.lst.injEq]
      | _ => unfold pl at hy; cases hy
    | _ => unfold pl at hx; cases hx
theorem eqD_pl {n : Nat} {x y : D} (hx : pl n x = true) (hy : pl n y = true) (hn : n ≤ 64 := by omega) {k : Bool} (hk : k = true ↔ x = y) : eqD x y = some k := by
  obtain ⟨p, h1, h2, h3⟩ := pl_py n x hx
  obtain ⟨q, g1, g2, g3⟩ := pl_py n y hy
  unfold eqD
  rw [h1, g1]
  dsimp only
  have s1 : SeqAt.shaped p = true := by
    show (p.canLay0 && decide (p.depth ≤ 64)) = true
    rw [h2, decide_eq_true (by omega)]
    rfl
  have s2 : SeqAt.shaped q = true := by
    show (q.canLay0 && decide (q.depth ≤ 64)) = true
    rw [g2, decide_eq_true (by omega)]
    rfl
  rw [if_pos ⟨s1, s2⟩]
  congr 1
  have := eqv_pl n x y p q hx hy h1 g1
  rw [Bool.eq_iff_iff, this, hk]
/-! ### loops -/
theorem loopF_fold {α β : Type} {pm : Pt} {b : SM} (g : α → D) (f : β → α → β) (I : β → List SD → S → Prop) : ∀ (l : List α) (st : β) (ρ : List SD) (s : S),
    (∀ a, a ∈ l → ∀ st ρ s, I st ρ s → ∃ ρ1 ρ' s', pm.run (g a) ρ = some ρ1 ∧ b ρ1 s = .nx ρ' s' ∧ I (f st a) ρ' s') → I st ρ s → ∃ ρ' s', loopF pm b (l.map g) ρ s = .nx ρ' s' ∧ I (l.foldl f st) ρ' s'
  | [], st, ρ, s, _, h => ⟨ρ, s, rfl, h⟩
  | a :: l, st, ρ, s, hs, h => by
    obtain ⟨ρ1, ρ', s', e1, e2, h'⟩ := hs a List.mem_cons_self st ρ s h
    obtain ⟨ρ2, s2, e3, h2⟩ := loopF_fold g f I l (f st a) ρ' s' (fun a ha => hs a (List.mem_cons_of_mem _ ha)) h'
    refine ⟨ρ2, s2, ?_, h2⟩
    rw [List.map_cons, v_loopF, e1]
    simp only [e2, e3]
/-- turn by turn -/
theorem loopF_inv {pm : Pt} {b : SM} (I : Nat → List SD → S → Prop) : ∀ (ds : List D) (k : Nat) (ρ : List SD) (s : S),
    (∀ (i : Nat) (d : D) ρ s, ds[i]? = some d → I (k + i) ρ s → ∃ ρ1 ρ' s', pm.run d ρ = some ρ1 ∧ (b ρ1 s = .nx ρ' s' ∨ b ρ1 s = .ct ρ' s') ∧ I (k + i + 1) ρ' s') → I k ρ s → ∃ ρ' s', loopF pm b ds ρ s = .nx ρ' s' ∧ I (k + ds.length) ρ' s'
  | [], k, ρ, s, _, h => ⟨ρ, s, rfl, h⟩
  | d :: ds, k, ρ, s, hs, h => by
    obtain ⟨ρ1, ρ', s', e1, e2, h'⟩ := hs 0 d ρ s rfl h
    obtain ⟨ρ2, s2, e3, h2⟩ := loopF_inv I ds (k + 1) ρ' s' (fun i d ρ s hi hI => by
      have := hs (i + 1) d ρ s hi (by rw [show k + (i + 1) = k + 1 + i by omega]; exact hI)
      rw [show k + 1 + i + 1 = k + (i + 1) + 1 by omega]
      exact this) h'
    refine ⟨ρ2, s2, ?_, by rw [List.length_cons, show k + (ds.length + 1) = k + 1 + ds.length by omega]; exact h2⟩
    rw [v_loopF, e1]
    rcases e2 with e2 | e2
    · simp only [e2, e3]
    · simp only [e2, e3]
/-- the first for which p stands is given back -/
theorem loopF_find {α : Type} {pm : Pt} {b : SM} (g : α → D) (p : α → Bool) (r : α → D) (I : List SD → S → Prop) : ∀ (l : List α) (ρ : List SD) (s : S),
    (∀ a, a ∈ l → ∀ ρ s, I ρ s → ∃ ρ1, pm.run (g a) ρ = some ρ1 ∧ ((p a = true ∧ ∃ s', b ρ1 s = .rt (r a) s') ∨ (p a = false ∧ ∃ ρ' s', b ρ1 s = .nx ρ' s' ∧ I ρ' s'))) → I ρ s →
      (∃ a s', l.find? p = some a ∧ loopF pm b (l.map g) ρ s = .rt (r a) s') ∨ (l.find? p = none ∧ ∃ ρ' s', loopF pm b (l.map g) ρ s = .nx ρ' s' ∧ I ρ' s')
  | [], ρ, s, _, h => .inr ⟨rfl, ρ, s, rfl, h⟩
  | a :: l, ρ, s, hs, h => by
    obtain ⟨ρ1, e1, e2⟩ := hs a List.mem_cons_self ρ s h
    rcases e2 with ⟨hp, s', e2⟩ | ⟨hp, ρ', s', e2, h'⟩
    · refine .inl ⟨a, s', by rw [List.find?_cons_of_pos hp], ?_⟩
      rw [List.map_cons, v_loopF, e1]
      simp only [e2]
    · have ih := loopF_find g p r I l ρ' s' (fun a ha => hs a (List.mem_cons_of_mem _ ha)) h'
      rw [List.find?_cons_of_neg (by rw [hp]; exact Bool.false_ne_true)]
      have e3 : loopF pm b ((a :: l).map g) ρ s = loopF pm b (l.map g) ρ' s' := by
        rw [List.map_cons, v_loopF, e1]
        simp only [e2]
      rw [e3]
      exact ih
end Tv

namespace K02
open PySem PySem.Spec PyProof.Rows L2 Tv
def top (i : Nat) : Stmt := PySem.Challenge.pw_tintbridge_k02_whole_curves.main.body.getD i (.Pass ⟨0, 0, 0, 0⟩)
abbrev cs : List Nat := [0]
def fuel_common : List SD → S → Nat := fun ρ _ => match (ρ[1]? : Option SD) with | some (.v (.int j)) => j.natAbs + 1 | _ => 1
def fuel_in_order : List SD → S → Nat := fun ρ _ => match (ownL 1 ρ) with | some ds => ds.length + 1 | none => 1
def fuel_shortened : List SD → S → Nat := fun ρ _ => match (ownL 1 ρ) with | some ds => ds.length + 1 | none => 1
def b_is_row : SM := (mRet (mAndV (gIsi (kTy cs "tuple") (mVar 0)) (mOp gEq (mCall gLen (mCons (mVar 0) mNil)) (mVar 1))))
def F_is_row : FM := mFun 0 b_is_row
def b_is_whole : SM := (mRet (mAndV (gIsi (kTy cs "int") (mVar 0)) (mNotV (gIsi (kTy cs "bool") (mVar 0)))))
def F_is_whole : FM := mFun 0 b_is_whole
def b_is_within : SM := (mRet (mAndV (mCallF F_is_whole (mCons (mVar 0) mNil)) (mChain gLe gLe (mVar 1) (mVar 0) (mVar 2))))
def F_is_within : FM := mFun 0 b_is_within
def b_is_knot : SM := (mSeq (mIfS (mOr (mNot (mTest (mCallF F_is_row (mCons (mVar 0) (mCons (mC (.int 2)) mNil))))) (mOr (mNot (mTest (mCallF F_is_within (mCons (mOp gIx (mVar 0) (mC (.int 0))) (mCons (mC (.int 0)) (mCons (mC (.int 255)) mNil)))))) (mNot (mTest (mCallF F_is_within (mCons (mOp gIx (mVar 0) (mC (.int 1))) (mCons (mC (.int 0)) (mCons (mC (.int 255)) mNil)))))))) (mRet (mC (.bl false))) mNext)
    (mSeq (mIfS (mTest (mOp gEq (mCall gLen (mCons (mVar 1) mNil)) (mC (.int 0)))) (mRet (mOp gEq (mOp gIx (mVar 0) (mC (.int 0))) (mC (.int 0)))) mNext)
    (mRet (mAndV (mOp gLt (mOp gIx (mOp gIx (mVar 1) (mUn gNeg (mC (.int 1)))) (mC (.int 0))) (mOp gIx (mVar 0) (mC (.int 0)))) (mOp gLe (mOp gIx (mOp gIx (mVar 1) (mUn gNeg (mC (.int 1)))) (mC (.int 1))) (mOp gIx (mVar 0) (mC (.int 1))))))))
def F_is_knot : FM := mFun 0 b_is_knot
def tbl_first_wrong : List (Nat × FM) := [(0, F_is_knot)]
def l_first_wrong_1 : SM := (mIfS (mNot (mTest (mCallV 3 tbl_first_wrong (mCons (mVar 5) (mCons (mSlice gSliceA (mVar 0) mNoPart (mPart (mVar 4))) mNil))))) (mRet (mVar 4)) mNext)
def b_first_wrong : SM := (mSeq (mIfS (mOr (mNot (mTest (gIsi (kTy cs "tuple") (mVar 0)))) (mNot (mTest (mChain gLe gLe (mVar 1) (mCall gLen (mCons (mVar 0) mNil)) (mVar 2))))) (mRet (mUn gNeg (mC (.int 1)))) mNext)
    (mSeq (mFor (mEnumI (mCons (mVar 0) mNil)) (.tp (.cons (.nm 4) (.cons (.nm 5) .nil))) l_first_wrong_1)
    (mRet (mC .non))))
def F_first_wrong : FM := mFun 2 b_first_wrong
def b_knots_place : SM := (mSeq (mSet 1 (mCallF F_first_wrong (mCons (mVar 0) (mCons (mC (.int 2)) (mCons (mC (.int 12)) (mCons (mC (.fn 0)) mNil))))))
    (mSeq (mIfS (mTest (mOp gIsNot (mVar 1) (mC .non))) (mRet (mVar 1)) mNext)
    (mRet (mIf (mTest (mOp gEq (mOp gIx (mOp gIx (mVar 0) (mUn gNeg (mC (.int 1)))) (mC (.int 0))) (mC (.int 255)))) (mC .non) (mOp gSub (mCall gLen (mCons (mVar 0) mNil)) (mC (.int 1)))))))
def F_knots_place : FM := mFun 1 b_knots_place
def b_require_part : SM := (mIfS (mTest (mOp gIsNot (mVar 1) (mC .non))) mNever mNext)
def F_require_part : FM := mFun 0 b_require_part
def b_Curve_init : SM := (mSeq (mDrop (mCallF F_require_part (mCons (mC (.str "knots")) (mCons (mCallF F_knots_place (mCons (mVar 1) mNil)) mNil))))
    (mSetF 0 0 (mVar 1)))
def F_Curve_init : FM := mInit 0 1 0 b_Curve_init
def l__law_gcd_1 : SM := (mSeq (mIfS (mTest (mOp gEq (mVar 1) (mC (.int 0)))) mBrk mNext)
    (mPar [0, 1] [false, false] (mCons (mVar 1) (mCons (mOp gMod (mCall gInt (mCons (mVar 0) mNil)) (mVar 1)) mNil))))
def b__law_gcd : SM := (mSeq (mPar [0, 1] [false, false] (mCons (mCall gAbs (mCons (mVar 0) mNil)) (mCons (mCall gAbs (mCons (mVar 1) mNil)) mNil)))
    (mSeq (mFor (mRng1 (mCons (mC (.int 400)) mNil)) (.nm 2) l__law_gcd_1)
    (mRet (mVar 0))))
def F__law_gcd : FM := mFun 1 b__law_gcd
def b__law_frac : SM := (mSeq (mIfS (mTest (mOp gLt (mVar 1) (mC (.int 0)))) (mPar [0, 1] [false, false] (mCons (mOp gSub (mC (.int 0)) (mVar 0)) (mCons (mOp gSub (mC (.int 0)) (mVar 1)) mNil))) mNext)
    (mSeq (mSet 2 (mCallF F__law_gcd (mCons (mCall gAbs (mCons (mVar 0) mNil)) (mCons (mVar 1) mNil))))
    (mRet (mTup (mCons (mOp gDiv (mVar 0) (mVar 2)) (mCons (mOp gDiv (mVar 1) (mVar 2)) mNil))))))
def F__law_frac : FM := mFun 1 b__law_frac
def b__law_add : SM := (mRet (mCallF F__law_frac (mCons (mOp gAddA (mOp gMul (mOp gIx (mVar 0) (mC (.int 0))) (mOp gIx (mVar 1) (mC (.int 1)))) (mOp gMul (mOp gIx (mVar 1) (mC (.int 0))) (mOp gIx (mVar 0) (mC (.int 1))))) (mCons (mOp gMul (mOp gIx (mVar 0) (mC (.int 1))) (mOp gIx (mVar 1) (mC (.int 1)))) mNil))))
def F__law_add : FM := mFun 0 b__law_add
def t__law_alike_1 (F : FM) : TM := (mNot (mTest (mCallF F (mCons (mOp gIx (mVar 0) (mVar 2)) (mCons (mOp gIx (mVar 1) (mVar 2)) mNil)))))
def b__law_alike (F : FM) : SM := (mSeq (mIfS (mTest (gIsi (kTy2 cs "tuple" "list") (mVar 1))) (mSeq (mIfS (mOr (mNot (mTest (gIsi (kTy2 cs "tuple" "list") (mVar 0)))) (mTest (mOp gNe (gIsi (kTy cs "list") (mVar 0)) (gIsi (kTy cs "list") (mVar 1))))) (mRet (mC (.bl false))) mNext)
    (mSeq (mIfS (mTest (mOp gNe (mCall gLen (mCons (mVar 0) mNil)) (mCall gLen (mCons (mVar 1) mNil)))) (mRet (mC (.bl false))) mNext)
    (mRet (mOp gEq (mComp [2] (mRng1 (mCons (mCall gLen (mCons (mVar 1) mNil)) mNil)) (.nm 2) (t__law_alike_1 F) (mVar 2)) (mLst mNil))))) mNext)
    (mSeq (mIfS (mOr (mTest (mOp gIs (mVar 1) (mC .non))) (mTest (gIsi (kTy cs "str") (mVar 1)))) (mRet (mAndV (mOp gEq (mVar 0) (mVar 1)) (mOp gEq (gIsi (kTy cs "str") (mVar 0)) (gIsi (kTy cs "str") (mVar 1))))) mNext)
    (mRet (mAndV (gIsi (kTy cs "int") (mVar 0)) (mAndV (mOp gEq (gIsi (kTy cs "bool") (mVar 0)) (gIsi (kTy cs "bool") (mVar 1))) (mOp gEq (mVar 0) (mVar 1)))))))
def F__law_alike : Nat → FM
  | 0 => fun _ _ => .no
  | n + 1 => mFun 1 (b__law_alike (F__law_alike n))
def b__law_div : SM := (mRet (mCallF F__law_frac (mCons (mOp gMul (mOp gIx (mVar 0) (mC (.int 0))) (mOp gIx (mVar 1) (mC (.int 1)))) (mCons (mOp gMul (mOp gIx (mVar 0) (mC (.int 1))) (mOp gIx (mVar 1) (mC (.int 0)))) mNil))))
def F__law_div : FM := mFun 0 b__law_div
def b__law_lt : SM := (mRet (mOp gLt (mOp gMul (mOp gIx (mVar 0) (mC (.int 0))) (mOp gIx (mVar 1) (mC (.int 1)))) (mOp gMul (mOp gIx (mVar 1) (mC (.int 0))) (mOp gIx (mVar 0) (mC (.int 1))))))
def F__law_lt : FM := mFun 0 b__law_lt
def b__law_mul : SM := (mRet (mCallF F__law_frac (mCons (mOp gMul (mOp gIx (mVar 0) (mC (.int 0))) (mOp gIx (mVar 1) (mC (.int 0)))) (mCons (mOp gMul (mOp gIx (mVar 0) (mC (.int 1))) (mOp gIx (mVar 1) (mC (.int 1)))) mNil))))
def F__law_mul : FM := mFun 0 b__law_mul
def b__law_sub : SM := (mRet (mCallF F__law_frac (mCons (mOp gSub (mOp gMul (mOp gIx (mVar 0) (mC (.int 0))) (mOp gIx (mVar 1) (mC (.int 1)))) (mOp gMul (mOp gIx (mVar 1) (mC (.int 0))) (mOp gIx (mVar 0) (mC (.int 1))))) (mCons (mOp gMul (mOp gIx (mVar 0) (mC (.int 1))) (mOp gIx (mVar 1) (mC (.int 1)))) mNil))))
def F__law_sub : FM := mFun 0 b__law_sub
def l__law_curve_at_1 : SM := (mSeq (mPt (.tp (.cons (.tp (.cons (.nm 3) (.cons (.nm 4) .nil))) (.cons (.tp (.cons (.nm 5) (.cons (.nm 6) .nil))) .nil))) (mTup (mCons (mOp gIx (mVar 0) (mVar 2)) (mCons (mOp gIx (mVar 0) (mOp gAddA (mVar 2) (mC (.int 1)))) mNil))))
    (mIfS (mNot (mTest (mCallF F__law_lt (mCons (mTup (mCons (mVar 5) (mCons (mC (.int 1)) mNil))) (mCons (mVar 1) mNil))))) (mSeq (mSet 7 (mCallF F__law_div (mCons (mCallF F__law_sub (mCons (mVar 1) (mCons (mTup (mCons (mVar 3) (mCons (mC (.int 1)) mNil))) mNil))) (mCons (mTup (mCons (mOp gSub (mVar 5) (mVar 3)) (mCons (mC (.int 1)) mNil))) mNil))))
    (mRet (mCallF F__law_add (mCons (mTup (mCons (mVar 4) (mCons (mC (.int 1)) mNil))) (mCons (mCallF F__law_mul (mCons (mVar 7) (mCons (mTup (mCons (mOp gSub (mVar 6) (mVar 4)) (mCons (mC (.int 1)) mNil))) mNil))) mNil))))) mNext))
def b__law_curve_at : SM := (mSeq (mFor (mRng1 (mCons (mOp gSub (mCall gLen (mCons (mVar 0) mNil)) (mC (.int 1))) mNil)) (.nm 2) l__law_curve_at_1)
    (mRet (mTup (mCons (mOp gIx (mOp gIx (mVar 0) (mUn gNeg (mC (.int 1)))) (mC (.int 1))) (mCons (mC (.int 1)) mNil)))))
def F__law_curve_at : FM := mFun 6 b__law_curve_at
def t__law_is_frac_1 : TM := (mOr (mNot (mTest (gIsi (kTy cs "int") (mVar 1)))) (mTest (gIsi (kTy cs "bool") (mVar 1))))
def b__law_is_frac : SM := (mSeq (mIfS (mOr (mNot (mTest (gIsi (kTy cs "tuple") (mVar 0)))) (mOr (mTest (mOp gNe (mCall gLen (mCons (mVar 0) mNil)) (mC (.int 2)))) (mTest (mOp gNe (mComp [1] (mSeqI (mVar 0)) (.nm 1) t__law_is_frac_1 (mVar 1)) (mLst mNil))))) (mRet (mC (.bl false))) mNext)
    (mRet (mAndV (mOp gGe (mOp gIx (mVar 0) (mC (.int 1))) (mC (.int 1))) (mOp gEq (mCallF F__law_gcd (mCons (mCall gAbs (mCons (mOp gIx (mVar 0) (mC (.int 0))) mNil)) (mCons (mOp gIx (mVar 0) (mC (.int 1))) mNil))) (mC (.int 1))))))
def F__law_is_frac : FM := mFun 1 b__law_is_frac
def b__law_taken : SM := (mSeq (mIfS (mTest (mOp gGt (mOp gIx (mVar 0) (mC (.int 3))) (mC (.int 0)))) (mSeq (mSet 2 (mOp gMod (mCall gInt (mCons (mOp gIx (mVar 0) (mC (.int 3))) mNil)) (mVar 1)))
    (mSeq (mSetIx 0 (mC (.int 3)) (mOp gDiv (mOp gIx (mVar 0) (mC (.int 3))) (mVar 1)))
    (mRet (mVar 2)))) mNext)
    (mSeq (mSetIx 0 (mC (.int 1)) (mOp gAddA (mOp gIx (mVar 0) (mC (.int 1))) (mC (.int 1))))
    (mSeq (mIfS (mTest (mOp gGt (mOp gIx (mVar 0) (mC (.int 1))) (mCall gLen (mCons (mOp gIx (mVar 0) (mC (.int 0))) mNil)))) (mSeq (mSetIx 0 (mC (.int 2)) (mOp gMod (mCall gInt (mCons (mOp gAddA (mOp gMul (mOp gIx (mVar 0) (mC (.int 2))) (mC (.int 48271))) (mC (.int 11))) mNil)) (mC (.int 2147483647))))
    (mRet (mOp gMod (mCall gInt (mCons (mOp gDiv (mOp gIx (mVar 0) (mC (.int 2))) (mC (.int 7))) mNil)) (mVar 1)))) mNext)
    (mSeq (mSet 3 (mOp gIx (mOp gIx (mVar 0) (mC (.int 0))) (mOp gSub (mOp gIx (mVar 0) (mC (.int 1))) (mC (.int 1)))))
    (mSeq (mSetIx 0 (mC (.int 2)) (mOp gMod (mCall gInt (mCons (mOp gAddA (mOp gAddA (mOp gMul (mOp gIx (mVar 0) (mC (.int 2))) (mC (.int 48271))) (mVar 3)) (mC (.int 11))) mNil)) (mC (.int 2147483647))))
    (mSeq (mIfS (mTest (mOp gGe (mVar 3) (mOp gPow (mC (.int 10)) (mC (.int 18))))) (mSeq (mSetIx 0 (mC (.int 3)) (mOp gDiv (mVar 3) (mVar 1)))
    (mRet (mOp gMod (mCall gInt (mCons (mVar 3) mNil)) (mVar 1)))) mNext)
    (mRet (mOp gMod (mCall gInt (mCons (mOp gAddA (mOp gMul (mOp gMod (mCall gInt (mCons (mVar 3) mNil)) (mC (.int 1000003))) (mC (.int 31))) (mOp gDiv (mOp gIx (mVar 0) (mC (.int 2))) (mC (.int 11)))) mNil)) (mVar 1)))))))))
def F__law_taken : FM := mFun 2 b__law_taken
def b__law_pick : SM := (mRet (mOp gIx (mVar 1) (mCallF F__law_taken (mCons (mVar 0) (mCons (mCall gLen (mCons (mVar 1) mNil)) mNil)))))
def F__law_pick : FM := mFun 0 b__law_pick
def l__law_knots_1 : SM := (mSeq (mSet 4 (mOp gAddA (mOp gAddA (mOp gIx (mVarB 1) (mUn gNeg (mC (.int 1)))) (mC (.int 1))) (mCallF F__law_taken (mCons (mVar 0) (mCons (mVar 2) mNil)))))
    (mIfS (mTest (mOp gLt (mVar 4) (mC (.int 255)))) (mMethS 1 oAppend (mCons (mVar 4) mNil)) mNext))
def l__law_knots_2 : SM := (mSeq (mMethS 5 oAppend (mCons (mTup (mCons (mVar 4) (mCons (mVar 6) mNil))) mNil))
    (mSet 6 (mCall gMin (mCons (mC (.int 255)) (mCons (mOp gAddA (mVar 6) (mCallF F__law_pick (mCons (mVar 0) (mCons (mLst (mCons (mC (.int 0)) (mCons (mC (.int 1)) (mCons (mCallF F__law_taken (mCons (mVar 0) (mCons (mC (.int 40)) mNil))) (mCons (mCallF F__law_taken (mCons (mVar 0) (mCons (mC (.int 160)) mNil))) mNil))))) mNil)))) mNil)))))
def b__law_knots : SM := (mSeq (mPar [1, 2] [true, false] (mCons (mLst (mCons (mC (.int 0)) mNil)) (mCons (mCallF F__law_pick (mCons (mVar 0) (mCons (mLst (mCons (mC (.int 60)) (mCons (mC (.int 130)) (mCons (mC (.int 250)) mNil)))) mNil))) mNil)))
    (mSeq (mFor (mRng1 (mCons (mCallF F__law_taken (mCons (mVar 0) (mCons (mC (.int 11)) mNil))) mNil)) (.nm 3) l__law_knots_1)
    (mSeq (mPar [1, 5, 6] [true, true, false] (mCons (mOp gCat (mVarB 1) (mLst (mCons (mC (.int 255)) mNil))) (mCons (mLst mNil) (mCons (mCallF F__law_pick (mCons (mVar 0) (mCons (mLst (mCons (mC (.int 0)) (mCons (mC (.int 0)) (mCons (mCallF F__law_taken (mCons (mVar 0) (mCons (mC (.int 100)) mNil))) mNil)))) mNil))) mNil))))
    (mSeq (mFrz 1 (mFor (mSeqI (mVar 1)) (.nm 4) l__law_knots_2))
    (mSeq (mIfS (mAnd (mTest (mOp gEq (mCallF F__law_taken (mCons (mVar 0) (mCons (mC (.int 3)) mNil))) (mC (.int 0)))) (mOr (mTest (mOp gLt (mCall gLen (mCons (mVarB 5) mNil)) (mC (.int 2)))) (mTest (mOp gLe (mOp gIx (mOp gIx (mVarB 5) (mUn gNeg (mC (.int 2)))) (mC (.int 1))) (mC (.int 255)))))) (mSetIx 5 (mUn gNeg (mC (.int 1))) (mTup (mCons (mC (.int 255)) (mCons (mC (.int 255)) mNil)))) mNext)
    (mRet (mCall gTuple (mCons (mVarB 5) mNil))))))))
def F__law_knots : FM := mFun 6 b__law_knots
def b__law_level : SM := (mSeq (mSet 1 (mOp gAddA (mC (.int 1)) (mCallF F__law_taken (mCons (mVar 0) (mCons (mCallF F__law_pick (mCons (mVar 0) (mCons (mLst (mCons (mC (.int 1)) (mCons (mC (.int 4)) (mCons (mC (.int 30)) mNil)))) mNil))) mNil)))))
    (mRet (mCallF F__law_pick (mCons (mVar 0) (mCons (mLst (mCons (mTup (mCons (mC (.int 0)) (mCons (mC (.int 1)) mNil))) (mCons (mTup (mCons (mC (.int 255)) (mCons (mC (.int 1)) mNil))) (mCons (mCallF F__law_frac (mCons (mCallF F__law_taken (mCons (mVar 0) (mCons (mOp gAddA (mOp gMul (mC (.int 255)) (mVar 1)) (mC (.int 1))) mNil))) (mCons (mVar 1) mNil))) (mCons (mCallF F__law_frac (mCons (mCallF F__law_taken (mCons (mVar 0) (mCons (mOp gAddA (mOp gMul (mC (.int 255)) (mVar 1)) (mC (.int 1))) mNil))) (mCons (mVar 1) mNil))) mNil))))) mNil)))))
def F__law_level : FM := mFun 1 b__law_level
def t_common_1 : TM := (mTest (mOp gGt (mVar 1) (mC (.int 0))))
def l_common_1 : SM := (mPar [0, 1] [false, false] (mCons (mVar 1) (mCons (mOp gMod (mVar 0) (mVar 1)) mNil)))
def b_common : SM := (mSeq (mPar [0, 1] [false, false] (mCons (mCall gAbs (mCons (mVar 0) mNil)) (mCons (mCall gAbs (mCons (mVar 1) mNil)) mNil)))
    (mSeq (mWhile (fuel_common) t_common_1 l_common_1)
    (mRet (mVar 0))))
def F_common : FM := mFun 0 b_common
def b_fraction : SM := (mSeq (mIfS (mTest (mOp gLt (mVar 1) (mC (.int 0)))) (mPar [0, 1] [false, false] (mCons (mOp gSub (mC (.int 0)) (mVar 0)) (mCons (mOp gSub (mC (.int 0)) (mVar 1)) mNil))) mNext)
    (mSeq (mSet 2 (mCallF F_common (mCons (mVar 0) (mCons (mVar 1) mNil))))
    (mRet (mTup (mCons (mOp gDiv (mVar 0) (mVar 2)) (mCons (mOp gDiv (mVar 1) (mVar 2)) mNil))))))
def F_fraction : FM := mFun 1 b_fraction
def b_by : SM := (mRet (mCallF F_fraction (mCons (mOp gMul (mOp gIx (mVar 0) (mC (.int 0))) (mOp gIx (mVar 1) (mC (.int 1)))) (mCons (mOp gMul (mOp gIx (mVar 0) (mC (.int 1))) (mOp gIx (mVar 1) (mC (.int 0)))) mNil))))
def F_by : FM := mFun 0 b_by
def b_is_less : SM := (mRet (mOp gLt (mOp gMul (mOp gIx (mVar 0) (mC (.int 0))) (mOp gIx (mVar 1) (mC (.int 1)))) (mOp gMul (mOp gIx (mVar 1) (mC (.int 0))) (mOp gIx (mVar 0) (mC (.int 1))))))
def F_is_less : FM := mFun 0 b_is_less
def b_minus : SM := (mRet (mCallF F_fraction (mCons (mOp gSub (mOp gMul (mOp gIx (mVar 0) (mC (.int 0))) (mOp gIx (mVar 1) (mC (.int 1)))) (mOp gMul (mOp gIx (mVar 1) (mC (.int 0))) (mOp gIx (mVar 0) (mC (.int 1))))) (mCons (mOp gMul (mOp gIx (mVar 0) (mC (.int 1))) (mOp gIx (mVar 1) (mC (.int 1)))) mNil))))
def F_minus : FM := mFun 0 b_minus
def b_plus : SM := (mRet (mCallF F_fraction (mCons (mOp gAddA (mOp gMul (mOp gIx (mVar 0) (mC (.int 0))) (mOp gIx (mVar 1) (mC (.int 1)))) (mOp gMul (mOp gIx (mVar 1) (mC (.int 0))) (mOp gIx (mVar 0) (mC (.int 1))))) (mCons (mOp gMul (mOp gIx (mVar 0) (mC (.int 1))) (mOp gIx (mVar 1) (mC (.int 1)))) mNil))))
def F_plus : FM := mFun 0 b_plus
def b_times : SM := (mRet (mCallF F_fraction (mCons (mOp gMul (mOp gIx (mVar 0) (mC (.int 0))) (mOp gIx (mVar 1) (mC (.int 0)))) (mCons (mOp gMul (mOp gIx (mVar 0) (mC (.int 1))) (mOp gIx (mVar 1) (mC (.int 1)))) mNil))))
def F_times : FM := mFun 0 b_times
def l_between_1 : SM := (mIfS (mNot (mTest (mCallF F_is_less (mCons (mVar 4) (mCons (mVar 1) mNil))))) (mSeq (mSet 6 (mCallF F_by (mCons (mCallF F_minus (mCons (mVar 1) (mCons (mVar 2) mNil))) (mCons (mCallF F_minus (mCons (mVar 4) (mCons (mVar 2) mNil))) mNil))))
    (mRet (mCallF F_plus (mCons (mVar 3) (mCons (mCallF F_times (mCons (mVar 6) (mCons (mCallF F_minus (mCons (mVar 5) (mCons (mVar 3) mNil))) mNil))) mNil))))) mNext)
def b_between : SM := (mSeq (mFor (mZipI (mCons (mVar 0) (mCons (mSlice gSliceA (mVar 0) (mPart (mC (.int 1))) mNoPart) mNil))) (.tp (.cons (.tp (.cons (.nm 2) (.cons (.nm 3) .nil))) (.cons (.tp (.cons (.nm 4) (.cons (.nm 5) .nil))) .nil))) l_between_1)
    (mRet (mOp gIx (mOp gIx (mVar 0) (mUn gNeg (mC (.int 1)))) (mC (.int 1)))))
def F_between : FM := mFun 5 b_between
def b_whole : SM := (mRet (mTup (mCons (mVar 0) (mCons (mC (.int 1)) mNil))))
def F_whole : FM := mFun 0 b_whole
def e_points_of_1 : EM := (mTup (mCons (mCallF F_whole (mCons (mVar 1) mNil)) (mCons (mCallF F_whole (mCons (mVar 2) mNil)) mNil)))
def b_points_of : SM := (mRet (mComp [1, 2] (mSeqI (mFld [(0, 0)] (mVar 0))) (.tp (.cons (.nm 1) (.cons (.nm 2) .nil))) mYes e_points_of_1))
def F_points_of : FM := mFun 2 b_points_of
def b_is_fraction : SM := (mSeq (mIfS (mOr (mNot (mTest (mCallF F_is_row (mCons (mVar 0) (mCons (mC (.int 2)) mNil))))) (mOr (mNot (mTest (mCallF F_is_whole (mCons (mOp gIx (mVar 0) (mC (.int 0))) mNil)))) (mNot (mTest (mCallF F_is_whole (mCons (mOp gIx (mVar 0) (mC (.int 1))) mNil)))))) (mRet (mC (.bl false))) mNext)
    (mRet (mAndV (mOp gGe (mOp gIx (mVar 0) (mC (.int 1))) (mC (.int 1))) (mOp gEq (mCallF F_common (mCons (mOp gIx (mVar 0) (mC (.int 0))) (mCons (mOp gIx (mVar 0) (mC (.int 1))) mNil))) (mC (.int 1))))))
def F_is_fraction : FM := mFun 0 b_is_fraction
def b_is_level : SM := (mRet (mAndV (mCallF F_is_fraction (mCons (mVar 0) mNil)) (mChain gLe gLe (mC (.int 0)) (mOp gIx (mVar 0) (mC (.int 0))) (mOp gMul (mC (.int 255)) (mOp gIx (mVar 0) (mC (.int 1)))))))
def F_is_level : FM := mFun 0 b_is_level
def b_require_level : SM := (mIfS (mNot (mTest (mCallF F_is_level (mCons (mVar 0) mNil)))) mNever mNext)
def F_require_level : FM := mFun 0 b_require_level
def b_value_at : SM := (mSeq (mDrop (mCallF F_require_level (mCons (mVar 1) mNil)))
    (mRet (mCallF F_between (mCons (mCallF F_points_of (mCons (mVar 0) mNil)) (mCons (mVar 1) mNil)))))
def F_value_at : FM := mFun 0 b_value_at
def l_apart_1 : SM := (mIfS (mTest (mOp gNe (mCallF F_value_at (mCons (mVar 0) (mCons (mTup (mCons (mVar 2) (mCons (mC (.int 1)) mNil))) mNil))) (mCallF F_value_at (mCons (mVar 1) (mCons (mTup (mCons (mVar 2) (mCons (mC (.int 1)) mNil))) mNil))))) (mRet (mVar 2)) mNext)
def b_apart : SM := (mSeq (mFor (mRng1 (mCons (mOp gAddA (mC (.int 255)) (mC (.int 1))) mNil)) (.nm 2) l_apart_1)
    (mRet (mC .non)))
def F_apart : FM := mFun 1 b_apart
def b_Curve_eq : SM := (mRet (mAndV (gIsi (kCl cs 0) (mVar 1)) (mOp gEq (mFld [(0, 0)] (mVar 0)) (mFld [(0, 0)] (mVar 1)))))
def F_Curve_eq : FM := mFun 0 b_Curve_eq
def b_is_straight : SM := (mSeq (mSet 3 (mCallF F_times (mCons (mCallF F_minus (mCons (mOp gIx (mVar 1) (mC (.int 1))) (mCons (mOp gIx (mVar 0) (mC (.int 1))) mNil))) (mCons (mCallF F_minus (mCons (mOp gIx (mVar 2) (mC (.int 0))) (mCons (mOp gIx (mVar 0) (mC (.int 0))) mNil))) mNil))))
    (mRet (mOp gEq (mVar 3) (mCallF F_times (mCons (mCallF F_minus (mCons (mOp gIx (mVar 2) (mC (.int 1))) (mCons (mOp gIx (mVar 0) (mC (.int 1))) mNil))) (mCons (mCallF F_minus (mCons (mOp gIx (mVar 1) (mC (.int 0))) (mCons (mOp gIx (mVar 0) (mC (.int 0))) mNil))) mNil))))))
def F_is_straight : FM := mFun 1 b_is_straight
def t_shortened_1 : TM := (mAnd (mTest (mOp gGe (mCall gLen (mCons (mVarB 1) mNil)) (mC (.int 2)))) (mTest (mCallF F_is_straight (mCons (mOp gIx (mVarB 1) (mUn gNeg (mC (.int 2)))) (mCons (mOp gIx (mVarB 1) (mUn gNeg (mC (.int 1)))) (mCons (mVar 2) mNil))))))
def l_shortened_1 : SM := (mSeq (mWhile (fuel_shortened) t_shortened_1 (mMethS 1 oPop mNil))
    (mMethS 1 oAppend (mCons (mVar 2) mNil)))
def b_shortened : SM := (mSeq (mSetO 1 (mLst mNil))
    (mSeq (mFor (mSeqI (mVar 0)) (.nm 2) l_shortened_1)
    (mFrz 1 (mRet (mVar 1)))))
def F_shortened : FM := mFun 2 b_shortened
def e_shortest_1 : EM := (mTup (mCons (mOp gIx (mVar 1) (mC (.int 0))) (mCons (mOp gIx (mVar 2) (mC (.int 0))) mNil)))
def b_shortest : SM := (mRet (mCallF F_Curve_init (mCons (mCall gTuple (mCons (mComp [1, 2] (mSeqI (mCallF F_shortened (mCons (mCallF F_points_of (mCons (mVar 0) mNil)) mNil))) (.tp (.cons (.nm 1) (.cons (.nm 2) .nil))) mYes e_shortest_1) mNil)) mNil)))
def F_shortest : FM := mFun 2 b_shortest
def b_are_alike : SM := (mRet (mOp (gEqO 0 F_Curve_eq) (mCallF F_shortest (mCons (mVar 0) mNil)) (mCallF F_shortest (mCons (mVar 1) mNil))))
def F_are_alike : FM := mFun 0 b_are_alike
def l_area_below_1 : SM := (mSet 1 (mCallF F_plus (mCons (mVar 1) (mCons (mCallF F_fraction (mCons (mOp gMul (mOp gSub (mOp gIx (mVar 3) (mC (.int 0))) (mOp gIx (mVar 2) (mC (.int 0)))) (mOp gAddA (mOp gIx (mVar 2) (mC (.int 1))) (mOp gIx (mVar 3) (mC (.int 1))))) (mCons (mC (.int 2)) mNil))) mNil))))
def b_area_below : SM := (mSeq (mSet 1 (mTup (mCons (mC (.int 0)) (mCons (mC (.int 1)) mNil))))
    (mSeq (mFor (mZipI (mCons (mFld [(0, 0)] (mVar 0)) (mCons (mSlice gSliceA (mFld [(0, 0)] (mVar 0)) (mPart (mC (.int 1))) mNoPart) mNil))) (.tp (.cons (.nm 2) (.cons (.nm 3) .nil))) l_area_below_1)
    (mRet (mVar 1))))
def F_area_below : FM := mFun 3 b_area_below
def b_floor : SM := (mRet (mOp gDiv (mOp gIx (mVar 0) (mC (.int 0))) (mOp gIx (mVar 0) (mC (.int 1)))))
def F_floor : FM := mFun 0 b_floor
def e_cut_off_1 : EM := (mCallF F_floor (mCons (mCallF F_value_at (mCons (mVar 0) (mCons (mTup (mCons (mVar 1) (mCons (mC (.int 1)) mNil))) mNil))) mNil))
def b_cut_off : SM := (mRet (mCall gTuple (mCons (mComp [1] (mRng1 (mCons (mOp gAddA (mC (.int 255)) (mC (.int 1))) mNil)) (.nm 1) mYes e_cut_off_1) mNil)))
def F_cut_off : FM := mFun 1 b_cut_off
def t_in_order_1 : TM := (mAnd (mTest (mOp gLt (mVar 3) (mCall gLen (mCons (mVarB 1) mNil)))) (mTest (mCallF F_is_less (mCons (mOp gIx (mVarB 1) (mVar 3)) (mCons (mVar 2) mNil)))))
def l_in_order_1 : SM := (mAug 3 (fun i j => i + j) (mC (.int 1)))
def l_in_order_2 : SM := (mSeq (mSet 3 (mC (.int 0)))
    (mSeq (mWhile (fuel_in_order) t_in_order_1 l_in_order_1)
    (mIfS (mOr (mTest (mOp gEq (mVar 3) (mCall gLen (mCons (mVarB 1) mNil)))) (mTest (mOp gNe (mOp gIx (mVarB 1) (mVar 3)) (mVar 2)))) (mMethS 1 oInsert (mCons (mVar 3) (mCons (mVar 2) mNil))) mNext)))
def b_in_order : SM := (mSeq (mSetO 1 (mLst mNil))
    (mSeq (mFor (mSeqI (mVar 0)) (.nm 2) l_in_order_2)
    (mFrz 1 (mRet (mVar 1)))))
def F_in_order : FM := mFun 3 b_in_order
def e_greatest_gap_1 : EM := (mTup (mCons (mVar 3) (mCons (mC (.int 1)) mNil)))
def l_greatest_gap_1 : SM := (mSeq (mSet 4 (mCallF F_minus (mCons (mCallF F_value_at (mCons (mVar 0) (mCons (mVar 3) mNil))) (mCons (mCallF F_value_at (mCons (mVar 1) (mCons (mVar 3) mNil))) mNil))))
    (mSeq (mSet 4 (mIf (mTest (mOp gGe (mOp gIx (mVar 4) (mC (.int 0))) (mC (.int 0)))) (mVar 4) (mTup (mCons (mOp gSub (mC (.int 0)) (mOp gIx (mVar 4) (mC (.int 0)))) (mCons (mOp gIx (mVar 4) (mC (.int 1))) mNil)))))
    (mSet 2 (mIf (mTest (mCallF F_is_less (mCons (mVar 2) (mCons (mVar 4) mNil)))) (mVar 4) (mVar 2)))))
def b_greatest_gap : SM := (mSeq (mSet 2 (mTup (mCons (mC (.int 0)) (mCons (mC (.int 1)) mNil))))
    (mSeq (mFor (mSeqI (mCallF F_in_order (mCons (mComp [3, 5] (mSeqI (mOp gAddA (mFld [(0, 0)] (mVar 0)) (mFld [(0, 0)] (mVar 1)))) (.tp (.cons (.nm 3) (.cons (.nm 5) .nil))) mYes e_greatest_gap_1) mNil))) (.nm 3) l_greatest_gap_1)
    (mRet (mVar 2))))
def F_greatest_gap : FM := mFun 4 b_greatest_gap
def e_is_rising_1 : EM := (mOp gLt (mOp gIx (mVar 1) (mC (.int 1))) (mOp gIx (mVar 2) (mC (.int 1))))
def b_is_rising : SM := (mRet (mCall gAll (mCons (mComp [1, 2] (mZipI (mCons (mFld [(0, 0)] (mVar 0)) (mCons (mSlice gSliceA (mFld [(0, 0)] (mVar 0)) (mPart (mC (.int 1))) mNoPart) mNil))) (.tp (.cons (.nm 1) (.cons (.nm 2) .nil))) mYes e_is_rising_1) mNil)))
def F_is_rising : FM := mFun 2 b_is_rising
def t_preimage_1 : TM := (mTest (mOp gEq (mVar 5) (mVar 1)))
def l_preimage_1 : SM := (mIfS (mAnd (mTest (mCallF F_is_less (mCons (mVar 5) (mCons (mVar 1) mNil)))) (mTest (mCallF F_is_less (mCons (mVar 1) (mCons (mVar 7) mNil))))) (mSeq (mSet 8 (mCallF F_by (mCons (mCallF F_minus (mCons (mVar 1) (mCons (mVar 5) mNil))) (mCons (mCallF F_minus (mCons (mVar 7) (mCons (mVar 5) mNil))) mNil))))
    (mMethS 3 oAppend (mCons (mCallF F_plus (mCons (mVar 4) (mCons (mCallF F_times (mCons (mVar 8) (mCons (mCallF F_minus (mCons (mVar 6) (mCons (mVar 4) mNil))) mNil))) mNil))) mNil))) mNext)
def b_preimage : SM := (mSeq (mDrop (mCallF F_require_level (mCons (mVar 1) mNil)))
    (mSeq (mSet 2 (mCallF F_points_of (mCons (mVar 0) mNil)))
    (mSeq (mIfS (mOr (mTest (mCallF F_is_less (mCons (mVar 1) (mCons (mOp gIx (mOp gIx (mVar 2) (mC (.int 0))) (mC (.int 1))) mNil)))) (mTest (mCallF F_is_less (mCons (mOp gIx (mOp gIx (mVar 2) (mUn gNeg (mC (.int 1)))) (mC (.int 1))) (mCons (mVar 1) mNil))))) (mRet (mC .non)) mNext)
    (mSeq (mSetO 3 (mComp [4, 5] (mSeqI (mVar 2)) (.tp (.cons (.nm 4) (.cons (.nm 5) .nil))) t_preimage_1 (mVar 4)))
    (mSeq (mFor (mZipI (mCons (mVar 2) (mCons (mSlice gSliceA (mVar 2) (mPart (mC (.int 1))) mNoPart) mNil))) (.tp (.cons (.tp (.cons (.nm 4) (.cons (.nm 5) .nil))) (.cons (.tp (.cons (.nm 6) (.cons (.nm 7) .nil))) .nil))) l_preimage_1)
    (mSeq (mFrz 3 (mSet 3 (mCallF F_in_order (mCons (mVar 3) mNil))))
    (mRet (mTup (mCons (mOp gIx (mVarB 3) (mC (.int 0))) (mCons (mOp gIx (mVarB 3) (mUn gNeg (mC (.int 1)))) mNil))))))))))
def F_preimage : FM := mFun 7 b_preimage
def b_nearest_whole : SM := (mRet (mUn gNeg (mOp gDiv (mOp gSub (mOp gIx (mVar 0) (mC (.int 1))) (mOp gMul (mC (.int 2)) (mOp gIx (mVar 0) (mC (.int 0))))) (mOp gMul (mC (.int 2)) (mOp gIx (mVar 0) (mC (.int 1)))))))
def F_nearest_whole : FM := mFun 0 b_nearest_whole
def e_rounded_1 : EM := (mCallF F_nearest_whole (mCons (mCallF F_value_at (mCons (mVar 0) (mCons (mTup (mCons (mVar 1) (mCons (mC (.int 1)) mNil))) mNil))) mNil))
def b_rounded : SM := (mRet (mCall gTuple (mCons (mComp [1] (mRng1 (mCons (mOp gAddA (mC (.int 255)) (mC (.int 1))) mNil)) (.nm 1) mYes e_rounded_1) mNil)))
def F_rounded : FM := mFun 1 b_rounded
def e_steepest_1 : EM := (mCallF F_fraction (mCons (mOp gSub (mOp gIx (mVar 5) (mC (.int 1))) (mOp gIx (mVar 4) (mC (.int 1)))) (mCons (mOp gSub (mOp gIx (mVar 5) (mC (.int 0))) (mOp gIx (mVar 4) (mC (.int 0)))) mNil)))
def l_steepest_1 : SM := (mSet 2 (mIf (mTest (mCallF F_is_less (mCons (mVar 2) (mCons (mVar 3) mNil)))) (mVar 3) (mVar 2)))
def b_steepest : SM := (mSeq (mSet 1 (mComp [4, 5] (mZipI (mCons (mFld [(0, 0)] (mVar 0)) (mCons (mSlice gSliceA (mFld [(0, 0)] (mVar 0)) (mPart (mC (.int 1))) mNoPart) mNil))) (.tp (.cons (.nm 4) (.cons (.nm 5) .nil))) mYes e_steepest_1))
    (mSeq (mSet 2 (mOp gIx (mVar 1) (mC (.int 0))))
    (mSeq (mFor (mSeqI (mSlice gSliceA (mVar 1) (mPart (mC (.int 1))) mNoPart)) (.nm 3) l_steepest_1)
    (mRet (mVar 2)))))
def F_steepest : FM := mFun 5 b_steepest
def e_law_1 : EM := (mCallF F__law_curve_at (mCons (mVar 3) (mCons (mTup (mCons (mVar 18) (mCons (mC (.int 1)) mNil))) mNil)))
def l_law_1 : SM := (mSeq (mSet 7 (mCallF F__law_level (mCons (mVar 1) mNil)))
    (mIfS (mNot (mTest (mCallF (F__law_alike 4) (mCons (mCallF F_value_at (mCons (mVar 4) (mCons (mVar 7) mNil))) (mCons (mCallF F__law_curve_at (mCons (mVar 3) (mCons (mVar 7) mNil))) mNil))))) (mRet (mC (.bl false))) mNext))
def l_law_2 : SM := (mSeq (mPar [10, 11] [false, false] (mCons (mOp gSub (mOp gIx (mOp gIx (mVar 3) (mVar 6)) (mC (.int 1))) (mOp gIx (mOp gIx (mVar 3) (mOp gSub (mVar 6) (mC (.int 1)))) (mC (.int 1)))) (mCons (mOp gSub (mOp gIx (mOp gIx (mVar 3) (mVar 6)) (mC (.int 0))) (mOp gIx (mOp gIx (mVar 3) (mOp gSub (mVar 6) (mC (.int 1)))) (mC (.int 0)))) mNil)))
    (mIfS (mTest (mOp gNe (mOp gMul (mVar 10) (mOp gSub (mOp gIx (mOp gIx (mVar 3) (mOp gAddA (mVar 6) (mC (.int 1)))) (mC (.int 0))) (mOp gIx (mOp gIx (mVar 3) (mVar 6)) (mC (.int 0))))) (mOp gMul (mOp gSub (mOp gIx (mOp gIx (mVar 3) (mOp gAddA (mVar 6) (mC (.int 1)))) (mC (.int 1))) (mOp gIx (mOp gIx (mVar 3) (mVar 6)) (mC (.int 1)))) (mVar 11)))) (mMethS 9 oAppend (mCons (mOp gIx (mVar 3) (mVar 6)) mNil)) mNext))
def e_law_2 : EM := (mCallF F__law_curve_at (mCons (mVar 12) (mCons (mTup (mCons (mVar 18) (mCons (mC (.int 1)) mNil))) mNil)))
def t_law_1 : TM := (mTest (mOp gNe (mOp gIx (mVar 13) (mVar 18)) (mOp gIx (mVar 5) (mVar 18))))
def l_law_3 : SM := (mSeq (mSet 19 (mCallF F__law_sub (mCons (mOp gIx (mVar 5) (mVar 18)) (mCons (mOp gIx (mVar 13) (mVar 18)) mNil))))
    (mSeq (mSet 19 (mTup (mCons (mCall gAbs (mCons (mOp gIx (mVar 19) (mC (.int 0))) mNil)) (mCons (mOp gIx (mVar 19) (mC (.int 1))) mNil))))
    (mSet 15 (mIf (mTest (mCallF F__law_lt (mCons (mVar 15) (mCons (mVar 19) mNil)))) (mVar 19) (mVar 15)))))
def l_law_4 : SM := (mSeq (mSet 20 (mCallF F__law_frac (mCons (mOp gSub (mOp gIx (mOp gIx (mVar 3) (mOp gAddA (mVar 6) (mC (.int 1)))) (mC (.int 1))) (mOp gIx (mOp gIx (mVar 3) (mVar 6)) (mC (.int 1)))) (mCons (mOp gSub (mOp gIx (mOp gIx (mVar 3) (mOp gAddA (mVar 6) (mC (.int 1)))) (mC (.int 0))) (mOp gIx (mOp gIx (mVar 3) (mVar 6)) (mC (.int 0)))) mNil))))
    (mSet 16 (mIf (mTest (mCallF F__law_lt (mCons (mVar 16) (mCons (mVar 20) mNil)))) (mVar 20) (mVar 16))))
def l_law_5 : SM := (mSet 17 (mCallF F__law_add (mCons (mVar 17) (mCons (mCallF F__law_div (mCons (mCallF F__law_add (mCons (mOp gIx (mVar 5) (mVar 18)) (mCons (mOp gIx (mVar 5) (mOp gAddA (mVar 18) (mC (.int 1)))) mNil))) (mCons (mTup (mCons (mC (.int 2)) (mCons (mC (.int 1)) mNil))) mNil))) mNil))))
def t_law_2 : TM := (mTest (mOp gGe (mOp gIx (mOp gIx (mVar 3) (mVar 6)) (mC (.int 1))) (mOp gIx (mOp gIx (mVar 3) (mOp gAddA (mVar 6) (mC (.int 1)))) (mC (.int 1)))))
def e_law_3 : EM := (mOp gDiv (mOp gIx (mVar 29) (mC (.int 0))) (mOp gIx (mVar 29) (mC (.int 1))))
def t_law_3 : TM := (mNot (mTest (mChain gLt gLe (mUn gNeg (mOp gIx (mOp gIx (mVar 5) (mVar 18)) (mC (.int 1)))) (mOp gMul (mC (.int 2)) (mOp gSub (mOp gIx (mOp gIx (mVar 5) (mVar 18)) (mC (.int 0))) (mOp gMul (mOp gIx (mVar 23) (mVar 18)) (mOp gIx (mOp gIx (mVar 5) (mVar 18)) (mC (.int 1)))))) (mOp gIx (mOp gIx (mVar 5) (mVar 18)) (mC (.int 1))))))
def l_law_6 : SM := (mSeq (mSet 24 (mCallF F_preimage (mCons (mVar 4) (mCons (mVar 7) mNil))))
    (mSeq (mSet 25 (mAndV (mNotV (mCallF F__law_lt (mCons (mVar 7) (mCons (mOp gIx (mVar 5) (mC (.int 0))) mNil)))) (mNotV (mCallF F__law_lt (mCons (mOp gIx (mVar 5) (mC (.int 255))) (mCons (mVar 7) mNil))))))
    (mSeq (mIfS (mTest (mOp gNe (mOp gIs (mVar 24) (mC .non)) (mNotV (mVar 25)))) (mRet (mC (.bl false))) mNext)
    (mIfS (mTest (mOp gIsNot (mVar 24) (mC .non))) (mSeq (mPt (.tp (.cons (.nm 26) (.cons (.nm 27) .nil))) (mVar 24))
    (mSeq (mIfS (mOr (mNot (mTest (mCallF F__law_is_frac (mCons (mVar 26) mNil)))) (mOr (mNot (mTest (mCallF F__law_is_frac (mCons (mVar 27) mNil)))) (mOr (mTest (mOp gNe (mCallF F__law_curve_at (mCons (mVar 3) (mCons (mVar 26) mNil))) (mVar 7))) (mOr (mTest (mOp gNe (mCallF F__law_curve_at (mCons (mVar 3) (mCons (mVar 27) mNil))) (mVar 7))) (mTest (mCallF F__law_lt (mCons (mVar 27) (mCons (mVar 26) mNil)))))))) (mRet (mC (.bl false))) mNext)
    (mSeq (mSet 28 (mTup (mCons (mC (.int 1)) (mCons (mC (.int 100000)) mNil))))
    (mSeq (mIfS (mAnd (mTest (mOp gGt (mOp gIx (mVar 26) (mC (.int 0))) (mC (.int 0)))) (mTest (mOp gEq (mCallF F__law_curve_at (mCons (mVar 3) (mCons (mIf (mTest (mCallF F__law_lt (mCons (mVar 28) (mCons (mVar 26) mNil)))) (mCallF F__law_sub (mCons (mVar 26) (mCons (mVar 28) mNil))) (mTup (mCons (mC (.int 0)) (mCons (mC (.int 1)) mNil)))) mNil))) (mVar 7)))) (mRet (mC (.bl false))) mNext)
    (mIfS (mAnd (mTest (mOp gNe (mVar 27) (mTup (mCons (mC (.int 255)) (mCons (mC (.int 1)) mNil))))) (mNot (mTest (mCallF F__law_lt (mCons (mVar 7) (mCons (mCallF F__law_curve_at (mCons (mVar 3) (mCons (mCallF F__law_add (mCons (mVar 27) (mCons (mVar 28) mNil))) mNil))) mNil)))))) (mRet (mC (.bl false))) mNext))))) mNext))))
def l_law_7 : SM := (mSeq (mSet 3 (mCallF F__law_knots (mCons (mVar 1) mNil)))
    (mSeq (mPt (.tp (.cons (.nm 4) (.cons (.nm 5) .nil))) (mTup (mCons (mCallF F_Curve_init (mCons (mVar 3) mNil)) (mCons (mComp [18] (mRng1 (mCons (mC (.int 256)) mNil)) (.nm 18) mYes e_law_1) mNil))))
    (mSeq (mIfS (mNot (mTest (mCallF (F__law_alike 4) (mCons (mFld [(0, 0)] (mVar 4)) (mCons (mVar 3) mNil))))) (mRet (mC (.bl false))) mNext)
    (mSeq (mFor (mRng1 (mCons (mC (.int 4)) mNil)) (.nm 6) l_law_1)
    (mSeq (mPar [8, 9] [false, true] (mCons (mFld [(0, 0)] (mCallF F_shortest (mCons (mVar 4) mNil))) (mCons (mLst (mCons (mOp gIx (mVar 3) (mC (.int 0))) mNil)) mNil)))
    (mSeq (mFor (mRng2 (mCons (mC (.int 1)) (mCons (mOp gSub (mCall gLen (mCons (mVar 3) mNil)) (mC (.int 1))) mNil))) (.nm 6) l_law_2)
    (mSeq (mIfS (mNot (mTest (mCallF (F__law_alike 4) (mCons (mVar 8) (mCons (mCall gTuple (mCons (mOp gAddA (mVarB 9) (mLst (mCons (mOp gIx (mVar 3) (mUn gNeg (mC (.int 1)))) mNil))) mNil)) mNil))))) (mRet (mC (.bl false))) mNext)
    (mSeq (mSet 12 (mCallF F__law_pick (mCons (mVar 1) (mCons (mLst (mCons (mVar 3) (mCons (mVar 8) (mCons (mCallF F__law_knots (mCons (mVar 1) mNil)) (mCons (mOp gAddA (mSlice gSliceA (mVar 3) mNoPart (mPart (mUn gNeg (mC (.int 1))))) (mTup (mCons (mTup (mCons (mC (.int 255)) (mCons (mCall gMin (mCons (mC (.int 255)) (mCons (mOp gAddA (mOp gIx (mOp gIx (mVar 3) (mUn gNeg (mC (.int 1)))) (mC (.int 1))) (mC (.int 1))) mNil))) mNil))) mNil))) mNil))))) mNil))))
    (mSeq (mSet 13 (mComp [18] (mRng1 (mCons (mC (.int 256)) mNil)) (.nm 18) mYes e_law_2))
    (mSeq (mSet 14 (mComp [18] (mRng1 (mCons (mC (.int 256)) mNil)) (.nm 18) t_law_1 (mVar 18)))
    (mSeq (mIfS (mNot (mTest (mCallF (F__law_alike 4) (mCons (mTup (mCons (mCallF F_are_alike (mCons (mVar 4) (mCons (mCallF F_Curve_init (mCons (mVar 12) mNil)) mNil))) (mCons (mCallF F_apart (mCons (mVar 4) (mCons (mCallF F_Curve_init (mCons (mVar 12) mNil)) mNil))) mNil))) (mCons (mTup (mCons (mOp gEq (mVar 14) (mLst mNil)) (mCons (mIf (mTest (mOp gNe (mVar 14) (mLst mNil))) (mOp gIx (mVar 14) (mC (.int 0))) (mC .non)) mNil))) mNil))))) (mRet (mC (.bl false))) mNext)
    (mSeq (mPt (.tp (.cons (.nm 15) (.cons (.nm 16) (.cons (.nm 17) .nil)))) (mTup (mCons (mTup (mCons (mC (.int 0)) (mCons (mC (.int 1)) mNil))) (mCons (mTup (mCons (mC (.int 0)) (mCons (mC (.int 1)) mNil))) (mCons (mTup (mCons (mC (.int 0)) (mCons (mC (.int 1)) mNil))) mNil)))))
    (mSeq (mFor (mRng1 (mCons (mC (.int 256)) mNil)) (.nm 18) l_law_3)
    (mSeq (mFor (mRng1 (mCons (mOp gSub (mCall gLen (mCons (mVar 3) mNil)) (mC (.int 1))) mNil)) (.nm 6) l_law_4)
    (mSeq (mFor (mRng1 (mCons (mC (.int 255)) mNil)) (.nm 18) l_law_5)
    (mSeq (mSet 21 (mTup (mCons (mCallF F_greatest_gap (mCons (mVar 4) (mCons (mCallF F_Curve_init (mCons (mVar 12) mNil)) mNil))) (mCons (mCallF F_steepest (mCons (mVar 4) mNil)) (mCons (mCallF F_area_below (mCons (mVar 4) mNil)) (mCons (mCallF F_is_rising (mCons (mVar 4) mNil)) mNil))))))
    (mSeq (mSet 22 (mOp gEq (mComp [6] (mRng1 (mCons (mOp gSub (mCall gLen (mCons (mVar 3) mNil)) (mC (.int 1))) mNil)) (.nm 6) t_law_2 (mVar 6)) (mLst mNil)))
    (mSeq (mIfS (mNot (mTest (mCallF (F__law_alike 4) (mCons (mVar 21) (mCons (mTup (mCons (mVar 15) (mCons (mVar 16) (mCons (mVar 17) (mCons (mVar 22) mNil))))) mNil))))) (mRet (mC (.bl false))) mNext)
    (mSeq (mIfS (mNot (mTest (mCallF (F__law_alike 4) (mCons (mCallF F_cut_off (mCons (mVar 4) mNil)) (mCons (mCall gTuple (mCons (mComp [29] (mSeqI (mVar 5)) (.nm 29) mYes e_law_3) mNil)) mNil))))) (mRet (mC (.bl false))) mNext)
    (mSeq (mSet 23 (mCallF F_rounded (mCons (mVar 4) mNil)))
    (mSeq (mIfS (mOr (mTest (mOp gNe (mCall gLen (mCons (mVar 23) mNil)) (mC (.int 256)))) (mTest (mOp gNe (mComp [18] (mRng1 (mCons (mC (.int 256)) mNil)) (.nm 18) t_law_3 (mVar 18)) (mLst mNil)))) (mRet (mC (.bl false))) mNext)
    (mFor (mSeqI (mLst (mCons (mTup (mCons (mOp gIx (mOp gIx (mVar 3) (mC (.int 0))) (mC (.int 1))) (mCons (mC (.int 1)) mNil))) (mCons (mTup (mCons (mOp gIx (mOp gIx (mVar 3) (mUn gNeg (mC (.int 1)))) (mC (.int 1))) (mCons (mC (.int 1)) mNil))) (mCons (mCallF F__law_pick (mCons (mVar 1) (mCons (mVar 5) mNil))) (mCons (mCallF F__law_level (mCons (mVar 1) mNil)) mNil)))))) (.nm 7) l_law_6))))))))))))))))))))))
def b_law : SM := (mSeq (mCell 1 (mLst (mCons (mVar 0) (mCons (mC (.int 0)) (mCons (mC (.int 4021)) (mCons (mC (.int 0)) mNil))))))
    (mSeq (mFor (mRng1 (mCons (mC (.int 3)) mNil)) (.nm 2) l_law_7)
    (mRet (mC (.bl true)))))
def F_law : FM := mFun 29 b_law
end K02

namespace K02
open PySem PySem.Spec PyProof.Rows L2 Tv
/-! ### the walk -/
open He in
def tb (K : PySem.W.Frag) : Tb where
  cls := fun c => match c with
    | 0 => He.ga K "Curve"
    | _ => 0
  fn := fun c => match c with
    | 0 => He.ga K "is_knot"
    | _ => 0
  fl := fun c => match c with
    | 0 => ["knots"]
    | _ => []
theorem sc_is_row : FnScope ["value", "size"] ["value", "size"] (defScope (top 7)) := ⟨rfl, rfl, rfl, by decide +kernel, rfl, by decide +kernel, by decide +kernel⟩
theorem sc_is_whole : FnScope ["value"] ["value"] (defScope (top 5)) := ⟨rfl, rfl, rfl, by decide +kernel, rfl, by decide +kernel, by decide +kernel⟩
theorem sc_is_within : FnScope ["value", "least", "most"] ["value", "least", "most"] (defScope (top 6)) := ⟨rfl, rfl, rfl, by decide +kernel, rfl, by decide +kernel, by decide +kernel⟩
theorem sc_is_knot : FnScope ["row", "ahead"] ["row", "ahead"] (defScope (top 27)) := ⟨rfl, rfl, rfl, by decide +kernel, rfl, by decide +kernel, by decide +kernel⟩
theorem sc_first_wrong : FnScope ["value", "least", "most", "judge", "place", "row"] ["value", "least", "most", "judge"] (defScope (top 8)) := ⟨rfl, rfl, rfl, by decide +kernel, rfl, by decide +kernel, by decide +kernel⟩
theorem sc_knots_place : FnScope ["knots", "place"] ["knots"] (defScope (top 28)) := ⟨rfl, rfl, rfl, by decide +kernel, rfl, by decide +kernel, by decide +kernel⟩
theorem sc_require_part : FnScope ["part", "place"] ["part", "place"] (defScope (top 11)) := ⟨rfl, rfl, rfl, by decide +kernel, rfl, by decide +kernel, by decide +kernel⟩
theorem sc_Curve_init : FnScope ["self", "knots"] ["self", "knots"] (defScope (inClass (top 29) 0)) := ⟨rfl, rfl, rfl, by decide +kernel, rfl, by decide +kernel, by decide +kernel⟩
theorem sc__law_gcd : FnScope ["one", "other", "turn"] ["one", "other"] (defScope (top 51)) := ⟨rfl, rfl, rfl, by decide +kernel, rfl, by decide +kernel, by decide +kernel⟩
theorem sc__law_frac : FnScope ["top", "below", "common_one"] ["top", "below"] (defScope (top 52)) := ⟨rfl, rfl, rfl, by decide +kernel, rfl, by decide +kernel, by decide +kernel⟩
theorem sc__law_add : FnScope ["one", "two"] ["one", "two"] (defScope (top 53)) := ⟨rfl, rfl, rfl, by decide +kernel, rfl, by decide +kernel, by decide +kernel⟩
theorem sc__law_alike : FnScope ["found", "due", "k"] ["found", "due"] (defScope (top 50)) := ⟨rfl, rfl, rfl, by decide +kernel, rfl, by decide +kernel, by decide +kernel⟩
theorem sc__law_div : FnScope ["one", "two"] ["one", "two"] (defScope (top 56)) := ⟨rfl, rfl, rfl, by decide +kernel, rfl, by decide +kernel, by decide +kernel⟩
theorem sc__law_lt : FnScope ["one", "two"] ["one", "two"] (defScope (top 57)) := ⟨rfl, rfl, rfl, by decide +kernel, rfl, by decide +kernel, by decide +kernel⟩
theorem sc__law_mul : FnScope ["one", "two"] ["one", "two"] (defScope (top 55)) := ⟨rfl, rfl, rfl, by decide +kernel, rfl, by decide +kernel, by decide +kernel⟩
theorem sc__law_sub : FnScope ["one", "two"] ["one", "two"] (defScope (top 54)) := ⟨rfl, rfl, rfl, by decide +kernel, rfl, by decide +kernel, by decide +kernel⟩
theorem sc__law_curve_at : FnScope ["knots", "level", "k", "x", "y", "after", "rise", "part"] ["knots", "level"] (defScope (top 60)) := ⟨rfl, rfl, rfl, by decide +kernel, rfl, by decide +kernel, by decide +kernel⟩
theorem sc__law_is_frac : FnScope ["value", "one"] ["value"] (defScope (top 58)) := ⟨rfl, rfl, rfl, by decide +kernel, rfl, by decide +kernel, by decide +kernel⟩
theorem sc__law_taken : FnScope ["row", "many", "found", "cell"] ["row", "many"] (defScope (top 48)) := ⟨rfl, rfl, rfl, by decide +kernel, rfl, by decide +kernel, by decide +kernel⟩
theorem sc__law_pick : FnScope ["row", "things"] ["row", "things"] (defScope (top 49)) := ⟨rfl, rfl, rfl, by decide +kernel, rfl, by decide +kernel, by decide +kernel⟩
theorem sc__law_knots : FnScope ["row", "xs", "wide", "turn", "x", "found", "y"] ["row"] (defScope (top 59)) := ⟨rfl, rfl, rfl, by decide +kernel, rfl, by decide +kernel, by decide +kernel⟩
theorem sc__law_level : FnScope ["row", "below"] ["row"] (defScope (top 61)) := ⟨rfl, rfl, rfl, by decide +kernel, rfl, by decide +kernel, by decide +kernel⟩
theorem sc_common : FnScope ["one", "other"] ["one", "other"] (defScope (top 9)) := ⟨rfl, rfl, rfl, by decide +kernel, rfl, by decide +kernel, by decide +kernel⟩
theorem sc_fraction : FnScope ["top", "below", "shared"] ["top", "below"] (defScope (top 13)) := ⟨rfl, rfl, rfl, by decide +kernel, rfl, by decide +kernel, by decide +kernel⟩
theorem sc_by : FnScope ["one", "other"] ["one", "other"] (defScope (top 19)) := ⟨rfl, rfl, rfl, by decide +kernel, rfl, by decide +kernel, by decide +kernel⟩
theorem sc_is_less : FnScope ["one", "other"] ["one", "other"] (defScope (top 20)) := ⟨rfl, rfl, rfl, by decide +kernel, rfl, by decide +kernel, by decide +kernel⟩
theorem sc_minus : FnScope ["one", "other"] ["one", "other"] (defScope (top 17)) := ⟨rfl, rfl, rfl, by decide +kernel, rfl, by decide +kernel, by decide +kernel⟩
theorem sc_plus : FnScope ["one", "other"] ["one", "other"] (defScope (top 16)) := ⟨rfl, rfl, rfl, by decide +kernel, rfl, by decide +kernel, by decide +kernel⟩
theorem sc_times : FnScope ["one", "other"] ["one", "other"] (defScope (top 18)) := ⟨rfl, rfl, rfl, by decide +kernel, rfl, by decide +kernel, by decide +kernel⟩
theorem sc_between : FnScope ["points", "level", "x", "y", "next_x", "next_y", "part"] ["points", "level"] (defScope (top 32)) := ⟨rfl, rfl, rfl, by decide +kernel, rfl, by decide +kernel, by decide +kernel⟩
theorem sc_whole : FnScope ["number"] ["number"] (defScope (top 15)) := ⟨rfl, rfl, rfl, by decide +kernel, rfl, by decide +kernel, by decide +kernel⟩
theorem sc_points_of : FnScope ["curve", "x", "y"] ["curve"] (defScope (top 33)) := ⟨rfl, rfl, rfl, by decide +kernel, rfl, by decide +kernel, by decide +kernel⟩
theorem sc_is_fraction : FnScope ["value"] ["value"] (defScope (top 14)) := ⟨rfl, rfl, rfl, by decide +kernel, rfl, by decide +kernel, by decide +kernel⟩
theorem sc_is_level : FnScope ["value"] ["value"] (defScope (top 30)) := ⟨rfl, rfl, rfl, by decide +kernel, rfl, by decide +kernel, by decide +kernel⟩
theorem sc_require_level : FnScope ["level"] ["level"] (defScope (top 31)) := ⟨rfl, rfl, rfl, by decide +kernel, rfl, by decide +kernel, by decide +kernel⟩
theorem sc_value_at : FnScope ["curve", "level"] ["curve", "level"] (defScope (top 34)) := ⟨rfl, rfl, rfl, by decide +kernel, rfl, by decide +kernel, by decide +kernel⟩
theorem sc_apart : FnScope ["one", "other", "x"] ["one", "other"] (defScope (top 39)) := ⟨rfl, rfl, rfl, by decide +kernel, rfl, by decide +kernel, by decide +kernel⟩
theorem sc_Curve_eq : FnScope ["self", "other"] ["self", "other"] (defScope (inClass (top 29) 1)) := ⟨rfl, rfl, rfl, by decide +kernel, rfl, by decide +kernel, by decide +kernel⟩
theorem sc_is_straight : FnScope ["one", "other", "last", "first"] ["one", "other", "last"] (defScope (top 36)) := ⟨rfl, rfl, rfl, by decide +kernel, rfl, by decide +kernel, by decide +kernel⟩
theorem sc_shortened : FnScope ["points", "found", "point"] ["points"] (defScope (top 35)) := ⟨rfl, rfl, rfl, by decide +kernel, rfl, by decide +kernel, by decide +kernel⟩
theorem sc_shortest : FnScope ["curve", "x", "y"] ["curve"] (defScope (top 37)) := ⟨rfl, rfl, rfl, by decide +kernel, rfl, by decide +kernel, by decide +kernel⟩
theorem sc_are_alike : FnScope ["one", "other"] ["one", "other"] (defScope (top 38)) := ⟨rfl, rfl, rfl, by decide +kernel, rfl, by decide +kernel, by decide +kernel⟩
theorem sc_area_below : FnScope ["curve", "found", "one", "other"] ["curve"] (defScope (top 43)) := ⟨rfl, rfl, rfl, by decide +kernel, rfl, by decide +kernel, by decide +kernel⟩
theorem sc_floor : FnScope ["one"] ["one"] (defScope (top 22)) := ⟨rfl, rfl, rfl, by decide +kernel, rfl, by decide +kernel, by decide +kernel⟩
theorem sc_cut_off : FnScope ["curve", "x"] ["curve"] (defScope (top 46)) := ⟨rfl, rfl, rfl, by decide +kernel, rfl, by decide +kernel, by decide +kernel⟩
theorem sc_in_order : FnScope ["fractions", "found", "one", "place"] ["fractions"] (defScope (top 23)) := ⟨rfl, rfl, rfl, by decide +kernel, rfl, by decide +kernel, by decide +kernel⟩
theorem sc_greatest_gap : FnScope ["one", "other", "found", "x", "gap", "y"] ["one", "other"] (defScope (top 44)) := ⟨rfl, rfl, rfl, by decide +kernel, rfl, by decide +kernel, by decide +kernel⟩
theorem sc_is_rising : FnScope ["curve", "one", "other"] ["curve"] (defScope (top 40)) := ⟨rfl, rfl, rfl, by decide +kernel, rfl, by decide +kernel, by decide +kernel⟩
theorem sc_preimage : FnScope ["curve", "level", "points", "ends", "x", "y", "next_x", "next_y", "part"] ["curve", "level"] (defScope (top 41)) := ⟨rfl, rfl, rfl, by decide +kernel, rfl, by decide +kernel, by decide +kernel⟩
theorem sc_nearest_whole : FnScope ["one"] ["one"] (defScope (top 21)) := ⟨rfl, rfl, rfl, by decide +kernel, rfl, by decide +kernel, by decide +kernel⟩
theorem sc_rounded : FnScope ["curve", "x"] ["curve"] (defScope (top 45)) := ⟨rfl, rfl, rfl, by decide +kernel, rfl, by decide +kernel, by decide +kernel⟩
theorem sc_steepest : FnScope ["curve", "slopes", "found", "slope", "one", "other"] ["curve"] (defScope (top 42)) := ⟨rfl, rfl, rfl, by decide +kernel, rfl, by decide +kernel, by decide +kernel⟩
theorem sc_law : FnScope ["script", "row", "turn", "knots", "curve", "values", "k", "level", "short", "kept", "rise", "run_on", "other", "rivals", "unlike", "gap", "steep", "below", "x", "here", "slope", "told", "rising", "round_now", "found", "is_there", "first", "last", "step", "one"] ["script"] (defScope (top 62)) := ⟨rfl, rfl, rfl, by decide +kernel, rfl, by decide +kernel, by decide +kernel⟩
structure Cn (K : PySem.W.Frag) (mg : Str → Option Value) : Prop where
  d_is_row : ∃ fd, FunD K "is_row" "is_row" (defArgs (top 7)) (defBody (top 7)) (defScope (top 7)) [] [] (He.ga K "is_row") fd
  g_is_row : mg "is_row" = some (.ref (He.ga K "is_row"))
  d_is_whole : ∃ fd, FunD K "is_whole" "is_whole" (defArgs (top 5)) (defBody (top 5)) (defScope (top 5)) [] [] (He.ga K "is_whole") fd
  g_is_whole : mg "is_whole" = some (.ref (He.ga K "is_whole"))
  d_is_within : ∃ fd, FunD K "is_within" "is_within" (defArgs (top 6)) (defBody (top 6)) (defScope (top 6)) [] [] (He.ga K "is_within") fd
  g_is_within : mg "is_within" = some (.ref (He.ga K "is_within"))
  d_is_knot : ∃ fd, FunD K "is_knot" "is_knot" (defArgs (top 27)) (defBody (top 27)) (defScope (top 27)) [] [] (He.ga K "is_knot") fd
  g_is_knot : mg "is_knot" = some (.ref (He.ga K "is_knot"))
  d_first_wrong : ∃ fd, FunD K "first_wrong" "first_wrong" (defArgs (top 8)) (defBody (top 8)) (defScope (top 8)) [] [] (He.ga K "first_wrong") fd
  g_first_wrong : mg "first_wrong" = some (.ref (He.ga K "first_wrong"))
  d_knots_place : ∃ fd, FunD K "knots_place" "knots_place" (defArgs (top 28)) (defBody (top 28)) (defScope (top 28)) [] [] (He.ga K "knots_place") fd
  g_knots_place : mg "knots_place" = some (.ref (He.ga K "knots_place"))
  d_require_part : ∃ fd, FunD K "require_part" "require_part" (defArgs (top 11)) (defBody (top 11)) (defScope (top 11)) [] [] (He.ga K "require_part") fd
  g_require_part : mg "require_part" = some (.ref (He.ga K "require_part"))
  d_Curve_init : ∃ fd, FunD K "__init__" "Curve.__init__" (defArgs (inClass (top 29) 0)) (defBody (inClass (top 29) 0)) (defScope (inClass (top 29) 0)) [] [] (He.ma K (He.ga K "Curve") "__init__") fd
  m_Curve_init : Mk K (He.ga K "Curve") (He.ma K (He.ga K "Curve") "__init__")
  d__law_gcd : ∃ fd, FunD K "_law_gcd" "_law_gcd" (defArgs (top 51)) (defBody (top 51)) (defScope (top 51)) [] [] (He.ga K "_law_gcd") fd
  g__law_gcd : mg "_law_gcd" = some (.ref (He.ga K "_law_gcd"))
  d__law_frac : ∃ fd, FunD K "_law_frac" "_law_frac" (defArgs (top 52)) (defBody (top 52)) (defScope (top 52)) [] [] (He.ga K "_law_frac") fd
  g__law_frac : mg "_law_frac" = some (.ref (He.ga K "_law_frac"))
  d__law_add : ∃ fd, FunD K "_law_add" "_law_add" (defArgs (top 53)) (defBody (top 53)) (defScope (top 53)) [] [] (He.ga K "_law_add") fd
  g__law_add : mg "_law_add" = some (.ref (He.ga K "_law_add"))
  d__law_alike : ∃ fd, FunD K "_law_alike" "_law_alike" (defArgs (top 50)) (defBody (top 50)) (defScope (top 50)) [] [] (He.ga K "_law_alike") fd
  g__law_alike : mg "_law_alike" = some (.ref (He.ga K "_law_alike"))
  d__law_div : ∃ fd, FunD K "_law_div" "_law_div" (defArgs (top 56)) (defBody (top 56)) (defScope (top 56)) [] [] (He.ga K "_law_div") fd
  g__law_div : mg "_law_div" = some (.ref (He.ga K "_law_div"))
  d__law_lt : ∃ fd, FunD K "_law_lt" "_law_lt" (defArgs (top 57)) (defBody (top 57)) (defScope (top 57)) [] [] (He.ga K "_law_lt") fd
  g__law_lt : mg "_law_lt" = some (.ref (He.ga K "_law_lt"))
  d__law_mul : ∃ fd, FunD K "_law_mul" "_law_mul" (defArgs (top 55)) (defBody (top 55)) (defScope (top 55)) [] [] (He.ga K "_law_mul") fd
  g__law_mul : mg "_law_mul" = some (.ref (He.ga K "_law_mul"))
  d__law_sub : ∃ fd, FunD K "_law_sub" "_law_sub" (defArgs (top 54)) (defBody (top 54)) (defScope (top 54)) [] [] (He.ga K "_law_sub") fd
  g__law_sub : mg "_law_sub" = some (.ref (He.ga K "_law_sub"))
  d__law_curve_at : ∃ fd, FunD K "_law_curve_at" "_law_curve_at" (defArgs (top 60)) (defBody (top 60)) (defScope (top 60)) [] [] (He.ga K "_law_curve_at") fd
  g__law_curve_at : mg "_law_curve_at" = some (.ref (He.ga K "_law_curve_at"))
  d__law_is_frac : ∃ fd, FunD K "_law_is_frac" "_law_is_frac" (defArgs (top 58)) (defBody (top 58)) (defScope (top 58)) [] [] (He.ga K "_law_is_frac") fd
  g__law_is_frac : mg "_law_is_frac" = some (.ref (He.ga K "_law_is_frac"))
  d__law_taken : ∃ fd, FunD K "_law_taken" "_law_taken" (defArgs (top 48)) (defBody (top 48)) (defScope (top 48)) [] [] (He.ga K "_law_taken") fd
  g__law_taken : mg "_law_taken" = some (.ref (He.ga K "_law_taken"))
  d__law_pick : ∃ fd, FunD K "_law_pick" "_law_pick" (defArgs (top 49)) (defBody (top 49)) (defScope (top 49)) [] [] (He.ga K "_law_pick") fd
  g__law_pick : mg "_law_pick" = some (.ref (He.ga K "_law_pick"))
  d__law_knots : ∃ fd, FunD K "_law_knots" "_law_knots" (defArgs (top 59)) (defBody (top 59)) (defScope (top 59)) [] [] (He.ga K "_law_knots") fd
  g__law_knots : mg "_law_knots" = some (.ref (He.ga K "_law_knots"))
  d__law_level : ∃ fd, FunD K "_law_level" "_law_level" (defArgs (top 61)) (defBody (top 61)) (defScope (top 61)) [] [] (He.ga K "_law_level") fd
  g__law_level : mg "_law_level" = some (.ref (He.ga K "_law_level"))
  d_common : ∃ fd, FunD K "common" "common" (defArgs (top 9)) (defBody (top 9)) (defScope (top 9)) [] [] (He.ga K "common") fd
  g_common : mg "common" = some (.ref (He.ga K "common"))
  d_fraction : ∃ fd, FunD K "fraction" "fraction" (defArgs (top 13)) (defBody (top 13)) (defScope (top 13)) [] [] (He.ga K "fraction") fd
  g_fraction : mg "fraction" = some (.ref (He.ga K "fraction"))
  d_by : ∃ fd, FunD K "by" "by" (defArgs (top 19)) (defBody (top 19)) (defScope (top 19)) [] [] (He.ga K "by") fd
  g_by : mg "by" = some (.ref (He.ga K "by"))
  d_is_less : ∃ fd, FunD K "is_less" "is_less" (defArgs (top 20)) (defBody (top 20)) (defScope (top 20)) [] [] (He.ga K "is_less") fd
  g_is_less : mg "is_less" = some (.ref (He.ga K "is_less"))
  d_minus : ∃ fd, FunD K "minus" "minus" (defArgs (top 17)) (defBody (top 17)) (defScope (top 17)) [] [] (He.ga K "minus") fd
  g_minus : mg "minus" = some (.ref (He.ga K "minus"))
  d_plus : ∃ fd, FunD K "plus" "plus" (defArgs (top 16)) (defBody (top 16)) (defScope (top 16)) [] [] (He.ga K "plus") fd
  g_plus : mg "plus" = some (.ref (He.ga K "plus"))
  d_times : ∃ fd, FunD K "times" "times" (defArgs (top 18)) (defBody (top 18)) (defScope (top 18)) [] [] (He.ga K "times") fd
  g_times : mg "times" = some (.ref (He.ga K "times"))
  d_between : ∃ fd, FunD K "between" "between" (defArgs (top 32)) (defBody (top 32)) (defScope (top 32)) [] [] (He.ga K "between") fd
  g_between : mg "between" = some (.ref (He.ga K "between"))
  d_whole : ∃ fd, FunD K "whole" "whole" (defArgs (top 15)) (defBody (top 15)) (defScope (top 15)) [] [] (He.ga K "whole") fd
  g_whole : mg "whole" = some (.ref (He.ga K "whole"))
  d_points_of : ∃ fd, FunD K "points_of" "points_of" (defArgs (top 33)) (defBody (top 33)) (defScope (top 33)) [] [] (He.ga K "points_of") fd
  g_points_of : mg "points_of" = some (.ref (He.ga K "points_of"))
  d_is_fraction : ∃ fd, FunD K "is_fraction" "is_fraction" (defArgs (top 14)) (defBody (top 14)) (defScope (top 14)) [] [] (He.ga K "is_fraction") fd
  g_is_fraction : mg "is_fraction" = some (.ref (He.ga K "is_fraction"))
  d_is_level : ∃ fd, FunD K "is_level" "is_level" (defArgs (top 30)) (defBody (top 30)) (defScope (top 30)) [] [] (He.ga K "is_level") fd
  g_is_level : mg "is_level" = some (.ref (He.ga K "is_level"))
  d_require_level : ∃ fd, FunD K "require_level" "require_level" (defArgs (top 31)) (defBody (top 31)) (defScope (top 31)) [] [] (He.ga K "require_level") fd
  g_require_level : mg "require_level" = some (.ref (He.ga K "require_level"))
  d_value_at : ∃ fd, FunD K "value_at" "value_at" (defArgs (top 34)) (defBody (top 34)) (defScope (top 34)) [] [] (He.ga K "value_at") fd
  g_value_at : mg "value_at" = some (.ref (He.ga K "value_at"))
  d_apart : ∃ fd, FunD K "apart" "apart" (defArgs (top 39)) (defBody (top 39)) (defScope (top 39)) [] [] (He.ga K "apart") fd
  g_apart : mg "apart" = some (.ref (He.ga K "apart"))
  d_Curve_eq : ∃ fd, FunD K "__eq__" "Curve.__eq__" (defArgs (inClass (top 29) 1)) (defBody (inClass (top 29) 1)) (defScope (inClass (top 29) 1)) [] [] (He.ma K (He.ga K "Curve") "__eq__") fd
  m_Curve_eq : Meth K (He.ga K "Curve") "__eq__" (He.ma K (He.ga K "Curve") "__eq__")
  d_is_straight : ∃ fd, FunD K "is_straight" "is_straight" (defArgs (top 36)) (defBody (top 36)) (defScope (top 36)) [] [] (He.ga K "is_straight") fd
  g_is_straight : mg "is_straight" = some (.ref (He.ga K "is_straight"))
  d_shortened : ∃ fd, FunD K "shortened" "shortened" (defArgs (top 35)) (defBody (top 35)) (defScope (top 35)) [] [] (He.ga K "shortened") fd
  g_shortened : mg "shortened" = some (.ref (He.ga K "shortened"))
  d_shortest : ∃ fd, FunD K "shortest" "shortest" (defArgs (top 37)) (defBody (top 37)) (defScope (top 37)) [] [] (He.ga K "shortest") fd
  g_shortest : mg "shortest" = some (.ref (He.ga K "shortest"))
  d_are_alike : ∃ fd, FunD K "are_alike" "are_alike" (defArgs (top 38)) (defBody (top 38)) (defScope (top 38)) [] [] (He.ga K "are_alike") fd
  g_are_alike : mg "are_alike" = some (.ref (He.ga K "are_alike"))
  d_area_below : ∃ fd, FunD K "area_below" "area_below" (defArgs (top 43)) (defBody (top 43)) (defScope (top 43)) [] [] (He.ga K "area_below") fd
  g_area_below : mg "area_below" = some (.ref (He.ga K "area_below"))
  d_floor : ∃ fd, FunD K "floor" "floor" (defArgs (top 22)) (defBody (top 22)) (defScope (top 22)) [] [] (He.ga K "floor") fd
  g_floor : mg "floor" = some (.ref (He.ga K "floor"))
  d_cut_off : ∃ fd, FunD K "cut_off" "cut_off" (defArgs (top 46)) (defBody (top 46)) (defScope (top 46)) [] [] (He.ga K "cut_off") fd
  g_cut_off : mg "cut_off" = some (.ref (He.ga K "cut_off"))
  d_in_order : ∃ fd, FunD K "in_order" "in_order" (defArgs (top 23)) (defBody (top 23)) (defScope (top 23)) [] [] (He.ga K "in_order") fd
  g_in_order : mg "in_order" = some (.ref (He.ga K "in_order"))
  d_greatest_gap : ∃ fd, FunD K "greatest_gap" "greatest_gap" (defArgs (top 44)) (defBody (top 44)) (defScope (top 44)) [] [] (He.ga K "greatest_gap") fd
  g_greatest_gap : mg "greatest_gap" = some (.ref (He.ga K "greatest_gap"))
  d_is_rising : ∃ fd, FunD K "is_rising" "is_rising" (defArgs (top 40)) (defBody (top 40)) (defScope (top 40)) [] [] (He.ga K "is_rising") fd
  g_is_rising : mg "is_rising" = some (.ref (He.ga K "is_rising"))
  d_preimage : ∃ fd, FunD K "preimage" "preimage" (defArgs (top 41)) (defBody (top 41)) (defScope (top 41)) [] [] (He.ga K "preimage") fd
  g_preimage : mg "preimage" = some (.ref (He.ga K "preimage"))
  d_nearest_whole : ∃ fd, FunD K "nearest_whole" "nearest_whole" (defArgs (top 21)) (defBody (top 21)) (defScope (top 21)) [] [] (He.ga K "nearest_whole") fd
  g_nearest_whole : mg "nearest_whole" = some (.ref (He.ga K "nearest_whole"))
  d_rounded : ∃ fd, FunD K "rounded" "rounded" (defArgs (top 45)) (defBody (top 45)) (defScope (top 45)) [] [] (He.ga K "rounded") fd
  g_rounded : mg "rounded" = some (.ref (He.ga K "rounded"))
  d_steepest : ∃ fd, FunD K "steepest" "steepest" (defArgs (top 42)) (defBody (top 42)) (defScope (top 42)) [] [] (He.ga K "steepest") fd
  g_steepest : mg "steepest" = some (.ref (He.ga K "steepest"))
  d_law : ∃ fd, FunD K "law" "law" (defArgs (top 62)) (defBody (top 62)) (defScope (top 62)) [] [] (He.ga K "law") fd
  g_law : mg "law" = some (.ref (He.ga K "law"))
  c_Curve : mg "Curve" = some (.ref (He.ga K "Curve"))
  n_int : mg "int" = none
  n_isinstance : mg "isinstance" = none
  n_bool : mg "bool" = none
  n_tuple : mg "tuple" = none
  n_len : mg "len" = none
  n_enumerate : mg "enumerate" = none
  n_abs : mg "abs" = none
  n_zip : mg "zip" = none
  n_range : mg "range" = none
  n_all : mg "all" = none
  n_list : mg "list" = none
  n_str : mg "str" = none
  n_min : mg "min" = none
  i_TOP : ∃ t, mg "TOP" = some (.int 255 t)
  i_MOST_KNOTS : ∃ t, mg "MOST_KNOTS" = some (.int 12 t)
  isc : IsC K (tb K) cs
section
variable {P : Program} {w : World} {K : PySem.W.Frag} {mg : Str → Option Value} {base : Heap}
theorem bo_is_row (C : Cn K mg) {cdv : Value} {A : Around} {outer : List Env} {s : Shared} {H : Hp} {E : XK} (hr : Room 0 (A.deeper (envOfC "is_row" (defScope (top 7)) s.heap.objs.size (He.ga K "is_row") cdv))) :
    QSs (cxOf (L2.CX P w) P w K mg base ["value", "size"] "is_row" (defScope (top 7)) (He.ga K "is_row") cdv A outer s H E) (tb K) (fun cls d _ H => E cls d H) (defBody (top 7)) b_is_row :=
  (qss_one (q_ret (q_and (q_isTy C.isc (by rfl) C.n_tuple (by rfl) C.n_isinstance (qb (qv 0))) (q_one (q_eq (hu64 hr) (qb (q_len (by rfl) C.n_len (qb (qv 0)))) (qb (qv 1)))))))
theorem ok_is_row (C : Cn K mg) : Fn P w K mg base (tb K) 1 "is_row" 2 F_is_row := by
  obtain ⟨fd, F⟩ := C.d_is_row
  exact Fn.mk_ (fn_ok (N := ["value", "size"]) (ps := ["value", "size"]) F sc_is_row (by decide) fun cdv A outer s H E hr => bo_is_row C hr) C.g_is_row F.kp (F.bindsN (ps := ["value", "size"]) fun _ _ _ _ _ _ us hl => match us, hl with | [_, _], _ => rfl)
theorem bo_is_whole (C : Cn K mg) {cdv : Value} {A : Around} {outer : List Env} {s : Shared} {H : Hp} {E : XK} (hr : Room 0 (A.deeper (envOfC "is_whole" (defScope (top 5)) s.heap.objs.size (He.ga K "is_whole") cdv))) :
    QSs (cxOf (L2.CX P w) P w K mg base ["value"] "is_whole" (defScope (top 5)) (He.ga K "is_whole") cdv A outer s H E) (tb K) (fun cls d _ H => E cls d H) (defBody (top 5)) b_is_whole :=
  (qss_one (q_ret (q_and (q_isTy C.isc (by rfl) C.n_int (by rfl) C.n_isinstance (qb (qv 0))) (q_one (q_not (q_isTy C.isc (by rfl) C.n_bool (by rfl) C.n_isinstance (qb (qv 0))))))))
theorem ok_is_whole (C : Cn K mg) : Fn P w K mg base (tb K) 1 "is_whole" 1 F_is_whole := by
  obtain ⟨fd, F⟩ := C.d_is_whole
  exact Fn.mk_ (fn_ok (N := ["value"]) (ps := ["value"]) F sc_is_whole (by decide) fun cdv A outer s H E hr => bo_is_whole C hr) C.g_is_whole F.kp (F.bindsN (ps := ["value"]) fun _ _ _ _ _ _ us hl => match us, hl with | [_], _ => rfl)
theorem bo_is_within (C : Cn K mg) {cdv : Value} {A : Around} {outer : List Env} {s : Shared} {H : Hp} {E : XK} (hr : Room 1 (A.deeper (envOfC "is_within" (defScope (top 6)) s.heap.objs.size (He.ga K "is_within") cdv))) :
    QSs (cxOf (L2.CX P w) P w K mg base ["value", "least", "most"] "is_within" (defScope (top 6)) (He.ga K "is_within") cdv A outer s H E) (tb K) (fun cls d _ H => E cls d H) (defBody (top 6)) b_is_within :=
  (qss_one (q_ret (q_and (q_call (ok_is_whole C) hr (takes_of (by rfl) (by rfl) (by rfl) (by rfl)) (by decide) (by rfl) (qs_cons (qv 0) qs_nil)) (q_one (q_chain op_le o2_le op_le o2_le (qb (qv 1)) (qb (qv 0)) (qb (qv 2)))))))
theorem ok_is_within (C : Cn K mg) : Fn P w K mg base (tb K) 2 "is_within" 3 F_is_within := by
  obtain ⟨fd, F⟩ := C.d_is_within
  exact Fn.mk_ (fn_ok (N := ["value", "least", "most"]) (ps := ["value", "least", "most"]) F sc_is_within (by decide) fun cdv A outer s H E hr => bo_is_within C hr) C.g_is_within F.kp (F.bindsN (ps := ["value", "least", "most"]) fun _ _ _ _ _ _ us hl => match us, hl with | [_, _, _], _ => rfl)
theorem bo_is_knot (C : Cn K mg) {cdv : Value} {A : Around} {outer : List Env} {s : Shared} {H : Hp} {E : XK} (hr : Room 2 (A.deeper (envOfC "is_knot" (defScope (top 27)) s.heap.objs.size (He.ga K "is_knot") cdv))) :
    QSs (cxOf (L2.CX P w) P w K mg base ["row", "ahead"] "is_knot" (defScope (top 27)) (He.ga K "is_knot") cdv A outer s H E) (tb K) (fun cls d _ H => E cls d H) (defBody (top 27)) b_is_knot :=
  (qss_cons (q_ifS (qw_pt (qw_or (qt_not (qt_val (q_call (ok_is_row C) hr (takes_of (by rfl) (by rfl) (by rfl) (by rfl)) (by decide) (by rfl) (qs_cons (qv 0) (qs_cons q_int qs_nil))))) (qw_or (qt_not (qt_val (q_call (ok_is_within C) hr (takes_of (by rfl) (by rfl) (by rfl) (by rfl)) (by decide) (by rfl) (qs_cons (q_ix (qb (qv 0)) (qb q_int)) (qs_cons q_int (qs_cons (q_gintE C.i_TOP) qs_nil)))))) (qw_or1 (qt_not (qt_val (q_call (ok_is_within C) hr (takes_of (by rfl) (by rfl) (by rfl) (by rfl)) (by decide) (by rfl) (qs_cons (q_ix (qb (qv 0)) (qb q_int)) (qs_cons q_int (qs_cons (q_gintE C.i_TOP) qs_nil)))))))))) (qss_one (q_ret q_bl)) qss_nil)
    (qss_cons (q_ifS (qt_eq (hu64 hr) (qb (q_len (by rfl) C.n_len (qb (qv 1)))) (qb q_int)) (qss_one (q_ret (q_eq (hu64 hr) (qb (q_ix (qb (qv 0)) (qb q_int))) (qb q_int)))) qss_nil)
    (qss_one (q_ret (q_and (q_lt (qb (q_ix (qb (q_ix (qb (qv 1)) (qb (q_neg (qb q_int))))) (qb q_int))) (qb (q_ix (qb (qv 0)) (qb q_int)))) (q_one (q_le (qb (q_ix (qb (q_ix (qb (qv 1)) (qb (q_neg (qb q_int))))) (qb q_int))) (qb (q_ix (qb (qv 0)) (qb q_int))))))))))
theorem ok_is_knot (C : Cn K mg) : Fn P w K mg base (tb K) 3 "is_knot" 2 F_is_knot := by
  obtain ⟨fd, F⟩ := C.d_is_knot
  exact Fn.mk_ (fn_ok (N := ["row", "ahead"]) (ps := ["row", "ahead"]) F sc_is_knot (by decide) fun cdv A outer s H E hr => bo_is_knot C hr) C.g_is_knot F.kp (F.bindsN (ps := ["row", "ahead"]) fun _ _ _ _ _ _ us hl => match us, hl with | [_, _], _ => rfl)
theorem fns_first_wrong (C : Cn K mg) : ∀ q ∈ tbl_first_wrong, FnA P w K mg base (tb K) 3 q.1 2 q.2 := fun q hq => by
  have hq : q = (0, F_is_knot) := by simpa [tbl_first_wrong] using hq
  subst hq
  exact Fn.at_ ((ok_is_knot C).le (by decide)) C.g_is_knot
theorem bo_first_wrong (C : Cn K mg) {cdv : Value} {A : Around} {outer : List Env} {s : Shared} {H : Hp} {E : XK} (hr : Room 3 (A.deeper (envOfC "first_wrong" (defScope (top 8)) s.heap.objs.size (He.ga K "first_wrong") cdv))) :
    QSs (cxOf (L2.CX P w) P w K mg base ["value", "least", "most", "judge", "place", "row"] "first_wrong" (defScope (top 8)) (He.ga K "first_wrong") cdv A outer s H E) (tb K) (fun cls d _ H => E cls d H) (defBody (top 8)) b_first_wrong :=
  (qss_cons (q_ifS (qw_pt (qw_or (qt_not (qt_val (q_isTy C.isc (by rfl) C.n_tuple (by rfl) C.n_isinstance (qb (qv 0))))) (qw_or1 (qt_not (qt_chain op_le o2_le op_le o2_le (qb (qv 1)) (qb (q_len (by rfl) C.n_len (qb (qv 0)))) (qb (qv 2))))))) (qss_one (q_ret (q_neg (qb q_int)))) qss_nil)
    (qss_cons (q_for (passes_of (by rfl)) (by rfl) (q_iEnum (by rfl) C.n_enumerate (qs_cons (qv 0) qs_nil)) (qg_tup (by rfl) (qgs_cons (qg_name (i := 4) sc_first_wrong.nd) (qgs_cons (qg_name (i := 5) sc_first_wrong.nd) qgs_nil))) (qss_one (q_ifS (qt_not (qt_val (q_callV (tbl := tbl_first_wrong) (fns_first_wrong C) hr (takes_of (by rfl) (by rfl) (by rfl) (by rfl)) (by decide) (qs_cons (qv 5) (qs_cons (q_sliceA (qb (qv 0)) qo_none (qo_some (qv 4))) qs_nil))))) (qss_one (q_ret (qv 4))) qss_nil)))
    (qss_one (q_ret q_non))))
theorem ok_first_wrong (C : Cn K mg) : Fn P w K mg base (tb K) 4 "first_wrong" 4 F_first_wrong := by
  obtain ⟨fd, F⟩ := C.d_first_wrong
  exact Fn.mk_ (fn_ok (N := ["value", "least", "most", "judge", "place", "row"]) (ps := ["value", "least", "most", "judge"]) F sc_first_wrong (by decide) fun cdv A outer s H E hr => bo_first_wrong C hr) C.g_first_wrong F.kp (F.bindsN (ps := ["value", "least", "most", "judge"]) fun _ _ _ _ _ _ us hl => match us, hl with | [_, _, _, _], _ => rfl)
theorem bo_knots_place (C : Cn K mg) {cdv : Value} {A : Around} {outer : List Env} {s : Shared} {H : Hp} {E : XK} (hr : Room 4 (A.deeper (envOfC "knots_place" (defScope (top 28)) s.heap.objs.size (He.ga K "knots_place") cdv))) :
    QSs (cxOf (L2.CX P w) P w K mg base ["knots", "place"] "knots_place" (defScope (top 28)) (He.ga K "knots_place") cdv A outer s H E) (tb K) (fun cls d _ H => E cls d H) (defBody (top 28)) b_knots_place :=
  (qss_cons (q_set (i := 1) sc_knots_place.nd (by rfl) (by first | exact Or.inl rfl | exact Or.inr rfl) (q_call (ok_first_wrong C) hr (takes_of (by rfl) (by rfl) (by rfl) (by rfl)) (by decide) (by rfl) (qs_cons (qv 0) (qs_cons q_int (qs_cons (q_gintE C.i_MOST_KNOTS) (qs_cons (q_gfn (i := 0) C.g_is_knot) qs_nil))))))
    (qss_cons (q_ifS (qt_isNot (qb (qv 1)) (qb q_non)) (qss_one (q_ret (qv 1))) qss_nil)
    (qss_one (q_ret (q_if (qt_eq (hu64 hr) (qb (q_ix (qb (q_ix (qb (qv 0)) (qb (q_neg (qb q_int))))) (qb q_int))) (qb (q_gintE C.i_TOP))) q_non (q_sub (qb (q_len (by rfl) C.n_len (qb (qv 0)))) (qb q_int)))))))
theorem ok_knots_place (C : Cn K mg) : Fn P w K mg base (tb K) 5 "knots_place" 1 F_knots_place := by
  obtain ⟨fd, F⟩ := C.d_knots_place
  exact Fn.mk_ (fn_ok (N := ["knots", "place"]) (ps := ["knots"]) F sc_knots_place (by decide) fun cdv A outer s H E hr => bo_knots_place C hr) C.g_knots_place F.kp (F.bindsN (ps := ["knots"]) fun _ _ _ _ _ _ us hl => match us, hl with | [_], _ => rfl)
theorem bo_require_part (C : Cn K mg) {cdv : Value} {A : Around} {outer : List Env} {s : Shared} {H : Hp} {E : XK} (hr : Room 0 (A.deeper (envOfC "require_part" (defScope (top 11)) s.heap.objs.size (He.ga K "require_part") cdv))) :
    QSs (cxOf (L2.CX P w) P w K mg base ["part", "place"] "require_part" (defScope (top 11)) (He.ga K "require_part") cdv A outer s H E) (tb K) (fun cls d _ H => E cls d H) (defBody (top 11)) b_require_part :=
  (qss_one (q_ifS (qt_isNot (qb (qv 1)) (qb q_non)) (qss_one q_never) qss_nil))
theorem ok_require_part (C : Cn K mg) : Fn P w K mg base (tb K) 1 "require_part" 2 F_require_part := by
  obtain ⟨fd, F⟩ := C.d_require_part
  exact Fn.mk_ (fn_ok (N := ["part", "place"]) (ps := ["part", "place"]) F sc_require_part (by decide) fun cdv A outer s H E hr => bo_require_part C hr) C.g_require_part F.kp (F.bindsN (ps := ["part", "place"]) fun _ _ _ _ _ _ us hl => match us, hl with | [_, _], _ => rfl)
theorem bo_Curve_init (C : Cn K mg) {cdv : Value} {A : Around} {outer : List Env} {s : Shared} {H : Hp} {E : XK} (a : Addr) (hr : Room 5 (A.deeper (envOfC "Curve.__init__" (defScope (inClass (top 29) 0)) s.heap.objs.size (He.ma K (He.ga K "Curve") "__init__") cdv))) :
    QSs (cxOf (L2.CX P w) P w K mg base ["self", "knots"] "Curve.__init__" (defScope (inClass (top 29) 0)) (He.ma K (He.ga K "Curve") "__init__") cdv A outer s H E) ((tb K).w (some a)) (fun cls d _ H => E cls d H) (defBody (inClass (top 29) 0)) b_Curve_init :=
  (qss_cons (q_expr (q_call (ok_require_part C).tb hr (takes_of (by rfl) (by rfl) (by rfl) (by rfl)) (by decide) (by rfl) (qs_cons q_str (qs_cons (q_call (ok_knots_place C).tb hr (takes_of (by rfl) (by rfl) (by rfl) (by rfl)) (by decide) (by rfl) (qs_cons (qv 1) qs_nil)) qs_nil))))
    (qss_one (q_setF (c := 0) (j := 0) (C.isc.cl 0 (by decide)).1 ((C.isc.cl 0 (by decide)).no (by kernel_rfl)) (qv 1))))
theorem ok_Curve_init (C : Cn K mg) : Mak P w K mg base (tb K) 6 "Curve" 0 1 F_Curve_init := by
  obtain ⟨fd, F⟩ := C.d_Curve_init
  exact ⟨_, fd, _, C.m_Curve_init, init_ok (T := tb K) (N := ["self", "knots"]) (p0 := "self") (ps := ["knots"]) (c := 0) (nf := 1) F sc_Curve_init (by decide) rfl fun cdv A outer s H E a hr => bo_Curve_init C a hr, C.c_Curve, F.bindsN (ps := ["self", "knots"]) fun _ _ _ _ _ _ us hl => match us, hl with | [_, _], _ => rfl⟩
theorem bo__law_gcd (C : Cn K mg) {cdv : Value} {A : Around} {outer : List Env} {s : Shared} {H : Hp} {E : XK} (hr : Room 0 (A.deeper (envOfC "_law_gcd" (defScope (top 51)) s.heap.objs.size (He.ga K "_law_gcd") cdv))) :
    QSs (cxOf (L2.CX P w) P w K mg base ["one", "other", "turn"] "_law_gcd" (defScope (top 51)) (He.ga K "_law_gcd") cdv A outer s H E) (tb K) (fun cls d _ H => E cls d H) (defBody (top 51)) b__law_gcd :=
  (qss_cons (q_par (i := 0) (j := 1) (by rfl) sc__law_gcd.nd (qx_val (q_abs (by rfl) C.n_abs (qb (qv 0))) (qx_val (q_abs (by rfl) C.n_abs (qb (qv 1))) qx_nil)))
    (qss_cons (q_for (passes_of (by rfl)) (by rfl) (q_iRng1 (by rfl) C.n_range (qs_cons q_int qs_nil)) (qg_name (i := 2) sc__law_gcd.nd) (qss_cons (q_ifS (qt_eq (hu64 hr) (qb (qv 1)) (qb q_int)) (qss_one q_break) qss_nil)
    (qss_one (q_par (i := 0) (j := 1) (by rfl) sc__law_gcd.nd (qx_val (qv 1) (qx_val (q_mod (qb (q_intOf (by rfl) C.n_int (qb (qv 0)))) (qb (qv 1))) qx_nil))))))
    (qss_one (q_ret (qv 0)))))
theorem ok__law_gcd (C : Cn K mg) : Fn P w K mg base (tb K) 1 "_law_gcd" 2 F__law_gcd := by
  obtain ⟨fd, F⟩ := C.d__law_gcd
  exact Fn.mk_ (fn_ok (N := ["one", "other", "turn"]) (ps := ["one", "other"]) F sc__law_gcd (by decide) fun cdv A outer s H E hr => bo__law_gcd C hr) C.g__law_gcd F.kp (F.bindsN (ps := ["one", "other"]) fun _ _ _ _ _ _ us hl => match us, hl with | [_, _], _ => rfl)
theorem bo__law_frac (C : Cn K mg) {cdv : Value} {A : Around} {outer : List Env} {s : Shared} {H : Hp} {E : XK} (hr : Room 1 (A.deeper (envOfC "_law_frac" (defScope (top 52)) s.heap.objs.size (He.ga K "_law_frac") cdv))) :
    QSs (cxOf (L2.CX P w) P w K mg base ["top", "below", "common_one"] "_law_frac" (defScope (top 52)) (He.ga K "_law_frac") cdv A outer s H E) (tb K) (fun cls d _ H => E cls d H) (defBody (top 52)) b__law_frac :=
  (qss_cons (q_ifS (qt_lt (qb (qv 1)) (qb q_int)) (qss_one (q_par (i := 0) (j := 1) (by rfl) sc__law_frac.nd (qx_val (q_sub (qb q_int) (qb (qv 0))) (qx_val (q_sub (qb q_int) (qb (qv 1))) qx_nil)))) qss_nil)
    (qss_cons (q_set (i := 2) sc__law_frac.nd (by rfl) (by first | exact Or.inl rfl | exact Or.inr rfl) (q_call (ok__law_gcd C) hr (takes_of (by rfl) (by rfl) (by rfl) (by rfl)) (by decide) (by rfl) (qs_cons (q_abs (by rfl) C.n_abs (qb (qv 0))) (qs_cons (qv 1) qs_nil))))
    (qss_one (q_ret (q_tup (qs_cons (q_div (qb (qv 0)) (qb (qv 2))) (qs_cons (q_div (qb (qv 1)) (qb (qv 2))) qs_nil)))))))
theorem ok__law_frac (C : Cn K mg) : Fn P w K mg base (tb K) 2 "_law_frac" 2 F__law_frac := by
  obtain ⟨fd, F⟩ := C.d__law_frac
  exact Fn.mk_ (fn_ok (N := ["top", "below", "common_one"]) (ps := ["top", "below"]) F sc__law_frac (by decide) fun cdv A outer s H E hr => bo__law_frac C hr) C.g__law_frac F.kp (F.bindsN (ps := ["top", "below"]) fun _ _ _ _ _ _ us hl => match us, hl with | [_, _], _ => rfl)
theorem bo__law_add (C : Cn K mg) {cdv : Value} {A : Around} {outer : List Env} {s : Shared} {H : Hp} {E : XK} (hr : Room 2 (A.deeper (envOfC "_law_add" (defScope (top 53)) s.heap.objs.size (He.ga K "_law_add") cdv))) :
    QSs (cxOf (L2.CX P w) P w K mg base ["one", "two"] "_law_add" (defScope (top 53)) (He.ga K "_law_add") cdv A outer s H E) (tb K) (fun cls d _ H => E cls d H) (defBody (top 53)) b__law_add :=
  (qss_one (q_ret (q_call (ok__law_frac C) hr (takes_of (by rfl) (by rfl) (by rfl) (by rfl)) (by decide) (by rfl) (qs_cons (q_addA (qb (q_mul (qb (q_ix (qb (qv 0)) (qb q_int))) (qb (q_ix (qb (qv 1)) (qb q_int))))) (qb (q_mul (qb (q_ix (qb (qv 1)) (qb q_int))) (qb (q_ix (qb (qv 0)) (qb q_int)))))) (qs_cons (q_mul (qb (q_ix (qb (qv 0)) (qb q_int))) (qb (q_ix (qb (qv 1)) (qb q_int)))) qs_nil)))))
theorem ok__law_add (C : Cn K mg) : Fn P w K mg base (tb K) 3 "_law_add" 2 F__law_add := by
  obtain ⟨fd, F⟩ := C.d__law_add
  exact Fn.mk_ (fn_ok (N := ["one", "two"]) (ps := ["one", "two"]) F sc__law_add (by decide) fun cdv A outer s H E hr => bo__law_add C hr) C.g__law_add F.kp (F.bindsN (ps := ["one", "two"]) fun _ _ _ _ _ _ us hl => match us, hl with | [_, _], _ => rfl)
theorem bo__law_alike {F : FM} {j : Nat} (C : Cn K mg) (hF : Fn P w K mg base (tb K) (0 + j) "_law_alike" 2 F) {cdv : Value} {A : Around} {outer : List Env} {s : Shared} {H : Hp} {E : XK} (hr : Room (0 + j) (A.deeper (envOfC "_law_alike" (defScope (top 50)) s.heap.objs.size (He.ga K "_law_alike") cdv))) :
    QSs (cxOf (L2.CX P w) P w K mg base ["found", "due", "k"] "_law_alike" (defScope (top 50)) (He.ga K "_law_alike") cdv A outer s H E) (tb K) (fun cls d _ H => E cls d H) (defBody (top 50)) (b__law_alike F) :=
  (qss_cons (q_ifS (qt_val (q_isTy2 C.isc (by rfl) C.n_tuple (by rfl) C.n_list (by rfl) C.n_isinstance (qb (qv 1)))) (qss_cons (q_ifS (qw_pt (qw_or (qt_not (qt_val (q_isTy2 C.isc (by rfl) C.n_tuple (by rfl) C.n_list (by rfl) C.n_isinstance (qb (qv 0))))) (qw_or1 (qt_ne (hu64 hr) (qb (q_isTy C.isc (by rfl) C.n_list (by rfl) C.n_isinstance (qb (qv 0)))) (qb (q_isTy C.isc (by rfl) C.n_list (by rfl) C.n_isinstance (qb (qv 1)))))))) (qss_one (q_ret q_bl)) qss_nil)
    (qss_cons (q_ifS (qt_ne (hu64 hr) (qb (q_len (by rfl) C.n_len (qb (qv 0)))) (qb (q_len (by rfl) C.n_len (qb (qv 1))))) (qss_one (q_ret q_bl)) qss_nil)
    (qss_one (q_ret (q_eq (hu64 hr) (qb (qf (q_comp (by rfl) sc__law_alike.nd (q_iRng1 (by rfl) C.n_range (qs_cons (q_len (by rfl) C.n_len (qb (qv 1))) qs_nil)) (blkOk_by (own := [("k", 2)]) (by kernel_rfl)) (fun _ _ _ _ _ => (qg_name (i := 2) sc__law_alike.nd)) (fun _ _ _ _ _ => (qts_one (qt_not (qt_val (q_call hF hr takes0 (Nat.le_refl _) (by rfl) (qs_cons (q_ix (qb (qv 0)) (qb (qv 2))) (qs_cons (q_ix (qb (qv 1)) (qb (qv 2))) qs_nil))))))) (fun _ _ _ _ _ => (qv 2))))) (qb (qf (q_lst qs_nil)))))))) qss_nil)
    (qss_cons (q_ifS (qw_pt (qw_or (qt_is (qb (qv 1)) (qb q_non)) (qw_or1 (qt_val (q_isTy C.isc (by rfl) C.n_str (by rfl) C.n_isinstance (qb (qv 1))))))) (qss_one (q_ret (q_and (q_eq (hu64 hr) (qb (qv 0)) (qb (qv 1))) (q_one (q_eq (hu64 hr) (qb (q_isTy C.isc (by rfl) C.n_str (by rfl) C.n_isinstance (qb (qv 0)))) (qb (q_isTy C.isc (by rfl) C.n_str (by rfl) C.n_isinstance (qb (qv 1))))))))) qss_nil)
    (qss_one (q_ret (q_and (q_isTy C.isc (by rfl) C.n_int (by rfl) C.n_isinstance (qb (qv 0))) (q_and (q_eq (hu64 hr) (qb (q_isTy C.isc (by rfl) C.n_bool (by rfl) C.n_isinstance (qb (qv 0)))) (qb (q_isTy C.isc (by rfl) C.n_bool (by rfl) C.n_isinstance (qb (qv 1))))) (q_one (q_eq (hu64 hr) (qb (qv 0)) (qb (qv 1))))))))))
theorem ok__law_alike (C : Cn K mg) : ∀ n : Nat, Fn P w K mg base (tb K) (0 + n) "_law_alike" 2 (F__law_alike n)
  | 0 => by
    obtain ⟨fd, F⟩ := C.d__law_alike
    exact Fn.mk_ (ps := ["found", "due"]) ⟨fun vs H Q E h => h.1, fun A outer s H args us vs Q E hr he hb hv h => by obtain ⟨_, _, _, _, _, _, _, z⟩ := h; exact z.elim⟩ C.g__law_alike F.kp (F.bindsN (ps := ["found", "due"]) fun _ _ _ _ _ _ us hl => match us, hl with | [_, _], _ => rfl)
  | n + 1 => by
    obtain ⟨fd, F⟩ := C.d__law_alike
    exact Fn.mk_ (fn_ok (N := ["found", "due", "k"]) (ps := ["found", "due"]) F sc__law_alike (by decide) fun cdv A outer s H E hr => bo__law_alike C (ok__law_alike C n) hr) C.g__law_alike F.kp (F.bindsN (ps := ["found", "due"]) fun _ _ _ _ _ _ us hl => match us, hl with | [_, _], _ => rfl)
theorem bo__law_div (C : Cn K mg) {cdv : Value} {A : Around} {outer : List Env} {s : Shared} {H : Hp} {E : XK} (hr : Room 2 (A.deeper (envOfC "_law_div" (defScope (top 56)) s.heap.objs.size (He.ga K "_law_div") cdv))) :
    QSs (cxOf (L2.CX P w) P w K mg base ["one", "two"] "_law_div" (defScope (top 56)) (He.ga K "_law_div") cdv A outer s H E) (tb K) (fun cls d _ H => E cls d H) (defBody (top 56)) b__law_div :=
  (qss_one (q_ret (q_call (ok__law_frac C) hr (takes_of (by rfl) (by rfl) (by rfl) (by rfl)) (by decide) (by rfl) (qs_cons (q_mul (qb (q_ix (qb (qv 0)) (qb q_int))) (qb (q_ix (qb (qv 1)) (qb q_int)))) (qs_cons (q_mul (qb (q_ix (qb (qv 0)) (qb q_int))) (qb (q_ix (qb (qv 1)) (qb q_int)))) qs_nil)))))
theorem ok__law_div (C : Cn K mg) : Fn P w K mg base (tb K) 3 "_law_div" 2 F__law_div := by
  obtain ⟨fd, F⟩ := C.d__law_div
  exact Fn.mk_ (fn_ok (N := ["one", "two"]) (ps := ["one", "two"]) F sc__law_div (by decide) fun cdv A outer s H E hr => bo__law_div C hr) C.g__law_div F.kp (F.bindsN (ps := ["one", "two"]) fun _ _ _ _ _ _ us hl => match us, hl with | [_, _], _ => rfl)
theorem bo__law_lt (C : Cn K mg) {cdv : Value} {A : Around} {outer : List Env} {s : Shared} {H : Hp} {E : XK} (hr : Room 0 (A.deeper (envOfC "_law_lt" (defScope (top 57)) s.heap.objs.size (He.ga K "_law_lt") cdv))) :
    QSs (cxOf (L2.CX P w) P w K mg base ["one", "two"] "_law_lt" (defScope (top 57)) (He.ga K "_law_lt") cdv A outer s H E) (tb K) (fun cls d _ H => E cls d H) (defBody (top 57)) b__law_lt :=
  (qss_one (q_ret (q_lt (qb (q_mul (qb (q_ix (qb (qv 0)) (qb q_int))) (qb (q_ix (qb (qv 1)) (qb q_int))))) (qb (q_mul (qb (q_ix (qb (qv 1)) (qb q_int))) (qb (q_ix (qb (qv 0)) (qb q_int))))))))
theorem ok__law_lt (C : Cn K mg) : Fn P w K mg base (tb K) 1 "_law_lt" 2 F__law_lt := by
  obtain ⟨fd, F⟩ := C.d__law_lt
  exact Fn.mk_ (fn_ok (N := ["one", "two"]) (ps := ["one", "two"]) F sc__law_lt (by decide) fun cdv A outer s H E hr => bo__law_lt C hr) C.g__law_lt F.kp (F.bindsN (ps := ["one", "two"]) fun _ _ _ _ _ _ us hl => match us, hl with | [_, _], _ => rfl)
theorem bo__law_mul (C : Cn K mg) {cdv : Value} {A : Around} {outer : List Env} {s : Shared} {H : Hp} {E : XK} (hr : Room 2 (A.deeper (envOfC "_law_mul" (defScope (top 55)) s.heap.objs.size (He.ga K "_law_mul") cdv))) :
    QSs (cxOf (L2.CX P w) P w K mg base ["one", "two"] "_law_mul" (defScope (top 55)) (He.ga K "_law_mul") cdv A outer s H E) (tb K) (fun cls d _ H => E cls d H) (defBody (top 55)) b__law_mul :=
  (qss_one (q_ret (q_call (ok__law_frac C) hr (takes_of (by rfl) (by rfl) (by rfl) (by rfl)) (by decide) (by rfl) (qs_cons (q_mul (qb (q_ix (qb (qv 0)) (qb q_int))) (qb (q_ix (qb (qv 1)) (qb q_int)))) (qs_cons (q_mul (qb (q_ix (qb (qv 0)) (qb q_int))) (qb (q_ix (qb (qv 1)) (qb q_int)))) qs_nil)))))
theorem ok__law_mul (C : Cn K mg) : Fn P w K mg base (tb K) 3 "_law_mul" 2 F__law_mul := by
  obtain ⟨fd, F⟩ := C.d__law_mul
  exact Fn.mk_ (fn_ok (N := ["one", "two"]) (ps := ["one", "two"]) F sc__law_mul (by decide) fun cdv A outer s H E hr => bo__law_mul C hr) C.g__law_mul F.kp (F.bindsN (ps := ["one", "two"]) fun _ _ _ _ _ _ us hl => match us, hl with | [_, _], _ => rfl)
theorem bo__law_sub (C : Cn K mg) {cdv : Value} {A : Around} {outer : List Env} {s : Shared} {H : Hp} {E : XK} (hr : Room 2 (A.deeper (envOfC "_law_sub" (defScope (top 54)) s.heap.objs.size (He.ga K "_law_sub") cdv))) :
    QSs (cxOf (L2.CX P w) P w K mg base ["one", "two"] "_law_sub" (defScope (top 54)) (He.ga K "_law_sub") cdv A outer s H E) (tb K) (fun cls d _ H => E cls d H) (defBody (top 54)) b__law_sub :=
  (qss_one (q_ret (q_call (ok__law_frac C) hr (takes_of (by rfl) (by rfl) (by rfl) (by rfl)) (by decide) (by rfl) (qs_cons (q_sub (qb (q_mul (qb (q_ix (qb (qv 0)) (qb q_int))) (qb (q_ix (qb (qv 1)) (qb q_int))))) (qb (q_mul (qb (q_ix (qb (qv 1)) (qb q_int))) (qb (q_ix (qb (qv 0)) (qb q_int)))))) (qs_cons (q_mul (qb (q_ix (qb (qv 0)) (qb q_int))) (qb (q_ix (qb (qv 1)) (qb q_int)))) qs_nil)))))
theorem ok__law_sub (C : Cn K mg) : Fn P w K mg base (tb K) 3 "_law_sub" 2 F__law_sub := by
  obtain ⟨fd, F⟩ := C.d__law_sub
  exact Fn.mk_ (fn_ok (N := ["one", "two"]) (ps := ["one", "two"]) F sc__law_sub (by decide) fun cdv A outer s H E hr => bo__law_sub C hr) C.g__law_sub F.kp (F.bindsN (ps := ["one", "two"]) fun _ _ _ _ _ _ us hl => match us, hl with | [_, _], _ => rfl)
theorem bo__law_curve_at (C : Cn K mg) {cdv : Value} {A : Around} {outer : List Env} {s : Shared} {H : Hp} {E : XK} (hr : Room 3 (A.deeper (envOfC "_law_curve_at" (defScope (top 60)) s.heap.objs.size (He.ga K "_law_curve_at") cdv))) :
    QSs (cxOf (L2.CX P w) P w K mg base ["knots", "level", "k", "x", "y", "after", "rise", "part"] "_law_curve_at" (defScope (top 60)) (He.ga K "_law_curve_at") cdv A outer s H E) (tb K) (fun cls d _ H => E cls d H) (defBody (top 60)) b__law_curve_at :=
  (qss_cons (q_for (passes_of (by rfl)) (by rfl) (q_iRng1 (by rfl) C.n_range (qs_cons (q_sub (qb (q_len (by rfl) C.n_len (qb (qv 0)))) (qb q_int)) qs_nil)) (qg_name (i := 2) sc__law_curve_at.nd) (qss_cons (q_pt (q_tup (qs_cons (q_ix (qb (qv 0)) (qb (qv 2))) (qs_cons (q_ix (qb (qv 0)) (qb (q_addA (qb (qv 2)) (qb q_int)))) qs_nil))) (qg_tup (by rfl) (qgs_cons (qg_tup (by rfl) (qgs_cons (qg_name (i := 3) sc__law_curve_at.nd) (qgs_cons (qg_name (i := 4) sc__law_curve_at.nd) qgs_nil))) (qgs_cons (qg_tup (by rfl) (qgs_cons (qg_name (i := 5) sc__law_curve_at.nd) (qgs_cons (qg_name (i := 6) sc__law_curve_at.nd) qgs_nil))) qgs_nil))))
    (qss_one (q_ifS (qt_not (qt_val (q_call (ok__law_lt C) hr (takes_of (by rfl) (by rfl) (by rfl) (by rfl)) (by decide) (by rfl) (qs_cons (q_tup (qs_cons (qv 5) (qs_cons q_int qs_nil))) (qs_cons (qv 1) qs_nil))))) (qss_cons (q_set (i := 7) sc__law_curve_at.nd (by rfl) (by first | exact Or.inl rfl | exact Or.inr rfl) (q_call (ok__law_div C) hr (takes_of (by rfl) (by rfl) (by rfl) (by rfl)) (by decide) (by rfl) (qs_cons (q_call (ok__law_sub C) hr (takes_of (by rfl) (by rfl) (by rfl) (by rfl)) (by decide) (by rfl) (qs_cons (qv 1) (qs_cons (q_tup (qs_cons (qv 3) (qs_cons q_int qs_nil))) qs_nil))) (qs_cons (q_tup (qs_cons (q_sub (qb (qv 5)) (qb (qv 3))) (qs_cons q_int qs_nil))) qs_nil))))
    (qss_one (q_ret (q_call (ok__law_add C) hr (takes_of (by rfl) (by rfl) (by rfl) (by rfl)) (by decide) (by rfl) (qs_cons (q_tup (qs_cons (qv 4) (qs_cons q_int qs_nil))) (qs_cons (q_call (ok__law_mul C) hr (takes_of (by rfl) (by rfl) (by rfl) (by rfl)) (by decide) (by rfl) (qs_cons (qv 7) (qs_cons (q_tup (qs_cons (q_sub (qb (qv 6)) (qb (qv 4))) (qs_cons q_int qs_nil))) qs_nil))) qs_nil)))))) qss_nil))))
    (qss_one (q_ret (q_tup (qs_cons (q_ix (qb (q_ix (qb (qv 0)) (qb (q_neg (qb q_int))))) (qb q_int)) (qs_cons q_int qs_nil))))))
theorem ok__law_curve_at (C : Cn K mg) : Fn P w K mg base (tb K) 4 "_law_curve_at" 2 F__law_curve_at := by
  obtain ⟨fd, F⟩ := C.d__law_curve_at
  exact Fn.mk_ (fn_ok (N := ["knots", "level", "k", "x", "y", "after", "rise", "part"]) (ps := ["knots", "level"]) F sc__law_curve_at (by decide) fun cdv A outer s H E hr => bo__law_curve_at C hr) C.g__law_curve_at F.kp (F.bindsN (ps := ["knots", "level"]) fun _ _ _ _ _ _ us hl => match us, hl with | [_, _], _ => rfl)
theorem bo__law_is_frac (C : Cn K mg) {cdv : Value} {A : Around} {outer : List Env} {s : Shared} {H : Hp} {E : XK} (hr : Room 1 (A.deeper (envOfC "_law_is_frac" (defScope (top 58)) s.heap.objs.size (He.ga K "_law_is_frac") cdv))) :
    QSs (cxOf (L2.CX P w) P w K mg base ["value", "one"] "_law_is_frac" (defScope (top 58)) (He.ga K "_law_is_frac") cdv A outer s H E) (tb K) (fun cls d _ H => E cls d H) (defBody (top 58)) b__law_is_frac :=
  (qss_cons (q_ifS (qw_pt (qw_or (qt_not (qt_val (q_isTy C.isc (by rfl) C.n_tuple (by rfl) C.n_isinstance (qb (qv 0))))) (qw_or (qt_ne (hu64 hr) (qb (q_len (by rfl) C.n_len (qb (qv 0)))) (qb q_int)) (qw_or1 (qt_ne (hu64 hr) (qb (qf (q_comp (by rfl) sc__law_is_frac.nd (q_iSeq (qv 0)) (blkOk_by (own := [("one", 1)]) (by kernel_rfl)) (fun _ _ _ _ _ => (qg_name (i := 1) sc__law_is_frac.nd)) (fun _ _ _ _ _ => (qts_one (qw_pt (qw_or (qt_not (qt_val (q_isTy C.isc (by rfl) C.n_int (by rfl) C.n_isinstance (qb (qv 1))))) (qw_or1 (qt_val (q_isTy C.isc (by rfl) C.n_bool (by rfl) C.n_isinstance (qb (qv 1))))))))) (fun _ _ _ _ _ => (qv 1))))) (qb (qf (q_lst qs_nil)))))))) (qss_one (q_ret q_bl)) qss_nil)
    (qss_one (q_ret (q_and (q_ge (qb (q_ix (qb (qv 0)) (qb q_int))) (qb q_int)) (q_one (q_eq (hu64 hr) (qb (q_call (ok__law_gcd C) hr (takes_of (by rfl) (by rfl) (by rfl) (by rfl)) (by decide) (by rfl) (qs_cons (q_abs (by rfl) C.n_abs (qb (q_ix (qb (qv 0)) (qb q_int)))) (qs_cons (q_ix (qb (qv 0)) (qb q_int)) qs_nil)))) (qb q_int)))))))
theorem ok__law_is_frac (C : Cn K mg) : Fn P w K mg base (tb K) 2 "_law_is_frac" 1 F__law_is_frac := by
  obtain ⟨fd, F⟩ := C.d__law_is_frac
  exact Fn.mk_ (fn_ok (N := ["value", "one"]) (ps := ["value"]) F sc__law_is_frac (by decide) fun cdv A outer s H E hr => bo__law_is_frac C hr) C.g__law_is_frac F.kp (F.bindsN (ps := ["value"]) fun _ _ _ _ _ _ us hl => match us, hl with | [_], _ => rfl)
theorem bo__law_taken (C : Cn K mg) {cdv : Value} {A : Around} {outer : List Env} {s : Shared} {H : Hp} {E : XK} (hr : Room 0 (A.deeper (envOfC "_law_taken" (defScope (top 48)) s.heap.objs.size (He.ga K "_law_taken") cdv))) :
    QSs (cxOf (L2.CX P w) P w K mg base ["row", "many", "found", "cell"] "_law_taken" (defScope (top 48)) (He.ga K "_law_taken") cdv A outer s H E) (tb K) (fun cls d _ H => E cls d H) (defBody (top 48)) b__law_taken :=
  (qss_cons (q_ifS (qt_gt (qb (q_ix (qb (qv 0)) (qb q_int))) (qb q_int)) (qss_cons (q_set (i := 2) sc__law_taken.nd (by rfl) (by first | exact Or.inl rfl | exact Or.inr rfl) (q_mod (qb (q_intOf (by rfl) C.n_int (qb (q_ix (qb (qv 0)) (qb q_int))))) (qb (qv 1))))
    (qss_cons (q_setIx (i := 0) (q_div (qb (q_ix (qb (qv 0)) (qb q_int))) (qb (qv 1))) q_int)
    (qss_one (q_ret (qv 2))))) qss_nil)
    (qss_cons (q_setIx (i := 0) (q_addA (qb (q_ix (qb (qv 0)) (qb q_int))) (qb q_int)) q_int)
    (qss_cons (q_ifS (qt_gt (qb (q_ix (qb (qv 0)) (qb q_int))) (qb (q_len (by rfl) C.n_len (qb (q_ix (qb (qv 0)) (qb q_int)))))) (qss_cons (q_setIx (i := 0) (q_mod (qb (q_intOf (by rfl) C.n_int (qb (q_addA (qb (q_mul (qb (q_ix (qb (qv 0)) (qb q_int))) (qb q_int))) (qb q_int))))) (qb q_int)) q_int)
    (qss_one (q_ret (q_mod (qb (q_intOf (by rfl) C.n_int (qb (q_div (qb (q_ix (qb (qv 0)) (qb q_int))) (qb q_int))))) (qb (qv 1)))))) qss_nil)
    (qss_cons (q_set (i := 3) sc__law_taken.nd (by rfl) (by first | exact Or.inl rfl | exact Or.inr rfl) (q_ix (qb (q_ix (qb (qv 0)) (qb q_int))) (qb (q_sub (qb (q_ix (qb (qv 0)) (qb q_int))) (qb q_int)))))
    (qss_cons (q_setIx (i := 0) (q_mod (qb (q_intOf (by rfl) C.n_int (qb (q_addA (qb (q_addA (qb (q_mul (qb (q_ix (qb (qv 0)) (qb q_int))) (qb q_int))) (qb (qv 3)))) (qb q_int))))) (qb q_int)) q_int)
    (qss_cons (q_ifS (qt_ge (qb (qv 3)) (qb (q_pow (qb q_int) (qb q_int)))) (qss_cons (q_setIx (i := 0) (q_div (qb (qv 3)) (qb (qv 1))) q_int)
    (qss_one (q_ret (q_mod (qb (q_intOf (by rfl) C.n_int (qb (qv 3)))) (qb (qv 1)))))) qss_nil)
    (qss_one (q_ret (q_mod (qb (q_intOf (by rfl) C.n_int (qb (q_addA (qb (q_mul (qb (q_mod (qb (q_intOf (by rfl) C.n_int (qb (qv 3)))) (qb q_int))) (qb q_int))) (qb (q_div (qb (q_ix (qb (qv 0)) (qb q_int))) (qb q_int))))))) (qb (qv 1)))))))))))
theorem ok__law_taken (C : Cn K mg) : Fn P w K mg base (tb K) 1 "_law_taken" 2 F__law_taken := by
  obtain ⟨fd, F⟩ := C.d__law_taken
  exact Fn.mk_ (fn_ok (N := ["row", "many", "found", "cell"]) (ps := ["row", "many"]) F sc__law_taken (by decide) fun cdv A outer s H E hr => bo__law_taken C hr) C.g__law_taken F.kp (F.bindsN (ps := ["row", "many"]) fun _ _ _ _ _ _ us hl => match us, hl with | [_, _], _ => rfl)
theorem bo__law_pick (C : Cn K mg) {cdv : Value} {A : Around} {outer : List Env} {s : Shared} {H : Hp} {E : XK} (hr : Room 1 (A.deeper (envOfC "_law_pick" (defScope (top 49)) s.heap.objs.size (He.ga K "_law_pick") cdv))) :
    QSs (cxOf (L2.CX P w) P w K mg base ["row", "things"] "_law_pick" (defScope (top 49)) (He.ga K "_law_pick") cdv A outer s H E) (tb K) (fun cls d _ H => E cls d H) (defBody (top 49)) b__law_pick :=
  (qss_one (q_ret (q_ix (qb (qv 1)) (qb (q_call (ok__law_taken C) hr (takes_of (by rfl) (by rfl) (by rfl) (by rfl)) (by decide) (by rfl) (qs_cons (qv 0) (qs_cons (q_len (by rfl) C.n_len (qb (qv 1))) qs_nil)))))))
theorem ok__law_pick (C : Cn K mg) : Fn P w K mg base (tb K) 2 "_law_pick" 2 F__law_pick := by
  obtain ⟨fd, F⟩ := C.d__law_pick
  exact Fn.mk_ (fn_ok (N := ["row", "things"]) (ps := ["row", "things"]) F sc__law_pick (by decide) fun cdv A outer s H E hr => bo__law_pick C hr) C.g__law_pick F.kp (F.bindsN (ps := ["row", "things"]) fun _ _ _ _ _ _ us hl => match us, hl with | [_, _], _ => rfl)
theorem bo__law_knots (C : Cn K mg) {cdv : Value} {A : Around} {outer : List Env} {s : Shared} {H : Hp} {E : XK} (hr : Room 2 (A.deeper (envOfC "_law_knots" (defScope (top 59)) s.heap.objs.size (He.ga K "_law_knots") cdv))) :
    QSs (cxOf (L2.CX P w) P w K mg base ["row", "xs", "wide", "turn", "x", "found", "y"] "_law_knots" (defScope (top 59)) (He.ga K "_law_knots") cdv A outer s H E) (tb K) (fun cls d _ H => E cls d H) (defBody (top 59)) b__law_knots :=
  (qss_cons (q_par (i := 1) (j := 2) (by rfl) sc__law_knots.nd (qx_own (q_lst (qs_cons q_int qs_nil)) (qx_val (q_call (ok__law_pick C) hr (takes_of (by rfl) (by rfl) (by rfl) (by rfl)) (by decide) (by rfl) (qs_cons (qv 0) (qs_cons (qf (q_lst (qs_cons q_int (qs_cons q_int (qs_cons q_int qs_nil))))) qs_nil))) qx_nil)))
    (qss_cons (q_for (passes_of (by rfl)) (by rfl) (q_iRng1 (by rfl) C.n_range (qs_cons (q_call (ok__law_taken C) hr (takes_of (by rfl) (by rfl) (by rfl) (by rfl)) (by decide) (by rfl) (qs_cons (qv 0) (qs_cons q_int qs_nil))) qs_nil)) (qg_name (i := 3) sc__law_knots.nd) (qss_cons (q_set (i := 4) sc__law_knots.nd (by rfl) (by first | exact Or.inl rfl | exact Or.inr rfl) (q_addA (qb (q_addA (qb (q_ix (qvB 1) (qb (q_neg (qb q_int))))) (qb q_int))) (qb (q_call (ok__law_taken C) hr (takes_of (by rfl) (by rfl) (by rfl) (by rfl)) (by decide) (by rfl) (qs_cons (qv 0) (qs_cons (qv 2) qs_nil))))))
    (qss_one (q_ifS (qt_lt (qb (qv 4)) (qb q_int)) (qss_one (q_meth (i := 1) PySem.F.plainAttrs_list PySem.F.slot_list_append PySem.F.type_list_append mt_append om_append (by rfl) (by first | exact Or.inl rfl | exact Or.inr (Or.inl rfl)) (qs_cons (qv 4) qs_nil))) qss_nil))))
    (qss_cons (q_par3 (i := 1) (j := 5) (l := 6) (by rfl) sc__law_knots.nd (qx_own (q_cat (qvB 1) (qb (qf (q_lst (qs_cons q_int qs_nil))))) (qx_own (q_lst qs_nil) (qx_val (q_call (ok__law_pick C) hr (takes_of (by rfl) (by rfl) (by rfl) (by rfl)) (by decide) (by rfl) (qs_cons (qv 0) (qs_cons (qf (q_lst (qs_cons q_int (qs_cons q_int (qs_cons (q_call (ok__law_taken C) hr (takes_of (by rfl) (by rfl) (by rfl) (by rfl)) (by decide) (by rfl) (qs_cons (qv 0) (qs_cons q_int qs_nil))) qs_nil))))) qs_nil))) qx_nil))))
    (qss_cons (qs_frz (i := 1) (q_for (passes_of (by rfl)) (by rfl) (q_iSeq (qv 1)) (qg_name (i := 4) sc__law_knots.nd) (qss_cons (q_meth (i := 5) PySem.F.plainAttrs_list PySem.F.slot_list_append PySem.F.type_list_append mt_append om_append (by rfl) (by first | exact Or.inl rfl | exact Or.inr (Or.inl rfl)) (qs_cons (q_tup (qs_cons (qv 4) (qs_cons (qv 6) qs_nil))) qs_nil))
    (qss_one (q_set (i := 6) sc__law_knots.nd (by rfl) (by first | exact Or.inl rfl | exact Or.inr rfl) (q_min2 (by rfl) (by rfl) C.n_min (qb q_int) (qb (q_addA (qb (qv 6)) (qb (q_call (ok__law_pick C) hr (takes_of (by rfl) (by rfl) (by rfl) (by rfl)) (by decide) (by rfl) (qs_cons (qv 0) (qs_cons (qf (q_lst (qs_cons q_int (qs_cons q_int (qs_cons (q_call (ok__law_taken C) hr (takes_of (by rfl) (by rfl) (by rfl) (by rfl)) (by decide) (by rfl) (qs_cons (qv 0) (qs_cons q_int qs_nil))) (qs_cons (q_call (ok__law_taken C) hr (takes_of (by rfl) (by rfl) (by rfl) (by rfl)) (by decide) (by rfl) (qs_cons (qv 0) (qs_cons q_int qs_nil))) qs_nil)))))) qs_nil))))))))))))
    (qss_cons (q_ifS (qw_pt (qw_and (qt_eq (hu64 hr) (qb (q_call (ok__law_taken C) hr (takes_of (by rfl) (by rfl) (by rfl) (by rfl)) (by decide) (by rfl) (qs_cons (qv 0) (qs_cons q_int qs_nil)))) (qb q_int)) (qw_and1 (qw_pt (qw_or (qt_lt (qb (q_len (by rfl) C.n_len (qvB 5))) (qb q_int)) (qw_or1 (qt_le (qb (q_ix (qb (q_ix (qvB 5) (qb (q_neg (qb q_int))))) (qb q_int))) (qb q_int)))))))) (qss_one (q_setIx (i := 5) (q_tup (qs_cons q_int (qs_cons q_int qs_nil))) (q_neg (qb q_int)))) qss_nil)
    (qss_one (q_ret (q_tupleOf (by rfl) C.n_tuple (qvB 5)))))))))
theorem ok__law_knots (C : Cn K mg) : Fn P w K mg base (tb K) 3 "_law_knots" 1 F__law_knots := by
  obtain ⟨fd, F⟩ := C.d__law_knots
  exact Fn.mk_ (fn_ok (N := ["row", "xs", "wide", "turn", "x", "found", "y"]) (ps := ["row"]) F sc__law_knots (by decide) fun cdv A outer s H E hr => bo__law_knots C hr) C.g__law_knots F.kp (F.bindsN (ps := ["row"]) fun _ _ _ _ _ _ us hl => match us, hl with | [_], _ => rfl)
theorem bo__law_level (C : Cn K mg) {cdv : Value} {A : Around} {outer : List Env} {s : Shared} {H : Hp} {E : XK} (hr : Room 2 (A.deeper (envOfC "_law_level" (defScope (top 61)) s.heap.objs.size (He.ga K "_law_level") cdv))) :
    QSs (cxOf (L2.CX P w) P w K mg base ["row", "below"] "_law_level" (defScope (top 61)) (He.ga K "_law_level") cdv A outer s H E) (tb K) (fun cls d _ H => E cls d H) (defBody (top 61)) b__law_level :=
  (qss_cons (q_set (i := 1) sc__law_level.nd (by rfl) (by first | exact Or.inl rfl | exact Or.inr rfl) (q_addA (qb q_int) (qb (q_call (ok__law_taken C) hr (takes_of (by rfl) (by rfl) (by rfl) (by rfl)) (by decide) (by rfl) (qs_cons (qv 0) (qs_cons (q_call (ok__law_pick C) hr (takes_of (by rfl) (by rfl) (by rfl) (by rfl)) (by decide) (by rfl) (qs_cons (qv 0) (qs_cons (qf (q_lst (qs_cons q_int (qs_cons q_int (qs_cons q_int qs_nil))))) qs_nil))) qs_nil))))))
    (qss_one (q_ret (q_call (ok__law_pick C) hr (takes_of (by rfl) (by rfl) (by rfl) (by rfl)) (by decide) (by rfl) (qs_cons (qv 0) (qs_cons (qf (q_lst (qs_cons (q_tup (qs_cons q_int (qs_cons q_int qs_nil))) (qs_cons (q_tup (qs_cons q_int (qs_cons q_int qs_nil))) (qs_cons (q_call (ok__law_frac C) hr (takes_of (by rfl) (by rfl) (by rfl) (by rfl)) (by decide) (by rfl) (qs_cons (q_call (ok__law_taken C) hr (takes_of (by rfl) (by rfl) (by rfl) (by rfl)) (by decide) (by rfl) (qs_cons (qv 0) (qs_cons (q_addA (qb (q_mul (qb q_int) (qb (qv 1)))) (qb q_int)) qs_nil))) (qs_cons (qv 1) qs_nil))) (qs_cons (q_call (ok__law_frac C) hr (takes_of (by rfl) (by rfl) (by rfl) (by rfl)) (by decide) (by rfl) (qs_cons (q_call (ok__law_taken C) hr (takes_of (by rfl) (by rfl) (by rfl) (by rfl)) (by decide) (by rfl) (qs_cons (qv 0) (qs_cons (q_addA (qb (q_mul (qb q_int) (qb (qv 1)))) (qb q_int)) qs_nil))) (qs_cons (qv 1) qs_nil))) qs_nil)))))) qs_nil))))))
theorem ok__law_level (C : Cn K mg) : Fn P w K mg base (tb K) 3 "_law_level" 1 F__law_level := by
  obtain ⟨fd, F⟩ := C.d__law_level
  exact Fn.mk_ (fn_ok (N := ["row", "below"]) (ps := ["row"]) F sc__law_level (by decide) fun cdv A outer s H E hr => bo__law_level C hr) C.g__law_level F.kp (F.bindsN (ps := ["row"]) fun _ _ _ _ _ _ us hl => match us, hl with | [_], _ => rfl)
theorem bo_common (C : Cn K mg) {cdv : Value} {A : Around} {outer : List Env} {s : Shared} {H : Hp} {E : XK} (hr : Room 0 (A.deeper (envOfC "common" (defScope (top 9)) s.heap.objs.size (He.ga K "common") cdv))) :
    QSs (cxOf (L2.CX P w) P w K mg base ["one", "other"] "common" (defScope (top 9)) (He.ga K "common") cdv A outer s H E) (tb K) (fun cls d _ H => E cls d H) (defBody (top 9)) b_common :=
  (qss_cons (q_par (i := 0) (j := 1) (by rfl) sc_common.nd (qx_val (q_abs (by rfl) C.n_abs (qb (qv 0))) (qx_val (q_abs (by rfl) C.n_abs (qb (qv 1))) qx_nil)))
    (qss_cons (q_while (fuel := fuel_common) (passes_of (by rfl)) (qt_gt (qb (qv 1)) (qb q_int)) (qss_one (q_par (i := 0) (j := 1) (by rfl) sc_common.nd (qx_val (qv 1) (qx_val (q_mod (qb (qv 0)) (qb (qv 1))) qx_nil)))))
    (qss_one (q_ret (qv 0)))))
theorem ok_common (C : Cn K mg) : Fn P w K mg base (tb K) 1 "common" 2 F_common := by
  obtain ⟨fd, F⟩ := C.d_common
  exact Fn.mk_ (fn_ok (N := ["one", "other"]) (ps := ["one", "other"]) F sc_common (by decide) fun cdv A outer s H E hr => bo_common C hr) C.g_common F.kp (F.bindsN (ps := ["one", "other"]) fun _ _ _ _ _ _ us hl => match us, hl with | [_, _], _ => rfl)
theorem bo_fraction (C : Cn K mg) {cdv : Value} {A : Around} {outer : List Env} {s : Shared} {H : Hp} {E : XK} (hr : Room 1 (A.deeper (envOfC "fraction" (defScope (top 13)) s.heap.objs.size (He.ga K "fraction") cdv))) :
    QSs (cxOf (L2.CX P w) P w K mg base ["top", "below", "shared"] "fraction" (defScope (top 13)) (He.ga K "fraction") cdv A outer s H E) (tb K) (fun cls d _ H => E cls d H) (defBody (top 13)) b_fraction :=
  (qss_cons (q_ifS (qt_lt (qb (qv 1)) (qb q_int)) (qss_one (q_par (i := 0) (j := 1) (by rfl) sc_fraction.nd (qx_val (q_sub (qb q_int) (qb (qv 0))) (qx_val (q_sub (qb q_int) (qb (qv 1))) qx_nil)))) qss_nil)
    (qss_cons (q_set (i := 2) sc_fraction.nd (by rfl) (by first | exact Or.inl rfl | exact Or.inr rfl) (q_call (ok_common C) hr (takes_of (by rfl) (by rfl) (by rfl) (by rfl)) (by decide) (by rfl) (qs_cons (qv 0) (qs_cons (qv 1) qs_nil))))
    (qss_one (q_ret (q_tup (qs_cons (q_div (qb (qv 0)) (qb (qv 2))) (qs_cons (q_div (qb (qv 1)) (qb (qv 2))) qs_nil)))))))
theorem ok_fraction (C : Cn K mg) : Fn P w K mg base (tb K) 2 "fraction" 2 F_fraction := by
  obtain ⟨fd, F⟩ := C.d_fraction
  exact Fn.mk_ (fn_ok (N := ["top", "below", "shared"]) (ps := ["top", "below"]) F sc_fraction (by decide) fun cdv A outer s H E hr => bo_fraction C hr) C.g_fraction F.kp (F.bindsN (ps := ["top", "below"]) fun _ _ _ _ _ _ us hl => match us, hl with | [_, _], _ => rfl)
theorem bo_by (C : Cn K mg) {cdv : Value} {A : Around} {outer : List Env} {s : Shared} {H : Hp} {E : XK} (hr : Room 2 (A.deeper (envOfC "by" (defScope (top 19)) s.heap.objs.size (He.ga K "by") cdv))) :
    QSs (cxOf (L2.CX P w) P w K mg base ["one", "other"] "by" (defScope (top 19)) (He.ga K "by") cdv A outer s H E) (tb K) (fun cls d _ H => E cls d H) (defBody (top 19)) b_by :=
  (qss_one (q_ret (q_call (ok_fraction C) hr (takes_of (by rfl) (by rfl) (by rfl) (by rfl)) (by decide) (by rfl) (qs_cons (q_mul (qb (q_ix (qb (qv 0)) (qb q_int))) (qb (q_ix (qb (qv 1)) (qb q_int)))) (qs_cons (q_mul (qb (q_ix (qb (qv 0)) (qb q_int))) (qb (q_ix (qb (qv 1)) (qb q_int)))) qs_nil)))))
theorem ok_by (C : Cn K mg) : Fn P w K mg base (tb K) 3 "by" 2 F_by := by
  obtain ⟨fd, F⟩ := C.d_by
  exact Fn.mk_ (fn_ok (N := ["one", "other"]) (ps := ["one", "other"]) F sc_by (by decide) fun cdv A outer s H E hr => bo_by C hr) C.g_by F.kp (F.bindsN (ps := ["one", "other"]) fun _ _ _ _ _ _ us hl => match us, hl with | [_, _], _ => rfl)
theorem bo_is_less (C : Cn K mg) {cdv : Value} {A : Around} {outer : List Env} {s : Shared} {H : Hp} {E : XK} (hr : Room 0 (A.deeper (envOfC "is_less" (defScope (top 20)) s.heap.objs.size (He.ga K "is_less") cdv))) :
    QSs (cxOf (L2.CX P w) P w K mg base ["one", "other"] "is_less" (defScope (top 20)) (He.ga K "is_less") cdv A outer s H E) (tb K) (fun cls d _ H => E cls d H) (defBody (top 20)) b_is_less :=
  (qss_one (q_ret (q_lt (qb (q_mul (qb (q_ix (qb (qv 0)) (qb q_int))) (qb (q_ix (qb (qv 1)) (qb q_int))))) (qb (q_mul (qb (q_ix (qb (qv 1)) (qb q_int))) (qb (q_ix (qb (qv 0)) (qb q_int))))))))
theorem ok_is_less (C : Cn K mg) : Fn P w K mg base (tb K) 1 "is_less" 2 F_is_less := by
  obtain ⟨fd, F⟩ := C.d_is_less
  exact Fn.mk_ (fn_ok (N := ["one", "other"]) (ps := ["one", "other"]) F sc_is_less (by decide) fun cdv A outer s H E hr => bo_is_less C hr) C.g_is_less F.kp (F.bindsN (ps := ["one", "other"]) fun _ _ _ _ _ _ us hl => match us, hl with | [_, _], _ => rfl)
theorem bo_minus (C : Cn K mg) {cdv : Value} {A : Around} {outer : List Env} {s : Shared} {H : Hp} {E : XK} (hr : Room 2 (A.deeper (envOfC "minus" (defScope (top 17)) s.heap.objs.size (He.ga K "minus") cdv))) :
    QSs (cxOf (L2.CX P w) P w K mg base ["one", "other"] "minus" (defScope (top 17)) (He.ga K "minus") cdv A outer s H E) (tb K) (fun cls d _ H => E cls d H) (defBody (top 17)) b_minus :=
  (qss_one (q_ret (q_call (ok_fraction C) hr (takes_of (by rfl) (by rfl) (by rfl) (by rfl)) (by decide) (by rfl) (qs_cons (q_sub (qb (q_mul (qb (q_ix (qb (qv 0)) (qb q_int))) (qb (q_ix (qb (qv 1)) (qb q_int))))) (qb (q_mul (qb (q_ix (qb (qv 1)) (qb q_int))) (qb (q_ix (qb (qv 0)) (qb q_int)))))) (qs_cons (q_mul (qb (q_ix (qb (qv 0)) (qb q_int))) (qb (q_ix (qb (qv 1)) (qb q_int)))) qs_nil)))))
theorem ok_minus (C : Cn K mg) : Fn P w K mg base (tb K) 3 "minus" 2 F_minus := by
  obtain ⟨fd, F⟩ := C.d_minus
  exact Fn.mk_ (fn_ok (N := ["one", "other"]) (ps := ["one", "other"]) F sc_minus (by decide) fun cdv A outer s H E hr => bo_minus C hr) C.g_minus F.kp (F.bindsN (ps := ["one", "other"]) fun _ _ _ _ _ _ us hl => match us, hl with | [_, _], _ => rfl)
theorem bo_plus (C : Cn K mg) {cdv : Value} {A : Around} {outer : List Env} {s : Shared} {H : Hp} {E : XK} (hr : Room 2 (A.deeper (envOfC "plus" (defScope (top 16)) s.heap.objs.size (He.ga K "plus") cdv))) :
    QSs (cxOf (L2.CX P w) P w K mg base ["one", "other"] "plus" (defScope (top 16)) (He.ga K "plus") cdv A outer s H E) (tb K) (fun cls d _ H => E cls d H) (defBody (top 16)) b_plus :=
  (qss_one (q_ret (q_call (ok_fraction C) hr (takes_of (by rfl) (by rfl) (by rfl) (by rfl)) (by decide) (by rfl) (qs_cons (q_addA (qb (q_mul (qb (q_ix (qb (qv 0)) (qb q_int))) (qb (q_ix (qb (qv 1)) (qb q_int))))) (qb (q_mul (qb (q_ix (qb (qv 1)) (qb q_int))) (qb (q_ix (qb (qv 0)) (qb q_int)))))) (qs_cons (q_mul (qb (q_ix (qb (qv 0)) (qb q_int))) (qb (q_ix (qb (qv 1)) (qb q_int)))) qs_nil)))))
theorem ok_plus (C : Cn K mg) : Fn P w K mg base (tb K) 3 "plus" 2 F_plus := by
  obtain ⟨fd, F⟩ := C.d_plus
  exact Fn.mk_ (fn_ok (N := ["one", "other"]) (ps := ["one", "other"]) F sc_plus (by decide) fun cdv A outer s H E hr => bo_plus C hr) C.g_plus F.kp (F.bindsN (ps := ["one", "other"]) fun _ _ _ _ _ _ us hl => match us, hl with | [_, _], _ => rfl)
theorem bo_times (C : Cn K mg) {cdv : Value} {A : Around} {outer : List Env} {s : Shared} {H : Hp} {E : XK} (hr : Room 2 (A.deeper (envOfC "times" (defScope (top 18)) s.heap.objs.size (He.ga K "times") cdv))) :
    QSs (cxOf (L2.CX P w) P w K mg base ["one", "other"] "times" (defScope (top 18)) (He.ga K "times") cdv A outer s H E) (tb K) (fun cls d _ H => E cls d H) (defBody (top 18)) b_times :=
  (qss_one (q_ret (q_call (ok_fraction C) hr (takes_of (by rfl) (by rfl) (by rfl) (by rfl)) (by decide) (by rfl) (qs_cons (q_mul (qb (q_ix (qb (qv 0)) (qb q_int))) (qb (q_ix (qb (qv 1)) (qb q_int)))) (qs_cons (q_mul (qb (q_ix (qb (qv 0)) (qb q_int))) (qb (q_ix (qb (qv 1)) (qb q_int)))) qs_nil)))))
theorem ok_times (C : Cn K mg) : Fn P w K mg base (tb K) 3 "times" 2 F_times := by
  obtain ⟨fd, F⟩ := C.d_times
  exact Fn.mk_ (fn_ok (N := ["one", "other"]) (ps := ["one", "other"]) F sc_times (by decide) fun cdv A outer s H E hr => bo_times C hr) C.g_times F.kp (F.bindsN (ps := ["one", "other"]) fun _ _ _ _ _ _ us hl => match us, hl with | [_, _], _ => rfl)
theorem bo_between (C : Cn K mg) {cdv : Value} {A : Around} {outer : List Env} {s : Shared} {H : Hp} {E : XK} (hr : Room 3 (A.deeper (envOfC "between" (defScope (top 32)) s.heap.objs.size (He.ga K "between") cdv))) :
    QSs (cxOf (L2.CX P w) P w K mg base ["points", "level", "x", "y", "next_x", "next_y", "part"] "between" (defScope (top 32)) (He.ga K "between") cdv A outer s H E) (tb K) (fun cls d _ H => E cls d H) (defBody (top 32)) b_between :=
  (qss_cons (q_for (passes_of (by rfl)) (by rfl) (q_iZip (by rfl) C.n_zip (qs_cons (qv 0) (qs_cons (q_sliceA (qb (qv 0)) (qo_some q_int) qo_none) qs_nil))) (qg_tup (by rfl) (qgs_cons (qg_tup (by rfl) (qgs_cons (qg_name (i := 2) sc_between.nd) (qgs_cons (qg_name (i := 3) sc_between.nd) qgs_nil))) (qgs_cons (qg_tup (by rfl) (qgs_cons (qg_name (i := 4) sc_between.nd) (qgs_cons (qg_name (i := 5) sc_between.nd) qgs_nil))) qgs_nil))) (qss_one (q_ifS (qt_not (qt_val (q_call (ok_is_less C) hr (takes_of (by rfl) (by rfl) (by rfl) (by rfl)) (by decide) (by rfl) (qs_cons (qv 4) (qs_cons (qv 1) qs_nil))))) (qss_cons (q_set (i := 6) sc_between.nd (by rfl) (by first | exact Or.inl rfl | exact Or.inr rfl) (q_call (ok_by C) hr (takes_of (by rfl) (by rfl) (by rfl) (by rfl)) (by decide) (by rfl) (qs_cons (q_call (ok_minus C) hr (takes_of (by rfl) (by rfl) (by rfl) (by rfl)) (by decide) (by rfl) (qs_cons (qv 1) (qs_cons (qv 2) qs_nil))) (qs_cons (q_call (ok_minus C) hr (takes_of (by rfl) (by rfl) (by rfl) (by rfl)) (by decide) (by rfl) (qs_cons (qv 4) (qs_cons (qv 2) qs_nil))) qs_nil))))
    (qss_one (q_ret (q_call (ok_plus C) hr (takes_of (by rfl) (by rfl) (by rfl) (by rfl)) (by decide) (by rfl) (qs_cons (qv 3) (qs_cons (q_call (ok_times C) hr (takes_of (by rfl) (by rfl) (by rfl) (by rfl)) (by decide) (by rfl) (qs_cons (qv 6) (qs_cons (q_call (ok_minus C) hr (takes_of (by rfl) (by rfl) (by rfl) (by rfl)) (by decide) (by rfl) (qs_cons (qv 5) (qs_cons (qv 3) qs_nil))) qs_nil))) qs_nil)))))) qss_nil)))
    (qss_one (q_ret (q_ix (qb (q_ix (qb (qv 0)) (qb (q_neg (qb q_int))))) (qb q_int)))))
theorem ok_between (C : Cn K mg) : Fn P w K mg base (tb K) 4 "between" 2 F_between := by
  obtain ⟨fd, F⟩ := C.d_between
  exact Fn.mk_ (fn_ok (N := ["points", "level", "x", "y", "next_x", "next_y", "part"]) (ps := ["points", "level"]) F sc_between (by decide) fun cdv A outer s H E hr => bo_between C hr) C.g_between F.kp (F.bindsN (ps := ["points", "level"]) fun _ _ _ _ _ _ us hl => match us, hl with | [_, _], _ => rfl)
theorem bo_whole (C : Cn K mg) {cdv : Value} {A : Around} {outer : List Env} {s : Shared} {H : Hp} {E : XK} (hr : Room 0 (A.deeper (envOfC "whole" (defScope (top 15)) s.heap.objs.size (He.ga K "whole") cdv))) :
    QSs (cxOf (L2.CX P w) P w K mg base ["number"] "whole" (defScope (top 15)) (He.ga K "whole") cdv A outer s H E) (tb K) (fun cls d _ H => E cls d H) (defBody (top 15)) b_whole :=
  (qss_one (q_ret (q_tup (qs_cons (qv 0) (qs_cons q_int qs_nil)))))
theorem ok_whole (C : Cn K mg) : Fn P w K mg base (tb K) 1 "whole" 1 F_whole := by
  obtain ⟨fd, F⟩ := C.d_whole
  exact Fn.mk_ (fn_ok (N := ["number"]) (ps := ["number"]) F sc_whole (by decide) fun cdv A outer s H E hr => bo_whole C hr) C.g_whole F.kp (F.bindsN (ps := ["number"]) fun _ _ _ _ _ _ us hl => match us, hl with | [_], _ => rfl)
theorem bo_points_of (C : Cn K mg) {cdv : Value} {A : Around} {outer : List Env} {s : Shared} {H : Hp} {E : XK} (hr : Room 1 (A.deeper (envOfC "points_of" (defScope (top 33)) s.heap.objs.size (He.ga K "points_of") cdv))) :
    QSs (cxOf (L2.CX P w) P w K mg base ["curve", "x", "y"] "points_of" (defScope (top 33)) (He.ga K "points_of") cdv A outer s H E) (tb K) (fun cls d _ H => E cls d H) (defBody (top 33)) b_points_of :=
  (qss_one (q_ret (qf (q_comp (by rfl) sc_points_of.nd (q_iSeq (q_fldC (ixs := [(0, 0)]) C.isc (qb (qv 0)))) (blkOk_by (own := [("x", 1), ("y", 2)]) (by kernel_rfl)) (fun _ _ _ _ _ => (qg_tup (by rfl) (qgs_cons (qg_name (i := 1) sc_points_of.nd) (qgs_cons (qg_name (i := 2) sc_points_of.nd) qgs_nil)))) (fun _ _ _ _ _ => qts_nil) (fun _ _ _ _ _ => (q_tup (qs_cons (q_call (ok_whole C) hr takes0 (by decide) (by rfl) (qs_cons (qv 1) qs_nil)) (qs_cons (q_call (ok_whole C) hr takes0 (by decide) (by rfl) (qs_cons (qv 2) qs_nil)) qs_nil))))))))
theorem ok_points_of (C : Cn K mg) : Fn P w K mg base (tb K) 2 "points_of" 1 F_points_of := by
  obtain ⟨fd, F⟩ := C.d_points_of
  exact Fn.mk_ (fn_ok (N := ["curve", "x", "y"]) (ps := ["curve"]) F sc_points_of (by decide) fun cdv A outer s H E hr => bo_points_of C hr) C.g_points_of F.kp (F.bindsN (ps := ["curve"]) fun _ _ _ _ _ _ us hl => match us, hl with | [_], _ => rfl)
theorem bo_is_fraction (C : Cn K mg) {cdv : Value} {A : Around} {outer : List Env} {s : Shared} {H : Hp} {E : XK} (hr : Room 1 (A.deeper (envOfC "is_fraction" (defScope (top 14)) s.heap.objs.size (He.ga K "is_fraction") cdv))) :
    QSs (cxOf (L2.CX P w) P w K mg base ["value"] "is_fraction" (defScope (top 14)) (He.ga K "is_fraction") cdv A outer s H E) (tb K) (fun cls d _ H => E cls d H) (defBody (top 14)) b_is_fraction :=
  (qss_cons (q_ifS (qw_pt (qw_or (qt_not (qt_val (q_call (ok_is_row C) hr (takes_of (by rfl) (by rfl) (by rfl) (by rfl)) (by decide) (by rfl) (qs_cons (qv 0) (qs_cons q_int qs_nil))))) (qw_or (qt_not (qt_val (q_call (ok_is_whole C) hr (takes_of (by rfl) (by rfl) (by rfl) (by rfl)) (by decide) (by rfl) (qs_cons (q_ix (qb (qv 0)) (qb q_int)) qs_nil)))) (qw_or1 (qt_not (qt_val (q_call (ok_is_whole C) hr (takes_of (by rfl) (by rfl) (by rfl) (by rfl)) (by decide) (by rfl) (qs_cons (q_ix (qb (qv 0)) (qb q_int)) qs_nil)))))))) (qss_one (q_ret q_bl)) qss_nil)
    (qss_one (q_ret (q_and (q_ge (qb (q_ix (qb (qv 0)) (qb q_int))) (qb q_int)) (q_one (q_eq (hu64 hr) (qb (q_call (ok_common C) hr (takes_of (by rfl) (by rfl) (by rfl) (by rfl)) (by decide) (by rfl) (qs_cons (q_ix (qb (qv 0)) (qb q_int)) (qs_cons (q_ix (qb (qv 0)) (qb q_int)) qs_nil)))) (qb q_int)))))))
theorem ok_is_fraction (C : Cn K mg) : Fn P w K mg base (tb K) 2 "is_fraction" 1 F_is_fraction := by
  obtain ⟨fd, F⟩ := C.d_is_fraction
  exact Fn.mk_ (fn_ok (N := ["value"]) (ps := ["value"]) F sc_is_fraction (by decide) fun cdv A outer s H E hr => bo_is_fraction C hr) C.g_is_fraction F.kp (F.bindsN (ps := ["value"]) fun _ _ _ _ _ _ us hl => match us, hl with | [_], _ => rfl)
theorem bo_is_level (C : Cn K mg) {cdv : Value} {A : Around} {outer : List Env} {s : Shared} {H : Hp} {E : XK} (hr : Room 2 (A.deeper (envOfC "is_level" (defScope (top 30)) s.heap.objs.size (He.ga K "is_level") cdv))) :
    QSs (cxOf (L2.CX P w) P w K mg base ["value"] "is_level" (defScope (top 30)) (He.ga K "is_level") cdv A outer s H E) (tb K) (fun cls d _ H => E cls d H) (defBody (top 30)) b_is_level :=
  (qss_one (q_ret (q_and (q_call (ok_is_fraction C) hr (takes_of (by rfl) (by rfl) (by rfl) (by rfl)) (by decide) (by rfl) (qs_cons (qv 0) qs_nil)) (q_one (q_chain op_le o2_le op_le o2_le (qb q_int) (qb (q_ix (qb (qv 0)) (qb q_int))) (qb (q_mul (qb (q_gintE C.i_TOP)) (qb (q_ix (qb (qv 0)) (qb q_int))))))))))
theorem ok_is_level (C : Cn K mg) : Fn P w K mg base (tb K) 3 "is_level" 1 F_is_level := by
  obtain ⟨fd, F⟩ := C.d_is_level
  exact Fn.mk_ (fn_ok (N := ["value"]) (ps := ["value"]) F sc_is_level (by decide) fun cdv A outer s H E hr => bo_is_level C hr) C.g_is_level F.kp (F.bindsN (ps := ["value"]) fun _ _ _ _ _ _ us hl => match us, hl with | [_], _ => rfl)
theorem bo_require_level (C : Cn K mg) {cdv : Value} {A : Around} {outer : List Env} {s : Shared} {H : Hp} {E : XK} (hr : Room 3 (A.deeper (envOfC "require_level" (defScope (top 31)) s.heap.objs.size (He.ga K "require_level") cdv))) :
    QSs (cxOf (L2.CX P w) P w K mg base ["level"] "require_level" (defScope (top 31)) (He.ga K "require_level") cdv A outer s H E) (tb K) (fun cls d _ H => E cls d H) (defBody (top 31)) b_require_level :=
  (qss_one (q_ifS (qt_not (qt_val (q_call (ok_is_level C) hr (takes_of (by rfl) (by rfl) (by rfl) (by rfl)) (by decide) (by rfl) (qs_cons (qv 0) qs_nil)))) (qss_one q_never) qss_nil))
theorem ok_require_level (C : Cn K mg) : Fn P w K mg base (tb K) 4 "require_level" 1 F_require_level := by
  obtain ⟨fd, F⟩ := C.d_require_level
  exact Fn.mk_ (fn_ok (N := ["level"]) (ps := ["level"]) F sc_require_level (by decide) fun cdv A outer s H E hr => bo_require_level C hr) C.g_require_level F.kp (F.bindsN (ps := ["level"]) fun _ _ _ _ _ _ us hl => match us, hl with | [_], _ => rfl)
theorem bo_value_at (C : Cn K mg) {cdv : Value} {A : Around} {outer : List Env} {s : Shared} {H : Hp} {E : XK} (hr : Room 4 (A.deeper (envOfC "value_at" (defScope (top 34)) s.heap.objs.size (He.ga K "value_at") cdv))) :
    QSs (cxOf (L2.CX P w) P w K mg base ["curve", "level"] "value_at" (defScope (top 34)) (He.ga K "value_at") cdv A outer s H E) (tb K) (fun cls d _ H => E cls d H) (defBody (top 34)) b_value_at :=
  (qss_cons (q_expr (q_call (ok_require_level C) hr (takes_of (by rfl) (by rfl) (by rfl) (by rfl)) (by decide) (by rfl) (qs_cons (qv 1) qs_nil)))
    (qss_one (q_ret (q_call (ok_between C) hr (takes_of (by rfl) (by rfl) (by rfl) (by rfl)) (by decide) (by rfl) (qs_cons (q_call (ok_points_of C) hr (takes_of (by rfl) (by rfl) (by rfl) (by rfl)) (by decide) (by rfl) (qs_cons (qv 0) qs_nil)) (qs_cons (qv 1) qs_nil))))))
theorem ok_value_at (C : Cn K mg) : Fn P w K mg base (tb K) 5 "value_at" 2 F_value_at := by
  obtain ⟨fd, F⟩ := C.d_value_at
  exact Fn.mk_ (fn_ok (N := ["curve", "level"]) (ps := ["curve", "level"]) F sc_value_at (by decide) fun cdv A outer s H E hr => bo_value_at C hr) C.g_value_at F.kp (F.bindsN (ps := ["curve", "level"]) fun _ _ _ _ _ _ us hl => match us, hl with | [_, _], _ => rfl)
theorem bo_apart (C : Cn K mg) {cdv : Value} {A : Around} {outer : List Env} {s : Shared} {H : Hp} {E : XK} (hr : Room 5 (A.deeper (envOfC "apart" (defScope (top 39)) s.heap.objs.size (He.ga K "apart") cdv))) :
    QSs (cxOf (L2.CX P w) P w K mg base ["one", "other", "x"] "apart" (defScope (top 39)) (He.ga K "apart") cdv A outer s H E) (tb K) (fun cls d _ H => E cls d H) (defBody (top 39)) b_apart :=
  (qss_cons (q_for (passes_of (by rfl)) (by rfl) (q_iRng1 (by rfl) C.n_range (qs_cons (q_addA (qb (q_gintE C.i_TOP)) (qb q_int)) qs_nil)) (qg_name (i := 2) sc_apart.nd) (qss_one (q_ifS (qt_ne (hu64 hr) (qb (q_call (ok_value_at C) hr (takes_of (by rfl) (by rfl) (by rfl) (by rfl)) (by decide) (by rfl) (qs_cons (qv 0) (qs_cons (q_tup (qs_cons (qv 2) (qs_cons q_int qs_nil))) qs_nil)))) (qb (q_call (ok_value_at C) hr (takes_of (by rfl) (by rfl) (by rfl) (by rfl)) (by decide) (by rfl) (qs_cons (qv 1) (qs_cons (q_tup (qs_cons (qv 2) (qs_cons q_int qs_nil))) qs_nil))))) (qss_one (q_ret (qv 2))) qss_nil)))
    (qss_one (q_ret q_non)))
theorem ok_apart (C : Cn K mg) : Fn P w K mg base (tb K) 6 "apart" 2 F_apart := by
  obtain ⟨fd, F⟩ := C.d_apart
  exact Fn.mk_ (fn_ok (N := ["one", "other", "x"]) (ps := ["one", "other"]) F sc_apart (by decide) fun cdv A outer s H E hr => bo_apart C hr) C.g_apart F.kp (F.bindsN (ps := ["one", "other"]) fun _ _ _ _ _ _ us hl => match us, hl with | [_, _], _ => rfl)
theorem bo_Curve_eq (C : Cn K mg) {cdv : Value} {A : Around} {outer : List Env} {s : Shared} {H : Hp} {E : XK} (hr : Room 0 (A.deeper (envOfC "Curve.__eq__" (defScope (inClass (top 29) 1)) s.heap.objs.size (He.ma K (He.ga K "Curve") "__eq__") cdv))) :
    QSs (cxOf (L2.CX P w) P w K mg base ["self", "other"] "Curve.__eq__" (defScope (inClass (top 29) 1)) (He.ma K (He.ga K "Curve") "__eq__") cdv A outer s H E) (tb K) (fun cls d _ H => E cls d H) (defBody (inClass (top 29) 1)) b_Curve_eq :=
  (qss_one (q_ret (q_and (q_isCl (n := 0) C.isc C.c_Curve (by rfl) (by rfl) C.n_isinstance (qb (qv 1))) (q_one (q_eq (hu64 hr) (qb (q_fldC (ixs := [(0, 0)]) C.isc (qb (qv 0)))) (qb (q_fldC (ixs := [(0, 0)]) C.isc (qb (qv 1)))))))))
theorem ok_Curve_eq (C : Cn K mg) : Met P w K mg base (tb K) 1 0 "__eq__" 1 F_Curve_eq := by
  obtain ⟨fd, F⟩ := C.d_Curve_eq
  exact ⟨_, fd, _, (C.isc.cl 0 (by decide)).1, C.m_Curve_eq, fn_ok (N := ["self", "other"]) (ps := ["self", "other"]) F sc_Curve_eq (by decide) fun cdv A outer s H E hr => bo_Curve_eq C hr, F.bindsN (ps := ["self", "other"]) fun _ _ _ _ _ _ us hl => match us, hl with | [_, _], _ => rfl⟩
theorem bo_is_straight (C : Cn K mg) {cdv : Value} {A : Around} {outer : List Env} {s : Shared} {H : Hp} {E : XK} (hr : Room 3 (A.deeper (envOfC "is_straight" (defScope (top 36)) s.heap.objs.size (He.ga K "is_straight") cdv))) :
    QSs (cxOf (L2.CX P w) P w K mg base ["one", "other", "last", "first"] "is_straight" (defScope (top 36)) (He.ga K "is_straight") cdv A outer s H E) (tb K) (fun cls d _ H => E cls d H) (defBody (top 36)) b_is_straight :=
  (qss_cons (q_set (i := 3) sc_is_straight.nd (by rfl) (by first | exact Or.inl rfl | exact Or.inr rfl) (q_call (ok_times C) hr (takes_of (by rfl) (by rfl) (by rfl) (by rfl)) (by decide) (by rfl) (qs_cons (q_call (ok_minus C) hr (takes_of (by rfl) (by rfl) (by rfl) (by rfl)) (by decide) (by rfl) (qs_cons (q_ix (qb (qv 1)) (qb q_int)) (qs_cons (q_ix (qb (qv 0)) (qb q_int)) qs_nil))) (qs_cons (q_call (ok_minus C) hr (takes_of (by rfl) (by rfl) (by rfl) (by rfl)) (by decide) (by rfl) (qs_cons (q_ix (qb (qv 2)) (qb q_int)) (qs_cons (q_ix (qb (qv 0)) (qb q_int)) qs_nil))) qs_nil))))
    (qss_one (q_ret (q_eq (hu64 hr) (qb (qv 3)) (qb (q_call (ok_times C) hr (takes_of (by rfl) (by rfl) (by rfl) (by rfl)) (by decide) (by rfl) (qs_cons (q_call (ok_minus C) hr (takes_of (by rfl) (by rfl) (by rfl) (by rfl)) (by decide) (by rfl) (qs_cons (q_ix (qb (qv 2)) (qb q_int)) (qs_cons (q_ix (qb (qv 0)) (qb q_int)) qs_nil))) (qs_cons (q_call (ok_minus C) hr (takes_of (by rfl) (by rfl) (by rfl) (by rfl)) (by decide) (by rfl) (qs_cons (q_ix (qb (qv 1)) (qb q_int)) (qs_cons (q_ix (qb (qv 0)) (qb q_int)) qs_nil))) qs_nil))))))))
theorem ok_is_straight (C : Cn K mg) : Fn P w K mg base (tb K) 4 "is_straight" 3 F_is_straight := by
  obtain ⟨fd, F⟩ := C.d_is_straight
  exact Fn.mk_ (fn_ok (N := ["one", "other", "last", "first"]) (ps := ["one", "other", "last"]) F sc_is_straight (by decide) fun cdv A outer s H E hr => bo_is_straight C hr) C.g_is_straight F.kp (F.bindsN (ps := ["one", "other", "last"]) fun _ _ _ _ _ _ us hl => match us, hl with | [_, _, _], _ => rfl)
theorem bo_shortened (C : Cn K mg) {cdv : Value} {A : Around} {outer : List Env} {s : Shared} {H : Hp} {E : XK} (hr : Room 4 (A.deeper (envOfC "shortened" (defScope (top 35)) s.heap.objs.size (He.ga K "shortened") cdv))) :
    QSs (cxOf (L2.CX P w) P w K mg base ["points", "found", "point"] "shortened" (defScope (top 35)) (He.ga K "shortened") cdv A outer s H E) (tb K) (fun cls d _ H => E cls d H) (defBody (top 35)) b_shortened :=
  (qss_cons (q_setO (i := 1) sc_shortened.nd (by rfl) (by first | exact Or.inl rfl | exact Or.inr rfl) (q_lst qs_nil))
    (qss_cons (q_for (passes_of (by rfl)) (by rfl) (q_iSeq (qv 0)) (qg_name (i := 2) sc_shortened.nd) (qss_cons (q_while (fuel := fuel_shortened) (passes_of (by rfl)) (qw_pt (qw_and (qt_ge (qb (q_len (by rfl) C.n_len (qvB 1))) (qb q_int)) (qw_and1 (qt_val (q_call (ok_is_straight C) hr (takes_of (by rfl) (by rfl) (by rfl) (by rfl)) (by decide) (by rfl) (qs_cons (q_ix (qvB 1) (qb (q_neg (qb q_int)))) (qs_cons (q_ix (qvB 1) (qb (q_neg (qb q_int)))) (qs_cons (qv 2) qs_nil)))))))) (qss_one (q_meth0 (i := 1) PySem.F.plainAttrs_list PySem.F.slot_list_pop PySem.F.type_list_pop mt_pop om_pop)))
    (qss_one (q_meth (i := 1) PySem.F.plainAttrs_list PySem.F.slot_list_append PySem.F.type_list_append mt_append om_append (by rfl) (by first | exact Or.inl rfl | exact Or.inr (Or.inl rfl)) (qs_cons (qv 2) qs_nil)))))
    (qss_one (qs_frz (i := 1) (q_ret (qv 1))))))
theorem ok_shortened (C : Cn K mg) : Fn P w K mg base (tb K) 5 "shortened" 1 F_shortened := by
  obtain ⟨fd, F⟩ := C.d_shortened
  exact Fn.mk_ (fn_ok (N := ["points", "found", "point"]) (ps := ["points"]) F sc_shortened (by decide) fun cdv A outer s H E hr => bo_shortened C hr) C.g_shortened F.kp (F.bindsN (ps := ["points"]) fun _ _ _ _ _ _ us hl => match us, hl with | [_], _ => rfl)
theorem bo_shortest (C : Cn K mg) {cdv : Value} {A : Around} {outer : List Env} {s : Shared} {H : Hp} {E : XK} (hr : Room 7 (A.deeper (envOfC "shortest" (defScope (top 37)) s.heap.objs.size (He.ga K "shortest") cdv))) :
    QSs (cxOf (L2.CX P w) P w K mg base ["curve", "x", "y"] "shortest" (defScope (top 37)) (He.ga K "shortest") cdv A outer s H E) (tb K) (fun cls d _ H => E cls d H) (defBody (top 37)) b_shortest :=
  (qss_one (q_ret (q_make (ok_Curve_init C) hr (takes_of (by rfl) (by rfl) (by rfl) (by rfl)) (by decide) (by rfl) (qs_cons (q_tupleOf (by rfl) C.n_tuple (qb (qf (q_comp (by rfl) sc_shortest.nd (q_iSeq (q_call (ok_shortened C) hr (takes_of (by rfl) (by rfl) (by rfl) (by rfl)) (by decide) (by rfl) (qs_cons (q_call (ok_points_of C) hr (takes_of (by rfl) (by rfl) (by rfl) (by rfl)) (by decide) (by rfl) (qs_cons (qv 0) qs_nil)) qs_nil))) (blkOk_by (own := [("x", 1), ("y", 2)]) (by kernel_rfl)) (fun _ _ _ _ _ => (qg_tup (by rfl) (qgs_cons (qg_name (i := 1) sc_shortest.nd) (qgs_cons (qg_name (i := 2) sc_shortest.nd) qgs_nil)))) (fun _ _ _ _ _ => qts_nil) (fun _ _ _ _ _ => (q_tup (qs_cons (q_ix (qb (qv 1)) (qb q_int)) (qs_cons (q_ix (qb (qv 2)) (qb q_int)) qs_nil)))))))) qs_nil))))
theorem ok_shortest (C : Cn K mg) : Fn P w K mg base (tb K) 8 "shortest" 1 F_shortest := by
  obtain ⟨fd, F⟩ := C.d_shortest
  exact Fn.mk_ (fn_ok (N := ["curve", "x", "y"]) (ps := ["curve"]) F sc_shortest (by decide) fun cdv A outer s H E hr => bo_shortest C hr) C.g_shortest F.kp (F.bindsN (ps := ["curve"]) fun _ _ _ _ _ _ us hl => match us, hl with | [_], _ => rfl)
theorem bo_are_alike (C : Cn K mg) {cdv : Value} {A : Around} {outer : List Env} {s : Shared} {H : Hp} {E : XK} (hr : Room 8 (A.deeper (envOfC "are_alike" (defScope (top 38)) s.heap.objs.size (He.ga K "are_alike") cdv))) :
    QSs (cxOf (L2.CX P w) P w K mg base ["one", "other"] "are_alike" (defScope (top 38)) (He.ga K "are_alike") cdv A outer s H E) (tb K) (fun cls d _ H => E cls d H) (defBody (top 38)) b_are_alike :=
  (qss_one (q_ret (q_eqO (ok_Curve_eq C) hr (by decide) (q_call (ok_shortest C) hr (takes_of (by rfl) (by rfl) (by rfl) (by rfl)) (by decide) (by rfl) (qs_cons (qv 0) qs_nil)) (q_call (ok_shortest C) hr (takes_of (by rfl) (by rfl) (by rfl) (by rfl)) (by decide) (by rfl) (qs_cons (qv 1) qs_nil)))))
theorem ok_are_alike (C : Cn K mg) : Fn P w K mg base (tb K) 9 "are_alike" 2 F_are_alike := by
  obtain ⟨fd, F⟩ := C.d_are_alike
  exact Fn.mk_ (fn_ok (N := ["one", "other"]) (ps := ["one", "other"]) F sc_are_alike (by decide) fun cdv A outer s H E hr => bo_are_alike C hr) C.g_are_alike F.kp (F.bindsN (ps := ["one", "other"]) fun _ _ _ _ _ _ us hl => match us, hl with | [_, _], _ => rfl)
theorem bo_area_below (C : Cn K mg) {cdv : Value} {A : Around} {outer : List Env} {s : Shared} {H : Hp} {E : XK} (hr : Room 3 (A.deeper (envOfC "area_below" (defScope (top 43)) s.heap.objs.size (He.ga K "area_below") cdv))) :
    QSs (cxOf (L2.CX P w) P w K mg base ["curve", "found", "one", "other"] "area_below" (defScope (top 43)) (He.ga K "area_below") cdv A outer s H E) (tb K) (fun cls d _ H => E cls d H) (defBody (top 43)) b_area_below :=
  (qss_cons (q_set (i := 1) sc_area_below.nd (by rfl) (by first | exact Or.inl rfl | exact Or.inr rfl) (q_tup (qs_cons q_int (qs_cons q_int qs_nil))))
    (qss_cons (q_for (passes_of (by rfl)) (by rfl) (q_iZip (by rfl) C.n_zip (qs_cons (q_fldC (ixs := [(0, 0)]) C.isc (qb (qv 0))) (qs_cons (q_sliceA (qb (q_fldC (ixs := [(0, 0)]) C.isc (qb (qv 0)))) (qo_some q_int) qo_none) qs_nil))) (qg_tup (by rfl) (qgs_cons (qg_name (i := 2) sc_area_below.nd) (qgs_cons (qg_name (i := 3) sc_area_below.nd) qgs_nil))) (qss_one (q_set (i := 1) sc_area_below.nd (by rfl) (by first | exact Or.inl rfl | exact Or.inr rfl) (q_call (ok_plus C) hr (takes_of (by rfl) (by rfl) (by rfl) (by rfl)) (by decide) (by rfl) (qs_cons (qv 1) (qs_cons (q_call (ok_fraction C) hr (takes_of (by rfl) (by rfl) (by rfl) (by rfl)) (by decide) (by rfl) (qs_cons (q_mul (qb (q_sub (qb (q_ix (qb (qv 3)) (qb q_int))) (qb (q_ix (qb (qv 2)) (qb q_int))))) (qb (q_addA (qb (q_ix (qb (qv 2)) (qb q_int))) (qb (q_ix (qb (qv 3)) (qb q_int)))))) (qs_cons q_int qs_nil))) qs_nil))))))
    (qss_one (q_ret (qv 1)))))
theorem ok_area_below (C : Cn K mg) : Fn P w K mg base (tb K) 4 "area_below" 1 F_area_below := by
  obtain ⟨fd, F⟩ := C.d_area_below
  exact Fn.mk_ (fn_ok (N := ["curve", "found", "one", "other"]) (ps := ["curve"]) F sc_area_below (by decide) fun cdv A outer s H E hr => bo_area_below C hr) C.g_area_below F.kp (F.bindsN (ps := ["curve"]) fun _ _ _ _ _ _ us hl => match us, hl with | [_], _ => rfl)
theorem bo_floor (C : Cn K mg) {cdv : Value} {A : Around} {outer : List Env} {s : Shared} {H : Hp} {E : XK} (hr : Room 0 (A.deeper (envOfC "floor" (defScope (top 22)) s.heap.objs.size (He.ga K "floor") cdv))) :
    QSs (cxOf (L2.CX P w) P w K mg base ["one"] "floor" (defScope (top 22)) (He.ga K "floor") cdv A outer s H E) (tb K) (fun cls d _ H => E cls d H) (defBody (top 22)) b_floor :=
  (qss_one (q_ret (q_div (qb (q_ix (qb (qv 0)) (qb q_int))) (qb (q_ix (qb (qv 0)) (qb q_int))))))
theorem ok_floor (C : Cn K mg) : Fn P w K mg base (tb K) 1 "floor" 1 F_floor := by
  obtain ⟨fd, F⟩ := C.d_floor
  exact Fn.mk_ (fn_ok (N := ["one"]) (ps := ["one"]) F sc_floor (by decide) fun cdv A outer s H E hr => bo_floor C hr) C.g_floor F.kp (F.bindsN (ps := ["one"]) fun _ _ _ _ _ _ us hl => match us, hl with | [_], _ => rfl)
theorem bo_cut_off (C : Cn K mg) {cdv : Value} {A : Around} {outer : List Env} {s : Shared} {H : Hp} {E : XK} (hr : Room 5 (A.deeper (envOfC "cut_off" (defScope (top 46)) s.heap.objs.size (He.ga K "cut_off") cdv))) :
    QSs (cxOf (L2.CX P w) P w K mg base ["curve", "x"] "cut_off" (defScope (top 46)) (He.ga K "cut_off") cdv A outer s H E) (tb K) (fun cls d _ H => E cls d H) (defBody (top 46)) b_cut_off :=
  (qss_one (q_ret (q_tupleOf (by rfl) C.n_tuple (qb (qf (q_comp (by rfl) sc_cut_off.nd (q_iRng1 (by rfl) C.n_range (qs_cons (q_addA (qb (q_gintE C.i_TOP)) (qb q_int)) qs_nil)) (blkOk_by (own := [("x", 1)]) (by kernel_rfl)) (fun _ _ _ _ _ => (qg_name (i := 1) sc_cut_off.nd)) (fun _ _ _ _ _ => qts_nil) (fun _ _ _ _ _ => (q_call (ok_floor C) hr takes0 (by decide) (by rfl) (qs_cons (q_call (ok_value_at C) hr takes0 (by decide) (by rfl) (qs_cons (qv 0) (qs_cons (q_tup (qs_cons (qv 1) (qs_cons q_int qs_nil))) qs_nil))) qs_nil)))))))))
theorem ok_cut_off (C : Cn K mg) : Fn P w K mg base (tb K) 6 "cut_off" 1 F_cut_off := by
  obtain ⟨fd, F⟩ := C.d_cut_off
  exact Fn.mk_ (fn_ok (N := ["curve", "x"]) (ps := ["curve"]) F sc_cut_off (by decide) fun cdv A outer s H E hr => bo_cut_off C hr) C.g_cut_off F.kp (F.bindsN (ps := ["curve"]) fun _ _ _ _ _ _ us hl => match us, hl with | [_], _ => rfl)
theorem bo_in_order (C : Cn K mg) {cdv : Value} {A : Around} {outer : List Env} {s : Shared} {H : Hp} {E : XK} (hr : Room 1 (A.deeper (envOfC "in_order" (defScope (top 23)) s.heap.objs.size (He.ga K "in_order") cdv))) :
    QSs (cxOf (L2.CX P w) P w K mg base ["fractions", "found", "one", "place"] "in_order" (defScope (top 23)) (He.ga K "in_order") cdv A outer s H E) (tb K) (fun cls d _ H => E cls d H) (defBody (top 23)) b_in_order :=
  (qss_cons (q_setO (i := 1) sc_in_order.nd (by rfl) (by first | exact Or.inl rfl | exact Or.inr rfl) (q_lst qs_nil))
    (qss_cons (q_for (passes_of (by rfl)) (by rfl) (q_iSeq (qv 0)) (qg_name (i := 2) sc_in_order.nd) (qss_cons (q_set (i := 3) sc_in_order.nd (by rfl) (by first | exact Or.inl rfl | exact Or.inr rfl) q_int)
    (qss_cons (q_while (fuel := fuel_in_order) (passes_of (by rfl)) (qw_pt (qw_and (qt_lt (qb (qv 3)) (qb (q_len (by rfl) C.n_len (qvB 1)))) (qw_and1 (qt_val (q_call (ok_is_less C) hr (takes_of (by rfl) (by rfl) (by rfl) (by rfl)) (by decide) (by rfl) (qs_cons (q_ix (qvB 1) (qb (qv 3))) (qs_cons (qv 2) qs_nil))))))) (qss_one (q_aug (i := 3) sc_in_order.nd ip_add q_int)))
    (qss_one (q_ifS (qw_pt (qw_or (qt_eq (hu64 hr) (qb (qv 3)) (qb (q_len (by rfl) C.n_len (qvB 1)))) (qw_or1 (qt_ne (hu64 hr) (qb (q_ix (qvB 1) (qb (qv 3)))) (qb (qv 2)))))) (qss_one (q_meth (i := 1) PySem.F.plainAttrs_list PySem.F.slot_list_insert PySem.F.type_list_insert mt_insert om_insert (by rfl) (by first | exact Or.inl rfl | exact Or.inr (Or.inl rfl)) (qs_cons (qv 3) (qs_cons (qv 2) qs_nil)))) qss_nil)))))
    (qss_one (qs_frz (i := 1) (q_ret (qv 1))))))
theorem ok_in_order (C : Cn K mg) : Fn P w K mg base (tb K) 2 "in_order" 1 F_in_order := by
  obtain ⟨fd, F⟩ := C.d_in_order
  exact Fn.mk_ (fn_ok (N := ["fractions", "found", "one", "place"]) (ps := ["fractions"]) F sc_in_order (by decide) fun cdv A outer s H E hr => bo_in_order C hr) C.g_in_order F.kp (F.bindsN (ps := ["fractions"]) fun _ _ _ _ _ _ us hl => match us, hl with | [_], _ => rfl)
theorem bo_greatest_gap (C : Cn K mg) {cdv : Value} {A : Around} {outer : List Env} {s : Shared} {H : Hp} {E : XK} (hr : Room 5 (A.deeper (envOfC "greatest_gap" (defScope (top 44)) s.heap.objs.size (He.ga K "greatest_gap") cdv))) :
    QSs (cxOf (L2.CX P w) P w K mg base ["one", "other", "found", "x", "gap", "y"] "greatest_gap" (defScope (top 44)) (He.ga K "greatest_gap") cdv A outer s H E) (tb K) (fun cls d _ H => E cls d H) (defBody (top 44)) b_greatest_gap :=
  (qss_cons (q_set (i := 2) sc_greatest_gap.nd (by rfl) (by first | exact Or.inl rfl | exact Or.inr rfl) (q_tup (qs_cons q_int (qs_cons q_int qs_nil))))
    (qss_cons (q_for (passes_of (by rfl)) (by rfl) (q_iSeq (q_call (ok_in_order C) hr (takes_of (by rfl) (by rfl) (by rfl) (by rfl)) (by decide) (by rfl) (qs_cons (qf (q_comp (by rfl) sc_greatest_gap.nd (q_iSeq (q_addA (qb (q_fldC (ixs := [(0, 0)]) C.isc (qb (qv 0)))) (qb (q_fldC (ixs := [(0, 0)]) C.isc (qb (qv 1)))))) (blkOk_by (own := [("x", 3), ("y", 5)]) (by kernel_rfl)) (fun _ _ _ _ _ => (qg_tup (by rfl) (qgs_cons (qg_name (i := 3) sc_greatest_gap.nd) (qgs_cons (qg_name (i := 5) sc_greatest_gap.nd) qgs_nil)))) (fun _ _ _ _ _ => qts_nil) (fun _ _ _ _ _ => (q_tup (qs_cons (qv 3) (qs_cons q_int qs_nil)))))) qs_nil))) (qg_name (i := 3) sc_greatest_gap.nd) (qss_cons (q_set (i := 4) sc_greatest_gap.nd (by rfl) (by first | exact Or.inl rfl | exact Or.inr rfl) (q_call (ok_minus C) hr (takes_of (by rfl) (by rfl) (by rfl) (by rfl)) (by decide) (by rfl) (qs_cons (q_call (ok_value_at C) hr (takes_of (by rfl) (by rfl) (by rfl) (by rfl)) (by decide) (by rfl) (qs_cons (qv 0) (qs_cons (qv 3) qs_nil))) (qs_cons (q_call (ok_value_at C) hr (takes_of (by rfl) (by rfl) (by rfl) (by rfl)) (by decide) (by rfl) (qs_cons (qv 1) (qs_cons (qv 3) qs_nil))) qs_nil))))
    (qss_cons (q_set (i := 4) sc_greatest_gap.nd (by rfl) (by first | exact Or.inl rfl | exact Or.inr rfl) (q_if (qt_ge (qb (q_ix (qb (qv 4)) (qb q_int))) (qb q_int)) (qv 4) (q_tup (qs_cons (q_sub (qb q_int) (qb (q_ix (qb (qv 4)) (qb q_int)))) (qs_cons (q_ix (qb (qv 4)) (qb q_int)) qs_nil)))))
    (qss_one (q_set (i := 2) sc_greatest_gap.nd (by rfl) (by first | exact Or.inl rfl | exact Or.inr rfl) (q_if (qt_val (q_call (ok_is_less C) hr (takes_of (by rfl) (by rfl) (by rfl) (by rfl)) (by decide) (by rfl) (qs_cons (qv 2) (qs_cons (qv 4) qs_nil)))) (qv 4) (qv 2)))))))
    (qss_one (q_ret (qv 2)))))
theorem ok_greatest_gap (C : Cn K mg) : Fn P w K mg base (tb K) 6 "greatest_gap" 2 F_greatest_gap := by
  obtain ⟨fd, F⟩ := C.d_greatest_gap
  exact Fn.mk_ (fn_ok (N := ["one", "other", "found", "x", "gap", "y"]) (ps := ["one", "other"]) F sc_greatest_gap (by decide) fun cdv A outer s H E hr => bo_greatest_gap C hr) C.g_greatest_gap F.kp (F.bindsN (ps := ["one", "other"]) fun _ _ _ _ _ _ us hl => match us, hl with | [_, _], _ => rfl)
theorem bo_is_rising (C : Cn K mg) {cdv : Value} {A : Around} {outer : List Env} {s : Shared} {H : Hp} {E : XK} (hr : Room 0 (A.deeper (envOfC "is_rising" (defScope (top 40)) s.heap.objs.size (He.ga K "is_rising") cdv))) :
    QSs (cxOf (L2.CX P w) P w K mg base ["curve", "one", "other"] "is_rising" (defScope (top 40)) (He.ga K "is_rising") cdv A outer s H E) (tb K) (fun cls d _ H => E cls d H) (defBody (top 40)) b_is_rising :=
  (qss_one (q_ret (q_all (by rfl) (by rfl) C.n_all (qb (qf (q_comp (by rfl) sc_is_rising.nd (q_iZip (by rfl) C.n_zip (qs_cons (q_fldC (ixs := [(0, 0)]) C.isc (qb (qv 0))) (qs_cons (q_sliceA (qb (q_fldC (ixs := [(0, 0)]) C.isc (qb (qv 0)))) (qo_some q_int) qo_none) qs_nil))) (blkOk_by (own := [("one", 1), ("other", 2)]) (by kernel_rfl)) (fun _ _ _ _ _ => (qg_tup (by rfl) (qgs_cons (qg_name (i := 1) sc_is_rising.nd) (qgs_cons (qg_name (i := 2) sc_is_rising.nd) qgs_nil)))) (fun _ _ _ _ _ => qts_nil) (fun _ _ _ _ _ => (q_lt (qb (q_ix (qb (qv 1)) (qb q_int))) (qb (q_ix (qb (qv 2)) (qb q_int)))))))))))
theorem ok_is_rising (C : Cn K mg) : Fn P w K mg base (tb K) 1 "is_rising" 1 F_is_rising := by
  obtain ⟨fd, F⟩ := C.d_is_rising
  exact Fn.mk_ (fn_ok (N := ["curve", "one", "other"]) (ps := ["curve"]) F sc_is_rising (by decide) fun cdv A outer s H E hr => bo_is_rising C hr) C.g_is_rising F.kp (F.bindsN (ps := ["curve"]) fun _ _ _ _ _ _ us hl => match us, hl with | [_], _ => rfl)
theorem bo_preimage (C : Cn K mg) {cdv : Value} {A : Around} {outer : List Env} {s : Shared} {H : Hp} {E : XK} (hr : Room 4 (A.deeper (envOfC "preimage" (defScope (top 41)) s.heap.objs.size (He.ga K "preimage") cdv))) :
    QSs (cxOf (L2.CX P w) P w K mg base ["curve", "level", "points", "ends", "x", "y", "next_x", "next_y", "part"] "preimage" (defScope (top 41)) (He.ga K "preimage") cdv A outer s H E) (tb K) (fun cls d _ H => E cls d H) (defBody (top 41)) b_preimage :=
  (qss_cons (q_expr (q_call (ok_require_level C) hr (takes_of (by rfl) (by rfl) (by rfl) (by rfl)) (by decide) (by rfl) (qs_cons (qv 1) qs_nil)))
    (qss_cons (q_set (i := 2) sc_preimage.nd (by rfl) (by first | exact Or.inl rfl | exact Or.inr rfl) (q_call (ok_points_of C) hr (takes_of (by rfl) (by rfl) (by rfl) (by rfl)) (by decide) (by rfl) (qs_cons (qv 0) qs_nil)))
    (qss_cons (q_ifS (qw_pt (qw_or (qt_val (q_call (ok_is_less C) hr (takes_of (by rfl) (by rfl) (by rfl) (by rfl)) (by decide) (by rfl) (qs_cons (qv 1) (qs_cons (q_ix (qb (q_ix (qb (qv 2)) (qb q_int))) (qb q_int)) qs_nil)))) (qw_or1 (qt_val (q_call (ok_is_less C) hr (takes_of (by rfl) (by rfl) (by rfl) (by rfl)) (by decide) (by rfl) (qs_cons (q_ix (qb (q_ix (qb (qv 2)) (qb (q_neg (qb q_int))))) (qb q_int)) (qs_cons (qv 1) qs_nil))))))) (qss_one (q_ret q_non)) qss_nil)
    (qss_cons (q_setCompO (i := 3) (by rfl) sc_preimage.nd (by rfl) (q_iSeq (qv 2)) (blkOk_by (own := [("x", 4), ("y", 5)]) (by kernel_rfl)) (fun _ _ _ _ _ => (qg_tup (by rfl) (qgs_cons (qg_name (i := 4) sc_preimage.nd) (qgs_cons (qg_name (i := 5) sc_preimage.nd) qgs_nil)))) (fun _ _ _ _ _ => (qts_one (qt_eq (hu64 hr) (qb (qv 5)) (qb (qv 1))))) (fun _ _ _ _ _ => (qv 4)))
    (qss_cons (q_for (passes_of (by rfl)) (by rfl) (q_iZip (by rfl) C.n_zip (qs_cons (qv 2) (qs_cons (q_sliceA (qb (qv 2)) (qo_some q_int) qo_none) qs_nil))) (qg_tup (by rfl) (qgs_cons (qg_tup (by rfl) (qgs_cons (qg_name (i := 4) sc_preimage.nd) (qgs_cons (qg_name (i := 5) sc_preimage.nd) qgs_nil))) (qgs_cons (qg_tup (by rfl) (qgs_cons (qg_name (i := 6) sc_preimage.nd) (qgs_cons (qg_name (i := 7) sc_preimage.nd) qgs_nil))) qgs_nil))) (qss_one (q_ifS (qw_pt (qw_and (qt_val (q_call (ok_is_less C) hr (takes_of (by rfl) (by rfl) (by rfl) (by rfl)) (by decide) (by rfl) (qs_cons (qv 5) (qs_cons (qv 1) qs_nil)))) (qw_and1 (qt_val (q_call (ok_is_less C) hr (takes_of (by rfl) (by rfl) (by rfl) (by rfl)) (by decide) (by rfl) (qs_cons (qv 1) (qs_cons (qv 7) qs_nil))))))) (qss_cons (q_set (i := 8) sc_preimage.nd (by rfl) (by first | exact Or.inl rfl | exact Or.inr rfl) (q_call (ok_by C) hr (takes_of (by rfl) (by rfl) (by rfl) (by rfl)) (by decide) (by rfl) (qs_cons (q_call (ok_minus C) hr (takes_of (by rfl) (by rfl) (by rfl) (by rfl)) (by decide) (by rfl) (qs_cons (qv 1) (qs_cons (qv 5) qs_nil))) (qs_cons (q_call (ok_minus C) hr (takes_of (by rfl) (by rfl) (by rfl) (by rfl)) (by decide) (by rfl) (qs_cons (qv 7) (qs_cons (qv 5) qs_nil))) qs_nil))))
    (qss_one (q_meth (i := 3) PySem.F.plainAttrs_list PySem.F.slot_list_append PySem.F.type_list_append mt_append om_append (by rfl) (by first | exact Or.inl rfl | exact Or.inr (Or.inl rfl)) (qs_cons (q_call (ok_plus C) hr (takes_of (by rfl) (by rfl) (by rfl) (by rfl)) (by decide) (by rfl) (qs_cons (qv 4) (qs_cons (q_call (ok_times C) hr (takes_of (by rfl) (by rfl) (by rfl) (by rfl)) (by decide) (by rfl) (qs_cons (qv 8) (qs_cons (q_call (ok_minus C) hr (takes_of (by rfl) (by rfl) (by rfl) (by rfl)) (by decide) (by rfl) (qs_cons (qv 6) (qs_cons (qv 4) qs_nil))) qs_nil))) qs_nil))) qs_nil)))) qss_nil)))
    (qss_cons (qs_frz (i := 3) (q_set (i := 3) sc_preimage.nd (by rfl) (by first | exact Or.inl rfl | exact Or.inr rfl) (q_call (ok_in_order C) hr (takes_of (by rfl) (by rfl) (by rfl) (by rfl)) (by decide) (by rfl) (qs_cons (qv 3) qs_nil))))
    (qss_one (q_ret (q_tup (qs_cons (q_ix (qvB 3) (qb q_int)) (qs_cons (q_ix (qvB 3) (qb (q_neg (qb q_int)))) qs_nil)))))))))))
theorem ok_preimage (C : Cn K mg) : Fn P w K mg base (tb K) 5 "preimage" 2 F_preimage := by
  obtain ⟨fd, F⟩ := C.d_preimage
  exact Fn.mk_ (fn_ok (N := ["curve", "level", "points", "ends", "x", "y", "next_x", "next_y", "part"]) (ps := ["curve", "level"]) F sc_preimage (by decide) fun cdv A outer s H E hr => bo_preimage C hr) C.g_preimage F.kp (F.bindsN (ps := ["curve", "level"]) fun _ _ _ _ _ _ us hl => match us, hl with | [_, _], _ => rfl)
theorem bo_nearest_whole (C : Cn K mg) {cdv : Value} {A : Around} {outer : List Env} {s : Shared} {H : Hp} {E : XK} (hr : Room 0 (A.deeper (envOfC "nearest_whole" (defScope (top 21)) s.heap.objs.size (He.ga K "nearest_whole") cdv))) :
    QSs (cxOf (L2.CX P w) P w K mg base ["one"] "nearest_whole" (defScope (top 21)) (He.ga K "nearest_whole") cdv A outer s H E) (tb K) (fun cls d _ H => E cls d H) (defBody (top 21)) b_nearest_whole :=
  (qss_one (q_ret (q_neg (qb (q_div (qb (q_sub (qb (q_ix (qb (qv 0)) (qb q_int))) (qb (q_mul (qb q_int) (qb (q_ix (qb (qv 0)) (qb q_int))))))) (qb (q_mul (qb q_int) (qb (q_ix (qb (qv 0)) (qb q_int))))))))))
theorem ok_nearest_whole (C : Cn K mg) : Fn P w K mg base (tb K) 1 "nearest_whole" 1 F_nearest_whole := by
  obtain ⟨fd, F⟩ := C.d_nearest_whole
  exact Fn.mk_ (fn_ok (N := ["one"]) (ps := ["one"]) F sc_nearest_whole (by decide) fun cdv A outer s H E hr => bo_nearest_whole C hr) C.g_nearest_whole F.kp (F.bindsN (ps := ["one"]) fun _ _ _ _ _ _ us hl => match us, hl with | [_], _ => rfl)
theorem bo_rounded (C : Cn K mg) {cdv : Value} {A : Around} {outer : List Env} {s : Shared} {H : Hp} {E : XK} (hr : Room 5 (A.deeper (envOfC "rounded" (defScope (top 45)) s.heap.objs.size (He.ga K "rounded") cdv))) :
    QSs (cxOf (L2.CX P w) P w K mg base ["curve", "x"] "rounded" (defScope (top 45)) (He.ga K "rounded") cdv A outer s H E) (tb K) (fun cls d _ H => E cls d H) (defBody (top 45)) b_rounded :=
  (qss_one (q_ret (q_tupleOf (by rfl) C.n_tuple (qb (qf (q_comp (by rfl) sc_rounded.nd (q_iRng1 (by rfl) C.n_range (qs_cons (q_addA (qb (q_gintE C.i_TOP)) (qb q_int)) qs_nil)) (blkOk_by (own := [("x", 1)]) (by kernel_rfl)) (fun _ _ _ _ _ => (qg_name (i := 1) sc_rounded.nd)) (fun _ _ _ _ _ => qts_nil) (fun _ _ _ _ _ => (q_call (ok_nearest_whole C) hr takes0 (by decide) (by rfl) (qs_cons (q_call (ok_value_at C) hr takes0 (by decide) (by rfl) (qs_cons (qv 0) (qs_cons (q_tup (qs_cons (qv 1) (qs_cons q_int qs_nil))) qs_nil))) qs_nil)))))))))
theorem ok_rounded (C : Cn K mg) : Fn P w K mg base (tb K) 6 "rounded" 1 F_rounded := by
  obtain ⟨fd, F⟩ := C.d_rounded
  exact Fn.mk_ (fn_ok (N := ["curve", "x"]) (ps := ["curve"]) F sc_rounded (by decide) fun cdv A outer s H E hr => bo_rounded C hr) C.g_rounded F.kp (F.bindsN (ps := ["curve"]) fun _ _ _ _ _ _ us hl => match us, hl with | [_], _ => rfl)
theorem bo_steepest (C : Cn K mg) {cdv : Value} {A : Around} {outer : List Env} {s : Shared} {H : Hp} {E : XK} (hr : Room 2 (A.deeper (envOfC "steepest" (defScope (top 42)) s.heap.objs.size (He.ga K "steepest") cdv))) :
    QSs (cxOf (L2.CX P w) P w K mg base ["curve", "slopes", "found", "slope", "one", "other"] "steepest" (defScope (top 42)) (He.ga K "steepest") cdv A outer s H E) (tb K) (fun cls d _ H => E cls d H) (defBody (top 42)) b_steepest :=
  (qss_cons (q_setComp (i := 1) (by rfl) sc_steepest.nd (by rfl) (q_iZip (by rfl) C.n_zip (qs_cons (q_fldC (ixs := [(0, 0)]) C.isc (qb (qv 0))) (qs_cons (q_sliceA (qb (q_fldC (ixs := [(0, 0)]) C.isc (qb (qv 0)))) (qo_some q_int) qo_none) qs_nil))) (blkOk_by (own := [("one", 4), ("other", 5)]) (by kernel_rfl)) (fun _ _ _ _ _ => (qg_tup (by rfl) (qgs_cons (qg_name (i := 4) sc_steepest.nd) (qgs_cons (qg_name (i := 5) sc_steepest.nd) qgs_nil)))) (fun _ _ _ _ _ => qts_nil) (fun _ _ _ _ _ => (q_call (ok_fraction C) hr takes0 (by decide) (by rfl) (qs_cons (q_sub (qb (q_ix (qb (qv 5)) (qb q_int))) (qb (q_ix (qb (qv 4)) (qb q_int)))) (qs_cons (q_sub (qb (q_ix (qb (qv 5)) (qb q_int))) (qb (q_ix (qb (qv 4)) (qb q_int)))) qs_nil)))))
    (qss_cons (q_set (i := 2) sc_steepest.nd (by rfl) (by first | exact Or.inl rfl | exact Or.inr rfl) (q_ix (qb (qv 1)) (qb q_int)))
    (qss_cons (q_for (passes_of (by rfl)) (by rfl) (q_iSeq (q_sliceA (qb (qv 1)) (qo_some q_int) qo_none)) (qg_name (i := 3) sc_steepest.nd) (qss_one (q_set (i := 2) sc_steepest.nd (by rfl) (by first | exact Or.inl rfl | exact Or.inr rfl) (q_if (qt_val (q_call (ok_is_less C) hr (takes_of (by rfl) (by rfl) (by rfl) (by rfl)) (by decide) (by rfl) (qs_cons (qv 2) (qs_cons (qv 3) qs_nil)))) (qv 3) (qv 2)))))
    (qss_one (q_ret (qv 2))))))
theorem ok_steepest (C : Cn K mg) : Fn P w K mg base (tb K) 3 "steepest" 1 F_steepest := by
  obtain ⟨fd, F⟩ := C.d_steepest
  exact Fn.mk_ (fn_ok (N := ["curve", "slopes", "found", "slope", "one", "other"]) (ps := ["curve"]) F sc_steepest (by decide) fun cdv A outer s H E hr => bo_steepest C hr) C.g_steepest F.kp (F.bindsN (ps := ["curve"]) fun _ _ _ _ _ _ us hl => match us, hl with | [_], _ => rfl)
theorem bo_law (C : Cn K mg) {cdv : Value} {A : Around} {outer : List Env} {s : Shared} {H : Hp} {E : XK} (hr : Room 9 (A.deeper (envOfC "law" (defScope (top 62)) s.heap.objs.size (He.ga K "law") cdv))) :
    QSs (cxOf (L2.CX P w) P w K mg base ["script", "row", "turn", "knots", "curve", "values", "k", "level", "short", "kept", "rise", "run_on", "other", "rivals", "unlike", "gap", "steep", "below", "x", "here", "slope", "told", "rising", "round_now", "found", "is_there", "first", "last", "step", "one"] "law" (defScope (top 62)) (He.ga K "law") cdv A outer s H E) (tb K) (fun cls d _ H => E cls d H) (defBody (top 62)) b_law :=
  (qss_cons (q_cell (i := 1) sc_law.nd (by rfl) (.inl (by rfl)) (q_lst (qs_cons (qv 0) (qs_cons q_int (qs_cons q_int (qs_cons q_int qs_nil))))))
    (qss_cons (q_for (passes_of (by rfl)) (by rfl) (q_iRng1 (by rfl) C.n_range (qs_cons q_int qs_nil)) (qg_name (i := 2) sc_law.nd) (qss_cons (q_set (i := 3) sc_law.nd (by rfl) (by first | exact Or.inl rfl | exact Or.inr rfl) (q_call (ok__law_knots C) hr (takes_of (by rfl) (by rfl) (by rfl) (by rfl)) (by decide) (by rfl) (qs_cons (qv 1) qs_nil)))
    (qss_cons (q_pt (q_tup (qs_cons (q_make (ok_Curve_init C) hr (takes_of (by rfl) (by rfl) (by rfl) (by rfl)) (by decide) (by rfl) (qs_cons (qv 3) qs_nil)) (qs_cons (qf (q_comp (by rfl) sc_law.nd (q_iRng1 (by rfl) C.n_range (qs_cons q_int qs_nil)) (blkOk_by (own := [("x", 18)]) (by kernel_rfl)) (fun _ _ _ _ _ => (qg_name (i := 18) sc_law.nd)) (fun _ _ _ _ _ => qts_nil) (fun _ _ _ _ _ => (q_call (ok__law_curve_at C) hr takes0 (by decide) (by rfl) (qs_cons (qv 3) (qs_cons (q_tup (qs_cons (qv 18) (qs_cons q_int qs_nil))) qs_nil)))))) qs_nil))) (qg_tup (by rfl) (qgs_cons (qg_name (i := 4) sc_law.nd) (qgs_cons (qg_name (i := 5) sc_law.nd) qgs_nil))))
    (qss_cons (q_ifS (qt_not (qt_val (q_call (ok__law_alike C 4) hr (takes_of (by rfl) (by rfl) (by rfl) (by rfl)) (by decide) (by rfl) (qs_cons (q_fldC (ixs := [(0, 0)]) C.isc (qb (qv 4))) (qs_cons (qv 3) qs_nil))))) (qss_one (q_ret q_bl)) qss_nil)
    (qss_cons (q_for (passes_of (by rfl)) (by rfl) (q_iRng1 (by rfl) C.n_range (qs_cons q_int qs_nil)) (qg_name (i := 6) sc_law.nd) (qss_cons (q_set (i := 7) sc_law.nd (by rfl) (by first | exact Or.inl rfl | exact Or.inr rfl) (q_call (ok__law_level C) hr (takes_of (by rfl) (by rfl) (by rfl) (by rfl)) (by decide) (by rfl) (qs_cons (qv 1) qs_nil)))
    (qss_one (q_ifS (qt_not (qt_val (q_call (ok__law_alike C 4) hr (takes_of (by rfl) (by rfl) (by rfl) (by rfl)) (by decide) (by rfl) (qs_cons (q_call (ok_value_at C) hr (takes_of (by rfl) (by rfl) (by rfl) (by rfl)) (by decide) (by rfl) (qs_cons (qv 4) (qs_cons (qv 7) qs_nil))) (qs_cons (q_call (ok__law_curve_at C) hr (takes_of (by rfl) (by rfl) (by rfl) (by rfl)) (by decide) (by rfl) (qs_cons (qv 3) (qs_cons (qv 7) qs_nil))) qs_nil))))) (qss_one (q_ret q_bl)) qss_nil))))
    (qss_cons (q_par (i := 8) (j := 9) (by rfl) sc_law.nd (qx_val (q_fldC (ixs := [(0, 0)]) C.isc (qb (q_call (ok_shortest C) hr (takes_of (by rfl) (by rfl) (by rfl) (by rfl)) (by decide) (by rfl) (qs_cons (qv 4) qs_nil)))) (qx_own (q_lst (qs_cons (q_ix (qb (qv 3)) (qb q_int)) qs_nil)) qx_nil)))
    (qss_cons (q_for (passes_of (by rfl)) (by rfl) (q_iRng2 (by rfl) C.n_range (qs_cons q_int (qs_cons (q_sub (qb (q_len (by rfl) C.n_len (qb (qv 3)))) (qb q_int)) qs_nil))) (qg_name (i := 6) sc_law.nd) (qss_cons (q_par (i := 10) (j := 11) (by rfl) sc_law.nd (qx_val (q_sub (qb (q_ix (qb (q_ix (qb (qv 3)) (qb (qv 6)))) (qb q_int))) (qb (q_ix (qb (q_ix (qb (qv 3)) (qb (q_sub (qb (qv 6)) (qb q_int))))) (qb q_int)))) (qx_val (q_sub (qb (q_ix (qb (q_ix (qb (qv 3)) (qb (qv 6)))) (qb q_int))) (qb (q_ix (qb (q_ix (qb (qv 3)) (qb (q_sub (qb (qv 6)) (qb q_int))))) (qb q_int)))) qx_nil)))
    (qss_one (q_ifS (qt_ne (hu64 hr) (qb (q_mul (qb (qv 10)) (qb (q_sub (qb (q_ix (qb (q_ix (qb (qv 3)) (qb (q_addA (qb (qv 6)) (qb q_int))))) (qb q_int))) (qb (q_ix (qb (q_ix (qb (qv 3)) (qb (qv 6)))) (qb q_int))))))) (qb (q_mul (qb (q_sub (qb (q_ix (qb (q_ix (qb (qv 3)) (qb (q_addA (qb (qv 6)) (qb q_int))))) (qb q_int))) (qb (q_ix (qb (q_ix (qb (qv 3)) (qb (qv 6)))) (qb q_int))))) (qb (qv 11))))) (qss_one (q_meth (i := 9) PySem.F.plainAttrs_list PySem.F.slot_list_append PySem.F.type_list_append mt_append om_append (by rfl) (by first | exact Or.inl rfl | exact Or.inr (Or.inl rfl)) (qs_cons (q_ix (qb (qv 3)) (qb (qv 6))) qs_nil))) qss_nil))))
    (qss_cons (q_ifS (qt_not (qt_val (q_call (ok__law_alike C 4) hr (takes_of (by rfl) (by rfl) (by rfl) (by rfl)) (by decide) (by rfl) (qs_cons (qv 8) (qs_cons (q_tupleOf (by rfl) C.n_tuple (qb (q_addA (qvB 9) (qb (qf (q_lst (qs_cons (q_ix (qb (qv 3)) (qb (q_neg (qb q_int)))) qs_nil))))))) qs_nil))))) (qss_one (q_ret q_bl)) qss_nil)
    (qss_cons (q_set (i := 12) sc_law.nd (by rfl) (by first | exact Or.inl rfl | exact Or.inr rfl) (q_call (ok__law_pick C) hr (takes_of (by rfl) (by rfl) (by rfl) (by rfl)) (by decide) (by rfl) (qs_cons (qv 1) (qs_cons (qf (q_lst (qs_cons (qv 3) (qs_cons (qv 8) (qs_cons (q_call (ok__law_knots C) hr (takes_of (by rfl) (by rfl) (by rfl) (by rfl)) (by decide) (by rfl) (qs_cons (qv 1) qs_nil)) (qs_cons (q_addA (qb (q_sliceA (qb (qv 3)) qo_none (qo_some (q_neg (qb q_int))))) (qb (q_tup (qs_cons (q_tup (qs_cons q_int (qs_cons (q_min2 (by rfl) (by rfl) C.n_min (qb q_int) (qb (q_addA (qb (q_ix (qb (q_ix (qb (qv 3)) (qb (q_neg (qb q_int))))) (qb q_int))) (qb q_int)))) qs_nil))) qs_nil)))) qs_nil)))))) qs_nil))))
    (qss_cons (q_set (i := 13) sc_law.nd (by rfl) (by first | exact Or.inl rfl | exact Or.inr rfl) (qf (q_comp (by rfl) sc_law.nd (q_iRng1 (by rfl) C.n_range (qs_cons q_int qs_nil)) (blkOk_by (own := [("x", 18)]) (by kernel_rfl)) (fun _ _ _ _ _ => (qg_name (i := 18) sc_law.nd)) (fun _ _ _ _ _ => qts_nil) (fun _ _ _ _ _ => (q_call (ok__law_curve_at C) hr takes0 (by decide) (by rfl) (qs_cons (qv 12) (qs_cons (q_tup (qs_cons (qv 18) (qs_cons q_int qs_nil))) qs_nil)))))))
    (qss_cons (q_setComp (i := 14) (by rfl) sc_law.nd (by rfl) (q_iRng1 (by rfl) C.n_range (qs_cons q_int qs_nil)) (blkOk_by (own := [("x", 18)]) (by kernel_rfl)) (fun _ _ _ _ _ => (qg_name (i := 18) sc_law.nd)) (fun _ _ _ _ _ => (qts_one (qt_ne (hu64 hr) (qb (q_ix (qb (qv 13)) (qb (qv 18)))) (qb (q_ix (qb (qv 5)) (qb (qv 18))))))) (fun _ _ _ _ _ => (qv 18)))
    (qss_cons (q_ifS (qt_not (qt_val (q_call (ok__law_alike C 4) hr (takes_of (by rfl) (by rfl) (by rfl) (by rfl)) (by decide) (by rfl) (qs_cons (q_tup (qs_cons (q_call (ok_are_alike C) hr (takes_of (by rfl) (by rfl) (by rfl) (by rfl)) (by decide) (by rfl) (qs_cons (qv 4) (qs_cons (q_make (ok_Curve_init C) hr (takes_of (by rfl) (by rfl) (by rfl) (by rfl)) (by decide) (by rfl) (qs_cons (qv 12) qs_nil)) qs_nil))) (qs_cons (q_call (ok_apart C) hr (takes_of (by rfl) (by rfl) (by rfl) (by rfl)) (by decide) (by rfl) (qs_cons (qv 4) (qs_cons (q_make (ok_Curve_init C) hr (takes_of (by rfl) (by rfl) (by rfl) (by rfl)) (by decide) (by rfl) (qs_cons (qv 12) qs_nil)) qs_nil))) qs_nil))) (qs_cons (q_tup (qs_cons (q_eq (hu64 hr) (qb (qv 14)) (qb (qf (q_lst qs_nil)))) (qs_cons (q_if (qt_ne (hu64 hr) (qb (qv 14)) (qb (qf (q_lst qs_nil)))) (q_ix (qb (qv 14)) (qb q_int)) q_non) qs_nil))) qs_nil))))) (qss_one (q_ret q_bl)) qss_nil)
    (qss_cons (q_pt (q_tup (qs_cons (q_tup (qs_cons q_int (qs_cons q_int qs_nil))) (qs_cons (q_tup (qs_cons q_int (qs_cons q_int qs_nil))) (qs_cons (q_tup (qs_cons q_int (qs_cons q_int qs_nil))) qs_nil)))) (qg_tup (by rfl) (qgs_cons (qg_name (i := 15) sc_law.nd) (qgs_cons (qg_name (i := 16) sc_law.nd) (qgs_cons (qg_name (i := 17) sc_law.nd) qgs_nil)))))
    (qss_cons (q_for (passes_of (by rfl)) (by rfl) (q_iRng1 (by rfl) C.n_range (qs_cons q_int qs_nil)) (qg_name (i := 18) sc_law.nd) (qss_cons (q_set (i := 19) sc_law.nd (by rfl) (by first | exact Or.inl rfl | exact Or.inr rfl) (q_call (ok__law_sub C) hr (takes_of (by rfl) (by rfl) (by rfl) (by rfl)) (by decide) (by rfl) (qs_cons (q_ix (qb (qv 5)) (qb (qv 18))) (qs_cons (q_ix (qb (qv 13)) (qb (qv 18))) qs_nil))))
    (qss_cons (q_set (i := 19) sc_law.nd (by rfl) (by first | exact Or.inl rfl | exact Or.inr rfl) (q_tup (qs_cons (q_abs (by rfl) C.n_abs (qb (q_ix (qb (qv 19)) (qb q_int)))) (qs_cons (q_ix (qb (qv 19)) (qb q_int)) qs_nil))))
    (qss_one (q_set (i := 15) sc_law.nd (by rfl) (by first | exact Or.inl rfl | exact Or.inr rfl) (q_if (qt_val (q_call (ok__law_lt C) hr (takes_of (by rfl) (by rfl) (by rfl) (by rfl)) (by decide) (by rfl) (qs_cons (qv 15) (qs_cons (qv 19) qs_nil)))) (qv 19) (qv 15)))))))
    (qss_cons (q_for (passes_of (by rfl)) (by rfl) (q_iRng1 (by rfl) C.n_range (qs_cons (q_sub (qb (q_len (by rfl) C.n_len (qb (qv 3)))) (qb q_int)) qs_nil)) (qg_name (i := 6) sc_law.nd) (qss_cons (q_set (i := 20) sc_law.nd (by rfl) (by first | exact Or.inl rfl | exact Or.inr rfl) (q_call (ok__law_frac C) hr (takes_of (by rfl) (by rfl) (by rfl) (by rfl)) (by decide) (by rfl) (qs_cons (q_sub (qb (q_ix (qb (q_ix (qb (qv 3)) (qb (q_addA (qb (qv 6)) (qb q_int))))) (qb q_int))) (qb (q_ix (qb (q_ix (qb (qv 3)) (qb (qv 6)))) (qb q_int)))) (qs_cons (q_sub (qb (q_ix (qb (q_ix (qb (qv 3)) (qb (q_addA (qb (qv 6)) (qb q_int))))) (qb q_int))) (qb (q_ix (qb (q_ix (qb (qv 3)) (qb (qv 6)))) (qb q_int)))) qs_nil))))
    (qss_one (q_set (i := 16) sc_law.nd (by rfl) (by first | exact Or.inl rfl | exact Or.inr rfl) (q_if (qt_val (q_call (ok__law_lt C) hr (takes_of (by rfl) (by rfl) (by rfl) (by rfl)) (by decide) (by rfl) (qs_cons (qv 16) (qs_cons (qv 20) qs_nil)))) (qv 20) (qv 16))))))
    (qss_cons (q_for (passes_of (by rfl)) (by rfl) (q_iRng1 (by rfl) C.n_range (qs_cons q_int qs_nil)) (qg_name (i := 18) sc_law.nd) (qss_one (q_set (i := 17) sc_law.nd (by rfl) (by first | exact Or.inl rfl | exact Or.inr rfl) (q_call (ok__law_add C) hr (takes_of (by rfl) (by rfl) (by rfl) (by rfl)) (by decide) (by rfl) (qs_cons (qv 17) (qs_cons (q_call (ok__law_div C) hr (takes_of (by rfl) (by rfl) (by rfl) (by rfl)) (by decide) (by rfl) (qs_cons (q_call (ok__law_add C) hr (takes_of (by rfl) (by rfl) (by rfl) (by rfl)) (by decide) (by rfl) (qs_cons (q_ix (qb (qv 5)) (qb (qv 18))) (qs_cons (q_ix (qb (qv 5)) (qb (q_addA (qb (qv 18)) (qb q_int)))) qs_nil))) (qs_cons (q_tup (qs_cons q_int (qs_cons q_int qs_nil))) qs_nil))) qs_nil))))))
    (qss_cons (q_set (i := 21) sc_law.nd (by rfl) (by first | exact Or.inl rfl | exact Or.inr rfl) (q_tup (qs_cons (q_call (ok_greatest_gap C) hr (takes_of (by rfl) (by rfl) (by rfl) (by rfl)) (by decide) (by rfl) (qs_cons (qv 4) (qs_cons (q_make (ok_Curve_init C) hr (takes_of (by rfl) (by rfl) (by rfl) (by rfl)) (by decide) (by rfl) (qs_cons (qv 12) qs_nil)) qs_nil))) (qs_cons (q_call (ok_steepest C) hr (takes_of (by rfl) (by rfl) (by rfl) (by rfl)) (by decide) (by rfl) (qs_cons (qv 4) qs_nil)) (qs_cons (q_call (ok_area_below C) hr (takes_of (by rfl) (by rfl) (by rfl) (by rfl)) (by decide) (by rfl) (qs_cons (qv 4) qs_nil)) (qs_cons (q_call (ok_is_rising C) hr (takes_of (by rfl) (by rfl) (by rfl) (by rfl)) (by decide) (by rfl) (qs_cons (qv 4) qs_nil)) qs_nil))))))
    (qss_cons (q_set (i := 22) sc_law.nd (by rfl) (by first | exact Or.inl rfl | exact Or.inr rfl) (q_eq (hu64 hr) (qb (qf (q_comp (by rfl) sc_law.nd (q_iRng1 (by rfl) C.n_range (qs_cons (q_sub (qb (q_len (by rfl) C.n_len (qb (qv 3)))) (qb q_int)) qs_nil)) (blkOk_by (own := [("k", 6)]) (by kernel_rfl)) (fun _ _ _ _ _ => (qg_name (i := 6) sc_law.nd)) (fun _ _ _ _ _ => (qts_one (qt_ge (qb (q_ix (qb (q_ix (qb (qv 3)) (qb (qv 6)))) (qb q_int))) (qb (q_ix (qb (q_ix (qb (qv 3)) (qb (q_addA (qb (qv 6)) (qb q_int))))) (qb q_int)))))) (fun _ _ _ _ _ => (qv 6))))) (qb (qf (q_lst qs_nil)))))
    (qss_cons (q_ifS (qt_not (qt_val (q_call (ok__law_alike C 4) hr (takes_of (by rfl) (by rfl) (by rfl) (by rfl)) (by decide) (by rfl) (qs_cons (qv 21) (qs_cons (q_tup (qs_cons (qv 15) (qs_cons (qv 16) (qs_cons (qv 17) (qs_cons (qv 22) qs_nil))))) qs_nil))))) (qss_one (q_ret q_bl)) qss_nil)
    (qss_cons (q_ifS (qt_not (qt_val (q_call (ok__law_alike C 4) hr (takes_of (by rfl) (by rfl) (by rfl) (by rfl)) (by decide) (by rfl) (qs_cons (q_call (ok_cut_off C) hr (takes_of (by rfl) (by rfl) (by rfl) (by rfl)) (by decide) (by rfl) (qs_cons (qv 4) qs_nil)) (qs_cons (q_tupleOf (by rfl) C.n_tuple (qb (qf (q_comp (by rfl) sc_law.nd (q_iSeq (qv 5)) (blkOk_by (own := [("one", 29)]) (by kernel_rfl)) (fun _ _ _ _ _ => (qg_name (i := 29) sc_law.nd)) (fun _ _ _ _ _ => qts_nil) (fun _ _ _ _ _ => (q_div (qb (q_ix (qb (qv 29)) (qb q_int))) (qb (q_ix (qb (qv 29)) (qb q_int))))))))) qs_nil))))) (qss_one (q_ret q_bl)) qss_nil)
    (qss_cons (q_set (i := 23) sc_law.nd (by rfl) (by first | exact Or.inl rfl | exact Or.inr rfl) (q_call (ok_rounded C) hr (takes_of (by rfl) (by rfl) (by rfl) (by rfl)) (by decide) (by rfl) (qs_cons (qv 4) qs_nil)))
    (qss_cons (q_ifS (qw_pt (qw_or (qt_ne (hu64 hr) (qb (q_len (by rfl) C.n_len (qb (qv 23)))) (qb q_int)) (qw_or1 (qt_ne (hu64 hr) (qb (qf (q_comp (by rfl) sc_law.nd (q_iRng1 (by rfl) C.n_range (qs_cons q_int qs_nil)) (blkOk_by (own := [("x", 18)]) (by kernel_rfl)) (fun _ _ _ _ _ => (qg_name (i := 18) sc_law.nd)) (fun _ _ _ _ _ => (qts_one (qt_not (qt_chain op_ltAll o2_lt op_le o2_le (qb (q_neg (qb (q_ix (qb (q_ix (qb (qv 5)) (qb (qv 18)))) (qb q_int))))) (qb (q_mul (qb q_int) (qb (q_sub (qb (q_ix (qb (q_ix (qb (qv 5)) (qb (qv 18)))) (qb q_int))) (qb (q_mul (qb (q_ix (qb (qv 23)) (qb (qv 18)))) (qb (q_ix (qb (q_ix (qb (qv 5)) (qb (qv 18)))) (qb q_int))))))))) (qb (q_ix (qb (q_ix (qb (qv 5)) (qb (qv 18)))) (qb q_int))))))) (fun _ _ _ _ _ => (qv 18))))) (qb (qf (q_lst qs_nil))))))) (qss_one (q_ret q_bl)) qss_nil)
    (qss_one (q_for (passes_of (by rfl)) (by rfl) (q_iSeq (qf (q_lst (qs_cons (q_tup (qs_cons (q_ix (qb (q_ix (qb (qv 3)) (qb q_int))) (qb q_int)) (qs_cons q_int qs_nil))) (qs_cons (q_tup (qs_cons (q_ix (qb (q_ix (qb (qv 3)) (qb (q_neg (qb q_int))))) (qb q_int)) (qs_cons q_int qs_nil))) (qs_cons (q_call (ok__law_pick C) hr (takes_of (by rfl) (by rfl) (by rfl) (by rfl)) (by decide) (by rfl) (qs_cons (qv 1) (qs_cons (qv 5) qs_nil))) (qs_cons (q_call (ok__law_level C) hr (takes_of (by rfl) (by rfl) (by rfl) (by rfl)) (by decide) (by rfl) (qs_cons (qv 1) qs_nil)) qs_nil))))))) (qg_name (i := 7) sc_law.nd) (qss_cons (q_set (i := 24) sc_law.nd (by rfl) (by first | exact Or.inl rfl | exact Or.inr rfl) (q_call (ok_preimage C) hr (takes_of (by rfl) (by rfl) (by rfl) (by rfl)) (by decide) (by rfl) (qs_cons (qv 4) (qs_cons (qv 7) qs_nil))))
    (qss_cons (q_set (i := 25) sc_law.nd (by rfl) (by first | exact Or.inl rfl | exact Or.inr rfl) (q_and (q_not (q_call (ok__law_lt C) hr (takes_of (by rfl) (by rfl) (by rfl) (by rfl)) (by decide) (by rfl) (qs_cons (qv 7) (qs_cons (q_ix (qb (qv 5)) (qb q_int)) qs_nil)))) (q_one (q_not (q_call (ok__law_lt C) hr (takes_of (by rfl) (by rfl) (by rfl) (by rfl)) (by decide) (by rfl) (qs_cons (q_ix (qb (qv 5)) (qb q_int)) (qs_cons (qv 7) qs_nil)))))))
    (qss_cons (q_ifS (qt_ne (hu64 hr) (qb (q_is (qb (qv 24)) (qb q_non))) (qb (q_not (qv 25)))) (qss_one (q_ret q_bl)) qss_nil)
    (qss_one (q_ifS (qt_isNot (qb (qv 24)) (qb q_non)) (qss_cons (q_pt (qv 24) (qg_tup (by rfl) (qgs_cons (qg_name (i := 26) sc_law.nd) (qgs_cons (qg_name (i := 27) sc_law.nd) qgs_nil))))
    (qss_cons (q_ifS (qw_pt (qw_or (qt_not (qt_val (q_call (ok__law_is_frac C) hr (takes_of (by rfl) (by rfl) (by rfl) (by rfl)) (by decide) (by rfl) (qs_cons (qv 26) qs_nil)))) (qw_or (qt_not (qt_val (q_call (ok__law_is_frac C) hr (takes_of (by rfl) (by rfl) (by rfl) (by rfl)) (by decide) (by rfl) (qs_cons (qv 27) qs_nil)))) (qw_or (qt_ne (hu64 hr) (qb (q_call (ok__law_curve_at C) hr (takes_of (by rfl) (by rfl) (by rfl) (by rfl)) (by decide) (by rfl) (qs_cons (qv 3) (qs_cons (qv 26) qs_nil)))) (qb (qv 7))) (qw_or (qt_ne (hu64 hr) (qb (q_call (ok__law_curve_at C) hr (takes_of (by rfl) (by rfl) (by rfl) (by rfl)) (by decide) (by rfl) (qs_cons (qv 3) (qs_cons (qv 27) qs_nil)))) (qb (qv 7))) (qw_or1 (qt_val (q_call (ok__law_lt C) hr (takes_of (by rfl) (by rfl) (by rfl) (by rfl)) (by decide) (by rfl) (qs_cons (qv 27) (qs_cons (qv 26) qs_nil)))))))))) (qss_one (q_ret q_bl)) qss_nil)
    (qss_cons (q_set (i := 28) sc_law.nd (by rfl) (by first | exact Or.inl rfl | exact Or.inr rfl) (q_tup (qs_cons q_int (qs_cons q_int qs_nil))))
    (qss_cons (q_ifS (qw_pt (qw_and (qt_gt (qb (q_ix (qb (qv 26)) (qb q_int))) (qb q_int)) (qw_and1 (qt_eq (hu64 hr) (qb (q_call (ok__law_curve_at C) hr (takes_of (by rfl) (by rfl) (by rfl) (by rfl)) (by decide) (by rfl) (qs_cons (qv 3) (qs_cons (q_if (qt_val (q_call (ok__law_lt C) hr (takes_of (by rfl) (by rfl) (by rfl) (by rfl)) (by decide) (by rfl) (qs_cons (qv 28) (qs_cons (qv 26) qs_nil)))) (q_call (ok__law_sub C) hr (takes_of (by rfl) (by rfl) (by rfl) (by rfl)) (by decide) (by rfl) (qs_cons (qv 26) (qs_cons (qv 28) qs_nil))) (q_tup (qs_cons q_int (qs_cons q_int qs_nil)))) qs_nil)))) (qb (qv 7)))))) (qss_one (q_ret q_bl)) qss_nil)
    (qss_one (q_ifS (qw_pt (qw_and (qt_ne (hu64 hr) (qb (qv 27)) (qb (q_tup (qs_cons q_int (qs_cons q_int qs_nil))))) (qw_and1 (qt_not (qt_val (q_call (ok__law_lt C) hr (takes_of (by rfl) (by rfl) (by rfl) (by rfl)) (by decide) (by rfl) (qs_cons (qv 7) (qs_cons (q_call (ok__law_curve_at C) hr (takes_of (by rfl) (by rfl) (by rfl) (by rfl)) (by decide) (by rfl) (qs_cons (qv 3) (qs_cons (q_call (ok__law_add C) hr (takes_of (by rfl) (by rfl) (by rfl) (by rfl)) (by decide) (by rfl) (qs_cons (qv 27) (qs_cons (qv 28) qs_nil))) qs_nil))) qs_nil)))))))) (qss_one (q_ret q_bl)) qss_nil)))))) qss_nil)))))))))))))))))))))))))))))
    (qss_one (q_ret q_bl))))
end
end K02

namespace K02
open PySem PySem.Spec PyProof.Rows L2 Tv
/-! ### the head -/
open He
def dd_is_row : DefD := ⟨("is_row", none), "is_row", "is_row", defArgs (top 7), defBody (top 7), defScope (top 7), [], []⟩
def dd_is_whole : DefD := ⟨("is_whole", none), "is_whole", "is_whole", defArgs (top 5), defBody (top 5), defScope (top 5), [], []⟩
def dd_is_within : DefD := ⟨("is_within", none), "is_within", "is_within", defArgs (top 6), defBody (top 6), defScope (top 6), [], []⟩
def dd_is_knot : DefD := ⟨("is_knot", none), "is_knot", "is_knot", defArgs (top 27), defBody (top 27), defScope (top 27), [], []⟩
def dd_first_wrong : DefD := ⟨("first_wrong", none), "first_wrong", "first_wrong", defArgs (top 8), defBody (top 8), defScope (top 8), [], []⟩
def dd_knots_place : DefD := ⟨("knots_place", none), "knots_place", "knots_place", defArgs (top 28), defBody (top 28), defScope (top 28), [], []⟩
def dd_require_part : DefD := ⟨("require_part", none), "require_part", "require_part", defArgs (top 11), defBody (top 11), defScope (top 11), [], []⟩
def dd_Curve_init : DefD := ⟨("Curve", some "__init__"), "__init__", "Curve.__init__", defArgs (inClass (top 29) 0), defBody (inClass (top 29) 0), defScope (inClass (top 29) 0), [], []⟩
def dd__law_gcd : DefD := ⟨("_law_gcd", none), "_law_gcd", "_law_gcd", defArgs (top 51), defBody (top 51), defScope (top 51), [], []⟩
def dd__law_frac : DefD := ⟨("_law_frac", none), "_law_frac", "_law_frac", defArgs (top 52), defBody (top 52), defScope (top 52), [], []⟩
def dd__law_add : DefD := ⟨("_law_add", none), "_law_add", "_law_add", defArgs (top 53), defBody (top 53), defScope (top 53), [], []⟩
def dd__law_alike : DefD := ⟨("_law_alike", none), "_law_alike", "_law_alike", defArgs (top 50), defBody (top 50), defScope (top 50), [], []⟩
def dd__law_div : DefD := ⟨("_law_div", none), "_law_div", "_law_div", defArgs (top 56), defBody (top 56), defScope (top 56), [], []⟩
def dd__law_lt : DefD := ⟨("_law_lt", none), "_law_lt", "_law_lt", defArgs (top 57), defBody (top 57), defScope (top 57), [], []⟩
def dd__law_mul : DefD := ⟨("_law_mul", none), "_law_mul", "_law_mul", defArgs (top 55), defBody (top 55), defScope (top 55), [], []⟩
def dd__law_sub : DefD := ⟨("_law_sub", none), "_law_sub", "_law_sub", defArgs (top 54), defBody (top 54), defScope (top 54), [], []⟩
def dd__law_curve_at : DefD := ⟨("_law_curve_at", none), "_law_curve_at", "_law_curve_at", defArgs (top 60), defBody (top 60), defScope (top 60), [], []⟩
def dd__law_is_frac : DefD := ⟨("_law_is_frac", none), "_law_is_frac", "_law_is_frac", defArgs (top 58), defBody (top 58), defScope (top 58), [], []⟩
def dd__law_taken : DefD := ⟨("_law_taken", none), "_law_taken", "_law_taken", defArgs (top 48), defBody (top 48), defScope (top 48), [], []⟩
def dd__law_pick : DefD := ⟨("_law_pick", none), "_law_pick", "_law_pick", defArgs (top 49), defBody (top 49), defScope (top 49), [], []⟩
def dd__law_knots : DefD := ⟨("_law_knots", none), "_law_knots", "_law_knots", defArgs (top 59), defBody (top 59), defScope (top 59), [], []⟩
def dd__law_level : DefD := ⟨("_law_level", none), "_law_level", "_law_level", defArgs (top 61), defBody (top 61), defScope (top 61), [], []⟩
def dd_common : DefD := ⟨("common", none), "common", "common", defArgs (top 9), defBody (top 9), defScope (top 9), [], []⟩
def dd_fraction : DefD := ⟨("fraction", none), "fraction", "fraction", defArgs (top 13), defBody (top 13), defScope (top 13), [], []⟩
def dd_by : DefD := ⟨("by", none), "by", "by", defArgs (top 19), defBody (top 19), defScope (top 19), [], []⟩
def dd_is_less : DefD := ⟨("is_less", none), "is_less", "is_less", defArgs (top 20), defBody (top 20), defScope (top 20), [], []⟩
def dd_minus : DefD := ⟨("minus", none), "minus", "minus", defArgs (top 17), defBody (top 17), defScope (top 17), [], []⟩
def dd_plus : DefD := ⟨("plus", none), "plus", "plus", defArgs (top 16), defBody (top 16), defScope (top 16), [], []⟩
def dd_times : DefD := ⟨("times", none), "times", "times", defArgs (top 18), defBody (top 18), defScope (top 18), [], []⟩
def dd_between : DefD := ⟨("between", none), "between", "between", defArgs (top 32), defBody (top 32), defScope (top 32), [], []⟩
def dd_whole : DefD := ⟨("whole", none), "whole", "whole", defArgs (top 15), defBody (top 15), defScope (top 15), [], []⟩
def dd_points_of : DefD := ⟨("points_of", none), "points_of", "points_of", defArgs (top 33), defBody (top 33), defScope (top 33), [], []⟩
def dd_is_fraction : DefD := ⟨("is_fraction", none), "is_fraction", "is_fraction", defArgs (top 14), defBody (top 14), defScope (top 14), [], []⟩
def dd_is_level : DefD := ⟨("is_level", none), "is_level", "is_level", defArgs (top 30), defBody (top 30), defScope (top 30), [], []⟩
def dd_require_level : DefD := ⟨("require_level", none), "require_level", "require_level", defArgs (top 31), defBody (top 31), defScope (top 31), [], []⟩
def dd_value_at : DefD := ⟨("value_at", none), "value_at", "value_at", defArgs (top 34), defBody (top 34), defScope (top 34), [], []⟩
def dd_apart : DefD := ⟨("apart", none), "apart", "apart", defArgs (top 39), defBody (top 39), defScope (top 39), [], []⟩
def dd_Curve_eq : DefD := ⟨("Curve", some "__eq__"), "__eq__", "Curve.__eq__", defArgs (inClass (top 29) 1), defBody (inClass (top 29) 1), defScope (inClass (top 29) 1), [], []⟩
def dd_is_straight : DefD := ⟨("is_straight", none), "is_straight", "is_straight", defArgs (top 36), defBody (top 36), defScope (top 36), [], []⟩
def dd_shortened : DefD := ⟨("shortened", none), "shortened", "shortened", defArgs (top 35), defBody (top 35), defScope (top 35), [], []⟩
def dd_shortest : DefD := ⟨("shortest", none), "shortest", "shortest", defArgs (top 37), defBody (top 37), defScope (top 37), [], []⟩
def dd_are_alike : DefD := ⟨("are_alike", none), "are_alike", "are_alike", defArgs (top 38), defBody (top 38), defScope (top 38), [], []⟩
def dd_area_below : DefD := ⟨("area_below", none), "area_below", "area_below", defArgs (top 43), defBody (top 43), defScope (top 43), [], []⟩
def dd_floor : DefD := ⟨("floor", none), "floor", "floor", defArgs (top 22), defBody (top 22), defScope (top 22), [], []⟩
def dd_cut_off : DefD := ⟨("cut_off", none), "cut_off", "cut_off", defArgs (top 46), defBody (top 46), defScope (top 46), [], []⟩
def dd_in_order : DefD := ⟨("in_order", none), "in_order", "in_order", defArgs (top 23), defBody (top 23), defScope (top 23), [], []⟩
def dd_greatest_gap : DefD := ⟨("greatest_gap", none), "greatest_gap", "greatest_gap", defArgs (top 44), defBody (top 44), defScope (top 44), [], []⟩
def dd_is_rising : DefD := ⟨("is_rising", none), "is_rising", "is_rising", defArgs (top 40), defBody (top 40), defScope (top 40), [], []⟩
def dd_preimage : DefD := ⟨("preimage", none), "preimage", "preimage", defArgs (top 41), defBody (top 41), defScope (top 41), [], []⟩
def dd_nearest_whole : DefD := ⟨("nearest_whole", none), "nearest_whole", "nearest_whole", defArgs (top 21), defBody (top 21), defScope (top 21), [], []⟩
def dd_rounded : DefD := ⟨("rounded", none), "rounded", "rounded", defArgs (top 45), defBody (top 45), defScope (top 45), [], []⟩
def dd_steepest : DefD := ⟨("steepest", none), "steepest", "steepest", defArgs (top 42), defBody (top 42), defScope (top 42), [], []⟩
def dd_law : DefD := ⟨("law", none), "law", "law", defArgs (top 62), defBody (top 62), defScope (top 62), [], []⟩
def fn : List DefD := [dd_is_row, dd_is_whole, dd_is_within, dd_is_knot, dd_first_wrong, dd_knots_place, dd_require_part, dd_Curve_init, dd__law_gcd, dd__law_frac, dd__law_add, dd__law_alike, dd__law_div, dd__law_lt, dd__law_mul, dd__law_sub, dd__law_curve_at, dd__law_is_frac, dd__law_taken, dd__law_pick, dd__law_knots, dd__law_level, dd_common, dd_fraction, dd_by, dd_is_less, dd_minus, dd_plus, dd_times, dd_between, dd_whole, dd_points_of, dd_is_fraction, dd_is_level, dd_require_level, dd_value_at, dd_apart, dd_Curve_eq, dd_is_straight, dd_shortened, dd_shortest, dd_are_alike, dd_area_below, dd_floor, dd_cut_off, dd_in_order, dd_greatest_gap, dd_is_rising, dd_preimage, dd_nearest_whole, dd_rounded, dd_steepest, dd_law]
def fa : List Fa := [.glo "is_row", .glo "is_whole", .glo "is_within", .glo "is_knot", .glo "first_wrong", .glo "knots_place", .glo "require_part", .mkr "Curve", .glo "_law_gcd", .glo "_law_frac", .glo "_law_add", .glo "_law_alike", .glo "_law_div", .glo "_law_lt", .glo "_law_mul", .glo "_law_sub", .glo "_law_curve_at", .glo "_law_is_frac", .glo "_law_taken", .glo "_law_pick", .glo "_law_knots", .glo "_law_level", .glo "common", .glo "fraction", .glo "by", .glo "is_less", .glo "minus", .glo "plus", .glo "times", .glo "between", .glo "whole", .glo "points_of", .glo "is_fraction", .glo "is_level", .glo "require_level", .glo "value_at", .glo "apart", .meth "Curve" "__eq__", .glo "is_straight", .glo "shortened", .glo "shortest", .glo "are_alike", .glo "area_below", .glo "floor", .glo "cut_off", .glo "in_order", .glo "greatest_gap", .glo "is_rising", .glo "preimage", .glo "nearest_whole", .glo "rounded", .glo "steepest", .glo "law", .glo "Curve", .free "int", .free "isinstance", .free "bool", .free "tuple", .free "len", .free "enumerate", .free "abs", .free "zip", .free "range", .free "all", .free "list", .free "str", .free "min", .int "TOP" 255, .int "MOST_KNOTS" 12, .cls "Curve", .noat "Curve" "knots"]
def exK (K : PySem.W.Frag) : Bool := decide ((cs.map (tb K).cls).Nodup) && (kitB K (cs.map (tb K).cls) && cs.all fun c => insB K ((tb K).cls c))
abbrev hk : PySem.W.Hook := hookX 7 fa fn [] [] exK
def ob (s : PySem.W.SharedT) : AlX := obsX 7 fa fn [] [] exK (HandSHeadRun.getT s)
theorem ob_eq (s : PySem.W.SharedT) : ob s = hk.obs s.abs := obsX_eq (HandSHeadRun.getT_eq s)
abbrev R : PySem.W.OpenRow := PySem.W.OpenLaw.row PySem.Challenge.rw_tintbridge_k02_whole_curves
def names0 : List Str := ["TintError", "BadPart", "BadPoint", "is_whole", "is_within", "is_row", "first_wrong", "common", "place_told", "require_part", "fraction", "is_fraction", "whole", "plus", "minus", "times", "by", "is_less", "nearest_whole", "floor", "in_order", "MOST_KNOTS", "TOP", "is_knot"]
def names1 : List Str := ["knots_place", "Curve", "is_level", "require_level", "between", "points_of", "value_at", "shortened", "is_straight", "shortest", "are_alike", "apart", "is_rising", "preimage", "steepest", "area_below", "greatest_gap", "rounded", "cut_off", "_law_taken", "_law_pick", "_law_alike", "_law_gcd", "_law_frac"]
def names2 : List Str := ["_law_add", "_law_sub", "_law_mul", "_law_div", "_law_lt", "_law_is_frac", "_law_knots", "_law_curve_at", "_law_level"]
def names : List Str := names0 ++ names1 ++ names2
theorem run (w : World) : HandSHeadRun.RunEq R (PySem.W.view R.prog [62]) hk ob 3000 names w := by
  intro os
  kernel_rfl
theorem cn_of {K : PySem.W.Frag} {h : Heap} {mg : Str → Option Value} {w : World} (X : K.In h) (G : h.Ns mainGlobals mg) (c : SaysX fa fn [] [] exK w h K) : Cn K mg := by
  have cd := c.t.d
  have ex := c.more
  unfold exK at ex
  obtain ⟨e1, e2⟩ := Bool.and_eq_true_iff.mp ex
  obtain ⟨e2, e3⟩ := Bool.and_eq_true_iff.mp e2
  have nd := of_decide_eq_true e1
  refine {
    d_is_row := cd.def_ 0 (d := dd_is_row) rfl
    d_is_whole := cd.def_ 1 (d := dd_is_whole) rfl
    d_is_within := cd.def_ 2 (d := dd_is_within) rfl
    d_is_knot := cd.def_ 3 (d := dd_is_knot) rfl
    d_first_wrong := cd.def_ 4 (d := dd_first_wrong) rfl
    d_knots_place := cd.def_ 5 (d := dd_knots_place) rfl
    d_require_part := cd.def_ 6 (d := dd_require_part) rfl
    d_Curve_init := cd.def_ 7 (d := dd_Curve_init) rfl
    d__law_gcd := cd.def_ 8 (d := dd__law_gcd) rfl
    d__law_frac := cd.def_ 9 (d := dd__law_frac) rfl
    d__law_add := cd.def_ 10 (d := dd__law_add) rfl
    d__law_alike := cd.def_ 11 (d := dd__law_alike) rfl
    d__law_div := cd.def_ 12 (d := dd__law_div) rfl
    d__law_lt := cd.def_ 13 (d := dd__law_lt) rfl
    d__law_mul := cd.def_ 14 (d := dd__law_mul) rfl
    d__law_sub := cd.def_ 15 (d := dd__law_sub) rfl
    d__law_curve_at := cd.def_ 16 (d := dd__law_curve_at) rfl
    d__law_is_frac := cd.def_ 17 (d := dd__law_is_frac) rfl
    d__law_taken := cd.def_ 18 (d := dd__law_taken) rfl
    d__law_pick := cd.def_ 19 (d := dd__law_pick) rfl
    d__law_knots := cd.def_ 20 (d := dd__law_knots) rfl
    d__law_level := cd.def_ 21 (d := dd__law_level) rfl
    d_common := cd.def_ 22 (d := dd_common) rfl
    d_fraction := cd.def_ 23 (d := dd_fraction) rfl
    d_by := cd.def_ 24 (d := dd_by) rfl
    d_is_less := cd.def_ 25 (d := dd_is_less) rfl
    d_minus := cd.def_ 26 (d := dd_minus) rfl
    d_plus := cd.def_ 27 (d := dd_plus) rfl
    d_times := cd.def_ 28 (d := dd_times) rfl
    d_between := cd.def_ 29 (d := dd_between) rfl
    d_whole := cd.def_ 30 (d := dd_whole) rfl
    d_points_of := cd.def_ 31 (d := dd_points_of) rfl
    d_is_fraction := cd.def_ 32 (d := dd_is_fraction) rfl
    d_is_level := cd.def_ 33 (d := dd_is_level) rfl
    d_require_level := cd.def_ 34 (d := dd_require_level) rfl
    d_value_at := cd.def_ 35 (d := dd_value_at) rfl
    d_apart := cd.def_ 36 (d := dd_apart) rfl
    d_Curve_eq := cd.def_ 37 (d := dd_Curve_eq) rfl
    d_is_straight := cd.def_ 38 (d := dd_is_straight) rfl
    d_shortened := cd.def_ 39 (d := dd_shortened) rfl
    d_shortest := cd.def_ 40 (d := dd_shortest) rfl
    d_are_alike := cd.def_ 41 (d := dd_are_alike) rfl
    d_area_below := cd.def_ 42 (d := dd_area_below) rfl
    d_floor := cd.def_ 43 (d := dd_floor) rfl
    d_cut_off := cd.def_ 44 (d := dd_cut_off) rfl
    d_in_order := cd.def_ 45 (d := dd_in_order) rfl
    d_greatest_gap := cd.def_ 46 (d := dd_greatest_gap) rfl
    d_is_rising := cd.def_ 47 (d := dd_is_rising) rfl
    d_preimage := cd.def_ 48 (d := dd_preimage) rfl
    d_nearest_whole := cd.def_ 49 (d := dd_nearest_whole) rfl
    d_rounded := cd.def_ 50 (d := dd_rounded) rfl
    d_steepest := cd.def_ 51 (d := dd_steepest) rfl
    d_law := cd.def_ 52 (d := dd_law) rfl
    g_is_row := He.glo_ok X G (cd.fact 0 (f := .glo "is_row") rfl)
    g_is_whole := He.glo_ok X G (cd.fact 1 (f := .glo "is_whole") rfl)
    g_is_within := He.glo_ok X G (cd.fact 2 (f := .glo "is_within") rfl)
    g_is_knot := He.glo_ok X G (cd.fact 3 (f := .glo "is_knot") rfl)
    g_first_wrong := He.glo_ok X G (cd.fact 4 (f := .glo "first_wrong") rfl)
    g_knots_place := He.glo_ok X G (cd.fact 5 (f := .glo "knots_place") rfl)
    g_require_part := He.glo_ok X G (cd.fact 6 (f := .glo "require_part") rfl)
    m_Curve_init := He.mkr_ok (cd.fact 7 (f := .mkr "Curve") rfl)
    g__law_gcd := He.glo_ok X G (cd.fact 8 (f := .glo "_law_gcd") rfl)
    g__law_frac := He.glo_ok X G (cd.fact 9 (f := .glo "_law_frac") rfl)
    g__law_add := He.glo_ok X G (cd.fact 10 (f := .glo "_law_add") rfl)
    g__law_alike := He.glo_ok X G (cd.fact 11 (f := .glo "_law_alike") rfl)
    g__law_div := He.glo_ok X G (cd.fact 12 (f := .glo "_law_div") rfl)
    g__law_lt := He.glo_ok X G (cd.fact 13 (f := .glo "_law_lt") rfl)
    g__law_mul := He.glo_ok X G (cd.fact 14 (f := .glo "_law_mul") rfl)
    g__law_sub := He.glo_ok X G (cd.fact 15 (f := .glo "_law_sub") rfl)
    g__law_curve_at := He.glo_ok X G (cd.fact 16 (f := .glo "_law_curve_at") rfl)
    g__law_is_frac := He.glo_ok X G (cd.fact 17 (f := .glo "_law_is_frac") rfl)
    g__law_taken := He.glo_ok X G (cd.fact 18 (f := .glo "_law_taken") rfl)
    g__law_pick := He.glo_ok X G (cd.fact 19 (f := .glo "_law_pick") rfl)
    g__law_knots := He.glo_ok X G (cd.fact 20 (f := .glo "_law_knots") rfl)
    g__law_level := He.glo_ok X G (cd.fact 21 (f := .glo "_law_level") rfl)
    g_common := He.glo_ok X G (cd.fact 22 (f := .glo "common") rfl)
    g_fraction := He.glo_ok X G (cd.fact 23 (f := .glo "fraction") rfl)
    g_by := He.glo_ok X G (cd.fact 24 (f := .glo "by") rfl)
    g_is_less := He.glo_ok X G (cd.fact 25 (f := .glo "is_less") rfl)
    g_minus := He.glo_ok X G (cd.fact 26 (f := .glo "minus") rfl)
    g_plus := He.glo_ok X G (cd.fact 27 (f := .glo "plus") rfl)
    g_times := He.glo_ok X G (cd.fact 28 (f := .glo "times") rfl)
    g_between := He.glo_ok X G (cd.fact 29 (f := .glo "between") rfl)
    g_whole := He.glo_ok X G (cd.fact 30 (f := .glo "whole") rfl)
    g_points_of := He.glo_ok X G (cd.fact 31 (f := .glo "points_of") rfl)
    g_is_fraction := He.glo_ok X G (cd.fact 32 (f := .glo "is_fraction") rfl)
    g_is_level := He.glo_ok X G (cd.fact 33 (f := .glo "is_level") rfl)
    g_require_level := He.glo_ok X G (cd.fact 34 (f := .glo "require_level") rfl)
    g_value_at := He.glo_ok X G (cd.fact 35 (f := .glo "value_at") rfl)
    g_apart := He.glo_ok X G (cd.fact 36 (f := .glo "apart") rfl)
    m_Curve_eq := He.meth_ok (cd.fact 37 (f := .meth "Curve" "__eq__") rfl)
    g_is_straight := He.glo_ok X G (cd.fact 38 (f := .glo "is_straight") rfl)
    g_shortened := He.glo_ok X G (cd.fact 39 (f := .glo "shortened") rfl)
    g_shortest := He.glo_ok X G (cd.fact 40 (f := .glo "shortest") rfl)
    g_are_alike := He.glo_ok X G (cd.fact 41 (f := .glo "are_alike") rfl)
    g_area_below := He.glo_ok X G (cd.fact 42 (f := .glo "area_below") rfl)
    g_floor := He.glo_ok X G (cd.fact 43 (f := .glo "floor") rfl)
    g_cut_off := He.glo_ok X G (cd.fact 44 (f := .glo "cut_off") rfl)
    g_in_order := He.glo_ok X G (cd.fact 45 (f := .glo "in_order") rfl)
    g_greatest_gap := He.glo_ok X G (cd.fact 46 (f := .glo "greatest_gap") rfl)
    g_is_rising := He.glo_ok X G (cd.fact 47 (f := .glo "is_rising") rfl)
    g_preimage := He.glo_ok X G (cd.fact 48 (f := .glo "preimage") rfl)
    g_nearest_whole := He.glo_ok X G (cd.fact 49 (f := .glo "nearest_whole") rfl)
    g_rounded := He.glo_ok X G (cd.fact 50 (f := .glo "rounded") rfl)
    g_steepest := He.glo_ok X G (cd.fact 51 (f := .glo "steepest") rfl)
    g_law := He.glo_ok X G (cd.fact 52 (f := .glo "law") rfl)
    c_Curve := He.glo_ok X G (cd.fact 53 (f := .glo "Curve") rfl)
    n_int := He.free_ok X G (cd.fact 54 (f := .free "int") rfl)
    n_isinstance := He.free_ok X G (cd.fact 55 (f := .free "isinstance") rfl)
    n_bool := He.free_ok X G (cd.fact 56 (f := .free "bool") rfl)
    n_tuple := He.free_ok X G (cd.fact 57 (f := .free "tuple") rfl)
    n_len := He.free_ok X G (cd.fact 58 (f := .free "len") rfl)
    n_enumerate := He.free_ok X G (cd.fact 59 (f := .free "enumerate") rfl)
    n_abs := He.free_ok X G (cd.fact 60 (f := .free "abs") rfl)
    n_zip := He.free_ok X G (cd.fact 61 (f := .free "zip") rfl)
    n_range := He.free_ok X G (cd.fact 62 (f := .free "range") rfl)
    n_all := He.free_ok X G (cd.fact 63 (f := .free "all") rfl)
    n_list := He.free_ok X G (cd.fact 64 (f := .free "list") rfl)
    n_str := He.free_ok X G (cd.fact 65 (f := .free "str") rfl)
    n_min := He.free_ok X G (cd.fact 66 (f := .free "min") rfl)
    i_TOP := He.int_ok X G (cd.fact 67 (f := .int "TOP" 255) rfl)
    i_MOST_KNOTS := He.int_ok X G (cd.fact 68 (f := .int "MOST_KNOTS" 12) rfl)
    isc := ⟨fun c hc => ?_, fun c hc => List.all_eq_true.mp e3 c hc, e2, fun c hc d hd e => ?_⟩ }
  · have hc : c = 0 := by simpa [cs] using hc
    rcases hc with rfl
    · refine ⟨cls_ok (cd.fact 69 (f := .cls "Curve") rfl), fun f hf => ?_⟩
      have hf : f = "knots" := by simpa [tb] using hf
      rcases hf with rfl
      · exact noat_ok (cd.fact 70 (f := .noat "Curve" "knots") rfl)
  · have hc : c = 0 := by simpa [cs] using hc
    have hd : d = 0 := by simpa [cs] using hd
    rw [hc, hd]
end K02

namespace K02
open PySem PySem.Spec L2 Tv
local macro_rules | `(tactic| get_elem_tactic_extensible) => `(tactic| simp only [v_var, v_varB, v_c, v_op, v_un, v_nil, v_cons, v_tup, v_lst, v_test, v_and, v_or, v_not, v_if, v_andV, v_orV, v_notV, v_chain, v_call, v_callF, v_callV, v_isi, v_slice, v_comp, unowned, List.all_cons, List.all_nil, wipeR, and_true, true_and, and_false, false_and, Int.cast_ofNat_Int, v_part, v_noPart, v_fld, v_yes, v_seqI, v_rng1, v_rng2, v_enumI, v_zipI, v_next, v_seq, v_set, v_setO, v_drop, v_ret, v_retN, v_brk, v_cnt, v_ifS, v_frz, v_while, v_for, v_meth, v_setIx, v_cell, v_aug, v_pt, v_par, v_setF, v_fun, v_ne_ok, v_loopF_nil, v_compF_nil,
  w_add, Tv.w_sub, w_lt, w_le, w_gt, w_ge, w_neg, w_eqI, w_neI, w_eqB, w_neB, w_is, w_isNot, w_ix20, w_ix21, w_lenT, w_lenL, w_lenZ, w_abs, w_int, w_min, w_max, w_tupT, w_tupL, w_tupZ, kT_int, kT_bl, kT_non, kT_str, kT_tup, kT_lst, k2, Tv.isNon, Pt.run, Pts.run, setM, ownL, baseOk, seqV,
  List.map_cons, List.map_nil, List.cons_append, List.nil_append, List.append_nil, List.replicate_zero, List.replicate_succ, List.length_cons, List.length_nil, List.getElem?_cons_zero, List.getElem?_cons_succ, List.getElem?_nil, List.set_cons_zero, List.set_cons_succ, List.set_nil, Option.some.injEq, ↓reduceIte, reduceCtorEq, decide_true, decide_false, decide_eq_true_eq, Bool.not_true, Bool.not_false, Bool.false_eq_true, Bool.and_true, Bool.true_and, Bool.or_false, Bool.false_or, Bool.or_true, Bool.true_or, Bool.and_false, Bool.false_and, if_true, if_false, String.reduceEq, or_false, or_true, false_or, true_or, Int.reduceLE, Int.reduceLT, Int.reduceNeg, Int.reduceToNat, Int.reduceAdd, Nat.reduceAdd, Nat.reduceLT, Int.reduceSub, Int.reduceMul, Int.reduceEq, Nat.reduceEqDiff, Int.zero_sub, BEq.rfl])
local macro_rules | `(tactic| decreasing_trivial) => `(tactic| simp only [v_var, v_varB, v_c, v_op, v_un, v_nil, v_cons, v_tup, v_lst, v_test, v_and, v_or, v_not, v_if, v_andV, v_orV, v_notV, v_chain, v_call, v_callF, v_callV, v_isi, v_slice, v_comp, unowned, List.all_cons, List.all_nil, wipeR, and_true, true_and, and_false, false_and, Int.cast_ofNat_Int, v_part, v_noPart, v_fld, v_yes, v_seqI, v_rng1, v_rng2, v_enumI, v_zipI, v_next, v_seq, v_set, v_setO, v_drop, v_ret, v_retN, v_brk, v_cnt, v_ifS, v_frz, v_while, v_for, v_meth, v_setIx, v_cell, v_aug, v_pt, v_par, v_setF, v_fun, v_ne_ok, v_loopF_nil, v_compF_nil,
  w_add, Tv.w_sub, w_lt, w_le, w_gt, w_ge, w_neg, w_eqI, w_neI, w_eqB, w_neB, w_is, w_isNot, w_ix20, w_ix21, w_lenT, w_lenL, w_lenZ, w_abs, w_int, w_min, w_max, w_tupT, w_tupL, w_tupZ, kT_int, kT_bl, kT_non, kT_str, kT_tup, kT_lst, k2, Tv.isNon, Pt.run, Pts.run, setM, ownL, baseOk, seqV,
  List.map_cons, List.map_nil, List.cons_append, List.nil_append, List.append_nil, List.replicate_zero, List.replicate_succ, List.length_cons, List.length_nil, List.getElem?_cons_zero, List.getElem?_cons_succ, List.getElem?_nil, List.set_cons_zero, List.set_cons_succ, List.set_nil, Option.some.injEq, ↓reduceIte, reduceCtorEq, decide_true, decide_false, decide_eq_true_eq, Bool.not_true, Bool.not_false, Bool.false_eq_true, Bool.and_true, Bool.true_and, Bool.or_false, Bool.false_or, Bool.or_true, Bool.true_or, Bool.and_false, Bool.false_and, if_true, if_false, String.reduceEq, or_false, or_true, false_or, true_or, Int.reduceLE, Int.reduceLT, Int.reduceNeg, Int.reduceToNat, Int.reduceAdd, Nat.reduceAdd, Nat.reduceLT, Int.reduceSub, Int.reduceMul, Int.reduceEq, Nat.reduceEqDiff, Int.zero_sub, BEq.rfl, *])

/-! ### sizes -/
def bd (n : Nat) (i : Int) : Prop := i.natAbs < 2 ^ n
theorem log_lt {m n : Nat} (h : m < 2 ^ n) (hn : 0 < n) : m.log2 < n := by
  by_cases h0 : m = 0
  · subst h0; simpa [Nat.log2_zero] using hn
  · exact (Nat.log2_lt h0).mpr h
theorem mulI {i j : Int} {a b : Nat} {s : S} (hi : bd a i) (hj : bd b j) (h : a + b ≤ 900000 := by omega) : gMul (.int i) (.int j) s = .ok (.int (i * j)) s := by
  have h1 : i.natAbs.log2 < a + 1 := log_lt (Nat.lt_of_lt_of_le hi (Nat.pow_le_pow_right (by omega) (by omega))) (by omega)
  have h2 : j.natAbs.log2 < b + 1 := log_lt (Nat.lt_of_lt_of_le hj (Nat.pow_le_pow_right (by omega) (by omega))) (by omega)
  show (if i.natAbs.log2 + j.natAbs.log2 < 1000000 then _ else _) = _
  rw [if_pos (by omega)]
theorem divI {i j : Int} {a : Nat} {s : S} (hj : bd a j) (h : 0 < j) (ha : a ≤ 8000 := by omega) : gDiv (.int i) (.int j) s = .ok (.int (i / j)) s := by
  have h2 : j.natAbs.log2 < a + 1 := log_lt (Nat.lt_of_lt_of_le hj (Nat.pow_le_pow_right (by omega) (by omega))) (by omega)
  show (if 0 < j ∧ j.natAbs.log2 < 9000 then _ else _) = _
  rw [if_pos ⟨h, by omega⟩]
theorem modI {i j : Int} {s : S} (h : 0 < j) : gMod (.int i) (.int j) s = .ok (.int (i % j)) s := by
  show (if 0 < j then _ else _) = _
  rw [if_pos h]
theorem bd_mul {i j : Int} {a b : Nat} (hi : bd a i) (hj : bd b j) : bd (a + b) (i * j) := by
  unfold bd at *
  rw [Int.natAbs_mul, Nat.pow_add]
  exact Nat.mul_lt_mul'' hi hj
theorem bd_add {i j : Int} {a : Nat} (hi : bd a i) (hj : bd a j) : bd (a + 1) (i + j) := by
  unfold bd at *
  have := Int.natAbs_add_le i j
  rw [Nat.pow_succ]
  omega
theorem bd_sub {i j : Int} {a : Nat} (hi : bd a i) (hj : bd a j) : bd (a + 1) (i - j) := by
  unfold bd at *
  have := Int.natAbs_sub_le i j
  rw [Nat.pow_succ]
  omega
theorem bd_neg {i : Int} {a : Nat} (hi : bd a i) : bd a (-i) := by
  unfold bd at *
  rw [Int.natAbs_neg]
  exact hi
theorem bd_mono {i : Int} {a b : Nat} (hi : bd a i) (h : a ≤ b := by omega) : bd b i := Nat.lt_of_lt_of_le hi (Nat.pow_le_pow_right (by omega) h)
theorem bd_small {i : Int} (h : i.natAbs < 1024 := by omega) : bd 10 i := h

/-! ### greatest common parts -/
theorem common_loop : ∀ (n a b : Nat) (s : S), b < n → loopW t_common_1 l_common_1 n [.v (.int a), .v (.int b)] s = .nx [.v (.int (Nat.gcd a b)), .v (.int 0)] s
  | 0, a, b, s, h => absurd h (Nat.not_lt_zero _)
  | n + 1, a, b, s, h => by
    rw [v_loopW]
    by_cases hb : b = 0
    · subst hb
      unfold t_common_1
      get_elem_tactic_extensible
      simp
    · have hb0 : (0 : Int) < (b : Int) := by omega
      have e0 := fun s => w_mod (i := (a : Int)) (s := s) hb0
      have e2 : (a : Int) % (b : Int) = ((a % b : Nat) : Int) := by simp
      have hm : a % b < b := Nat.mod_lt _ (by omega)
      have ih := common_loop n b (a % b) s (by omega)
      have eg : Nat.gcd b (a % b) = Nat.gcd a b := by rw [Nat.gcd_comm b, ← Nat.gcd_rec, Nat.gcd_comm]
      have u1 : t_common_1 = mTest (mOp gGt (mVar 1) (mC (.int 0))) := rfl
      have e3 : t_common_1 [.v (.int a), .v (.int b)] s = .ok true s := by
        rw [u1]
        decreasing_trivial
      have e4 : l_common_1 [.v (.int a), .v (.int b)] s = .nx [.v (.int b), .v (.int (a % b : Nat))] s := by
        unfold l_common_1
        decreasing_trivial
      rw [e3]
      dsimp only
      rw [e4]
      dsimp only
      rw [ih, eg]
theorem t_common (a b : Int) (s : S) : F_common [.int a, .int b] s = .ok (.int (Nat.gcd a.natAbs b.natAbs)) s := by
  unfold F_common b_common
  have h := common_loop (b.natAbs + 1) a.natAbs b.natAbs s (by omega)
  have e : fuel_common [.v (.int (a.natAbs : Nat)), .v (.int (b.natAbs : Nat))] s = b.natAbs + 1 := by
    unfold fuel_common
    simp
  decreasing_trivial
/-! ### fractions -/
def fr (q : Rat) : D := .tup [.int q.num, .int q.den]
structure Bd (n : Nat) (q : Rat) : Prop where
  num : bd n q.num
  den : q.den < 2 ^ n
theorem Bd.mono {a b : Nat} {q : Rat} (h : Bd a q) (e : a ≤ b := by omega) : Bd b q := ⟨bd_mono h.num e, Nat.lt_of_lt_of_le h.den (Nat.pow_le_pow_right (by omega) e)⟩
theorem Bd.dn {a : Nat} {q : Rat} (h : Bd a q) : bd a (q.den : Int) := by
  unfold bd
  rw [Int.natAbs_natCast]
  exact h.den
theorem den_pos (q : Rat) : (0 : Int) < (q.den : Int) := by
  have := q.den_nz
  omega
/-- a reduced form -/
theorem mk_nd (n : Int) (d : Nat) (hd : d ≠ 0) : (mkRat n d).num = n / ((Nat.gcd n.natAbs d : Nat) : Int) ∧ ((mkRat n d).den : Int) = (d : Int) / ((Nat.gcd n.natAbs d : Nat) : Int) := by
  have h1 := Rat.num_mkRat n d
  have h2 := Rat.den_mkRat n d
  rw [if_neg hd] at h1 h2
  rw [h1, h2, Nat.gcd_comm d n.natAbs]
  exact ⟨rfl, by simp⟩
theorem bd_div {i : Int} {d : Int} {a : Nat} (h : bd a i) (hd : 0 < d) (hi : d ∣ i) : bd a (i / d) := by
  unfold bd at *
  obtain ⟨k, rfl⟩ := hi
  rw [Int.mul_ediv_cancel_left _ (by omega)]
  rw [Int.natAbs_mul] at h
  have : 1 ≤ d.natAbs := by omega
  exact Nat.lt_of_le_of_lt (Nat.le_mul_of_pos_left _ (by omega)) h
theorem Bd_mk {n : Int} {d : Nat} {a : Nat} (hd : d ≠ 0) (h1 : bd a n) (h2 : bd a (d : Int)) : Bd a (mkRat n d) := by
  obtain ⟨e1, e2⟩ := mk_nd n d hd
  have hg : (0 : Int) < ((Nat.gcd n.natAbs d : Nat) : Int) := by
    have := Nat.gcd_pos_of_pos_right n.natAbs (Nat.pos_of_ne_zero hd)
    omega
  refine ⟨?_, ?_⟩
  · rw [e1]
    exact bd_div h1 hg (Int.natAbs_dvd_natAbs.mp (by rw [Int.natAbs_natCast]; exact Nat.gcd_dvd_left _ _))
  · have := bd_div h2 hg (Int.natCast_dvd_natCast.mpr (Nat.gcd_dvd_right n.natAbs d))
    rw [← e2] at this
    unfold bd at this
    rw [Int.natAbs_natCast] at this
    exact this
theorem gcd_bd {n : Int} {d : Nat} {a : Nat} (hd : d ≠ 0) (h : bd a (d : Int)) : bd a ((Nat.gcd n.natAbs d : Nat) : Int) := by
  unfold bd at *
  rw [Int.natAbs_natCast] at *
  exact Nat.lt_of_le_of_lt (Nat.gcd_le_right _ (Nat.pos_of_ne_zero hd)) h
theorem t_frac0 {n : Int} {d : Nat} {a : Nat} {s : S} (hd : d ≠ 0) (h : bd a (d : Int)) (ha : a ≤ 8000 := by omega) : F_fraction [.int n, .int d] s = .ok (fr (mkRat n d)) s := by
  unfold F_fraction b_fraction
  have e1 : ¬ (d : Int) < 0 := by omega
  have hg : (0 : Int) < ((Nat.gcd n.natAbs d : Nat) : Int) := by
    have := Nat.gcd_pos_of_pos_right n.natAbs (Nat.pos_of_ne_zero hd)
    omega
  have e2 := fun (i : Int) s => divI (i := i) (s := s) (gcd_bd (n := n) hd h) hg
  have e3 := fun s => t_common n (d : Int) s
  rw [Int.natAbs_natCast] at e3
  decreasing_trivial
  obtain ⟨e1, e2⟩ := mk_nd n d hd
  unfold fr
  rw [e1, e2]
theorem t_fracN {n : Int} {d : Nat} {a : Nat} {s : S} (hd : d ≠ 0) (h : bd a (d : Int)) (ha : a ≤ 8000 := by omega) : F_fraction [.int n, .int (-d)] s = .ok (fr (mkRat (-n) d)) s := by
  unfold F_fraction b_fraction
  have e1 : -(d : Int) < 0 := by omega
  have e0 : - -(d : Int) = d := by omega
  have hg : (0 : Int) < ((Nat.gcd (-n).natAbs d : Nat) : Int) := by
    have := Nat.gcd_pos_of_pos_right (-n).natAbs (Nat.pos_of_ne_zero hd)
    omega
  have e2 := fun (i : Int) s => divI (i := i) (s := s) (gcd_bd (n := -n) hd h) hg
  have e3 := fun s => t_common (-n) (d : Int) s
  rw [Int.natAbs_natCast] at e3
  decreasing_trivial
  obtain ⟨e1, e2⟩ := mk_nd (-n) d hd
  unfold fr
  rw [e1, e2]
theorem mkR (n : Int) (d : Nat) : mkRat n d = (n : Rat) / (d : Rat) := by rw [Rat.mkRat_eq_div]
theorem nd (q : Rat) : q = (q.num : Rat) / (q.den : Rat) := by
  rw [← mkR]
  exact (Rat.mkRat_self q).symm
theorem dq (q : Rat) : (q.den : Rat) ≠ 0 := by
  intro h
  exact q.den_nz (by exact_mod_cast h)
theorem den2 (p q : Rat) : ((p.den : Int) * (q.den : Int)) = ((p.den * q.den : Nat) : Int) := by push_cast; rfl
theorem t_plus {p q : Rat} {a b : Nat} {s : S} (hp : Bd a p) (hq : Bd b q) (h : a + b ≤ 7900 := by omega) : F_plus [fr p, fr q] s = .ok (fr (p + q)) s := by
  unfold F_plus b_plus fr
  have m1 := fun s => mulI (s := s) hp.num hq.dn
  have m2 := fun s => mulI (s := s) hq.num hp.dn
  have m3 := fun s => mulI (s := s) hp.dn hq.dn
  have m4 := fun n s => t_frac0 (n := n) (s := s) (a := a + b) (Nat.mul_ne_zero p.den_nz q.den_nz) (by rw [← den2]; exact bd_mul hp.dn hq.dn)
  have dd := den2 p q
  decreasing_trivial
  rw [Rat.add_def' p q]
  rfl
theorem t_minus {p q : Rat} {a b : Nat} {s : S} (hp : Bd a p) (hq : Bd b q) (h : a + b ≤ 7900 := by omega) : F_minus [fr p, fr q] s = .ok (fr (p - q)) s := by
  unfold F_minus b_minus fr
  have m1 := fun s => mulI (s := s) hp.num hq.dn
  have m2 := fun s => mulI (s := s) hq.num hp.dn
  have m3 := fun s => mulI (s := s) hp.dn hq.dn
  have m4 := fun n s => t_frac0 (n := n) (s := s) (a := a + b) (Nat.mul_ne_zero p.den_nz q.den_nz) (by rw [← den2]; exact bd_mul hp.dn hq.dn)
  have dd := den2 p q
  decreasing_trivial
  rw [Rat.sub_def' p q]
  rfl
theorem t_times {p q : Rat} {a b : Nat} {s : S} (hp : Bd a p) (hq : Bd b q) (h : a + b ≤ 7900 := by omega) : F_times [fr p, fr q] s = .ok (fr (p * q)) s := by
  unfold F_times b_times fr
  have m1 := fun s => mulI (s := s) hp.num hq.num
  have m3 := fun s => mulI (s := s) hp.dn hq.dn
  have m4 := fun n s => t_frac0 (n := n) (s := s) (a := a + b) (Nat.mul_ne_zero p.den_nz q.den_nz) (by rw [← den2]; exact bd_mul hp.dn hq.dn)
  have dd := den2 p q
  decreasing_trivial
  rw [Rat.mul_def' p q]
  rfl
theorem numpos {q : Rat} (h : 0 < q) : 0 < q.num := by
  have h1 : 0 ≤ q.num := Rat.num_nonneg.mpr (Rat.le_of_lt h)
  have h2 : q.num ≠ 0 := fun e => by
    rw [Rat.num_eq_zero.mp e] at h
    exact absurd h (by decide)
  omega
theorem div_mk (p q : Rat) (hq : 0 < q) : p / q = mkRat (p.num * q.den) (p.den * q.num.toNat) := by
  have hn : 0 < q.num := numpos hq
  have h1 := nd p
  have h2 := nd q
  rw [mkR]
  push_cast
  have e : (((q.num.toNat : Nat) : Int) : Rat) = (q.num : Rat) := by
    congr 1
    omega
  have e' : ((q.num.toNat : Nat) : Rat) = (q.num : Rat) := by
    rw [← e]
    push_cast
    rfl
  rw [e']
  have hqn : (q.num : Rat) ≠ 0 := by
    intro z
    have : q.num = 0 := by exact_mod_cast z
    omega
  have d1 := dq p
  have d2 := dq q
  grind
theorem t_by {p q : Rat} {a b : Nat} {s : S} (hp : Bd a p) (hq : Bd b q) (h0 : 0 < q) (h : a + b ≤ 7900 := by omega) : F_by [fr p, fr q] s = .ok (fr (p / q)) s := by
  have hn : 0 < q.num := numpos h0
  have en : q.num = ((q.num.toNat : Nat) : Int) := by omega
  have hb : bd b ((q.num.toNat : Nat) : Int) := by rw [← en]; exact hq.num
  have d3 : ((p.den : Int) * ((q.num.toNat : Nat) : Int)) = ((p.den * q.num.toNat : Nat) : Int) := by push_cast; rfl
  unfold F_by b_by fr
  have m1 := fun s => mulI (s := s) hp.num hq.dn
  have m3 := fun s => mulI (s := s) hp.dn hq.num
  have m4 := fun n s => t_frac0 (n := n) (s := s) (a := a + b) (d := p.den * q.num.toNat) (Nat.mul_ne_zero p.den_nz (by omega)) (by rw [← d3]; exact bd_mul hp.dn hb)
  have m5 : (p.den : Int) * q.num = ((p.den * q.num.toNat : Nat) : Int) := by rw [← d3, ← en]
  clear d3 hb en hn
  decreasing_trivial
  rw [div_mk p q h0]
  rfl
theorem t_is_less {p q : Rat} {a b : Nat} {s : S} (hp : Bd a p) (hq : Bd b q) (h : a + b ≤ 7900 := by omega) : F_is_less [fr p, fr q] s = .ok (.bl (decide (p < q))) s := by
  unfold F_is_less b_is_less fr
  have m1 := fun s => mulI (s := s) hp.num hq.dn
  have m2 := fun s => mulI (s := s) hq.num hp.dn
  decreasing_trivial
  rw [decide_eq_decide.mpr (Rat.lt_iff p q)]
/-! ### the sizes of what is reckoned -/
theorem Bd_add {p q : Rat} {a b : Nat} (hp : Bd a p) (hq : Bd b q) : Bd (a + b + 1) (p + q) := by
  rw [Rat.add_def' p q]
  refine Bd_mk (Nat.mul_ne_zero p.den_nz q.den_nz) (bd_add (bd_mul hp.num hq.dn) ?_) (by rw [← den2]; exact bd_mono (bd_mul hp.dn hq.dn))
  rw [Nat.add_comm a b]
  exact bd_mul hq.num hp.dn
theorem Bd_sub {p q : Rat} {a b : Nat} (hp : Bd a p) (hq : Bd b q) : Bd (a + b + 1) (p - q) := by
  rw [Rat.sub_def' p q]
  refine Bd_mk (Nat.mul_ne_zero p.den_nz q.den_nz) (bd_sub (bd_mul hp.num hq.dn) ?_) (by rw [← den2]; exact bd_mono (bd_mul hp.dn hq.dn))
  rw [Nat.add_comm a b]
  exact bd_mul hq.num hp.dn
theorem Bd_mul {p q : Rat} {a b : Nat} (hp : Bd a p) (hq : Bd b q) : Bd (a + b) (p * q) := by
  rw [Rat.mul_def' p q]
  exact Bd_mk (Nat.mul_ne_zero p.den_nz q.den_nz) (bd_mul hp.num hq.num) (by rw [← den2]; exact bd_mul hp.dn hq.dn)
theorem Bd_div {p q : Rat} {a b : Nat} (hp : Bd a p) (hq : Bd b q) (h0 : 0 < q) : Bd (a + b) (p / q) := by
  have hn : 0 < q.num := numpos h0
  have en : q.num = ((q.num.toNat : Nat) : Int) := by omega
  have hb : bd b ((q.num.toNat : Nat) : Int) := by rw [← en]; exact hq.num
  have d3 : ((p.den : Int) * ((q.num.toNat : Nat) : Int)) = ((p.den * q.num.toNat : Nat) : Int) := by push_cast; rfl
  rw [div_mk p q h0]
  exact Bd_mk (Nat.mul_ne_zero p.den_nz (by omega)) (bd_mul hp.num hq.dn) (by rw [← d3]; exact bd_mul hp.dn hb)
theorem Bd_int {i : Int} {n : Nat} (h : bd n i) (hn : 1 ≤ n := by omega) : Bd n (i : Rat) := ⟨by rw [Rat.num_intCast]; exact h, by rw [Rat.den_intCast]; exact Nat.one_lt_two_pow (by omega)⟩
theorem fr_int (i : Int) : fr (i : Rat) = .tup [.int i, .int 1] := by
  unfold fr
  rw [Rat.num_intCast, Rat.den_intCast]
  rfl

/-! ### the law's own fractions -/
theorem lgcd_loop : ∀ (l : List D) (n a b : Nat) (t : SD) (s : S), b < 2 ^ n → 2 * n + 1 ≤ l.length → ∃ t', loopF (.nm 2) l__law_gcd_1 l [.v (.int a), .v (.int b), t] s = .nx [.v (.int (Nat.gcd a b)), .v (.int 0), t'] s
  | [], n, a, b, t, s, h, hl => by simp at hl
  | d :: l, n, a, b, t, s, h, hl => by
    unfold loopF Pt.run
    dsimp only
    have es : ([.v (.int a), .v (.int b), t] : List SD).set 2 (.v d) = [.v (.int a), .v (.int b), .v d] := rfl
    rw [es]
    by_cases hb : b = 0
    · subst hb
      refine ⟨.v d, ?_⟩
      have : l__law_gcd_1 [.v (.int a), .v (.int (0 : Nat)), .v d] s = .bk [.v (.int a), .v (.int (0 : Nat)), .v d] s := by
        unfold l__law_gcd_1
        get_elem_tactic_extensible
        all_goals simp
      rw [this]
      simp
    · have hb0 : (0 : Int) < (b : Int) := by omega
      have : l__law_gcd_1 [.v (.int a), .v (.int b), .v d] s = .nx [.v (.int b), .v (.int (a % b : Nat)), .v d] s := by
        unfold l__law_gcd_1
        have e0 : ¬ ((b : Int) = 0) := by omega
        have e1 := fun s => w_mod (i := (a : Int)) (s := s) hb0
        decreasing_trivial
        simp
      rw [this]
      dsimp only
      -- two turns at once
      have hm : a % b < b := Nat.mod_lt _ (by omega)
      have g1 : Nat.gcd a b = Nat.gcd b (a % b) := by rw [Nat.gcd_comm a b, Nat.gcd_rec b a, Nat.gcd_comm]
      rw [g1]
      match l, hl with
      | [], hl =>
        have : n = 0 := by simp at hl; omega
        subst this
        simp at h
        omega
      | d2 :: l, hl =>
        unfold loopF Pt.run
        dsimp only
        have es : ([.v (.int b), .v (.int (a % b : Nat)), .v d] : List SD).set 2 (.v d2) = [.v (.int b), .v (.int (a % b : Nat)), .v d2] := rfl
        rw [es]
        by_cases hb2 : a % b = 0
        · rw [hb2]
          refine ⟨.v d2, ?_⟩
          have : l__law_gcd_1 [.v (.int b), .v (.int (0 : Nat)), .v d2] s = .bk [.v (.int b), .v (.int (0 : Nat)), .v d2] s := by
            unfold l__law_gcd_1
            get_elem_tactic_extensible
            all_goals simp
          rw [this]
          simp
        · have hb3 : (0 : Int) < ((a % b : Nat) : Int) := by omega
          have : l__law_gcd_1 [.v (.int b), .v (.int (a % b : Nat)), .v d2] s = .nx [.v (.int (a % b : Nat)), .v (.int (b % (a % b) : Nat)), .v d2] s := by
            unfold l__law_gcd_1
            have e0 : ¬ (((a % b : Nat) : Int) = 0) := by omega
            have e1 := fun s => w_mod (i := (b : Int)) (s := s) hb3
            clear g1 this
            decreasing_trivial
            simp
          rw [this]
          dsimp only
          have g2 : Nat.gcd b (a % b) = Nat.gcd (a % b) (b % (a % b)) := by rw [Nat.gcd_comm b (a % b), Nat.gcd_rec (a % b) b, Nat.gcd_comm]
          rw [g2]
          have half : 2 * (b % (a % b)) < b := by
            have h1 : b % (a % b) < a % b := Nat.mod_lt _ (by omega)
            have h2 := Nat.div_add_mod b (a % b)
            have h3 : 1 ≤ b / (a % b) := Nat.div_pos (by omega) (by omega)
            have h4 : a % b * 1 ≤ a % b * (b / (a % b)) := Nat.mul_le_mul_left _ h3
            omega
          cases n with
          | zero => simp at h; omega
          | succ n =>
            rw [Nat.pow_succ] at h
            exact lgcd_loop l n (a % b) (b % (a % b)) (.v d2) s (by omega) (by simp at hl; omega)
theorem t_lgcd {a b : Int} {s : S} (h : bd 199 b) : F__law_gcd [.int a, .int b] s = .ok (.int (Nat.gcd a.natAbs b.natAbs)) s := by
  unfold F__law_gcd b__law_gcd
  have er : rngOk 400 = true := by decide
  obtain ⟨t', e⟩ := lgcd_loop (rngD 0 400) 199 a.natAbs b.natAbs .un s h (by decide)
  decreasing_trivial
theorem t_lfrac {n : Int} {d : Nat} {s : S} (hd : d ≠ 0) (h : bd 199 (d : Int)) : F__law_frac [.int n, .int d] s = .ok (fr (mkRat n d)) s := by
  unfold F__law_frac b__law_frac
  have e1 : ¬ (d : Int) < 0 := by omega
  have e3 := fun s => t_lgcd (a := (n.natAbs : Int)) (b := (d : Int)) (s := s) h
  rw [Int.natAbs_natCast, Int.natAbs_natCast] at e3
  have hg : (0 : Int) < ((Nat.gcd n.natAbs d : Nat) : Int) := by
    have := Nat.gcd_pos_of_pos_right n.natAbs (Nat.pos_of_ne_zero hd)
    omega
  have m1 := fun (i : Int) s => divI (i := i) (s := s) (gcd_bd (n := n) hd h) hg
  decreasing_trivial
  obtain ⟨e1, e2⟩ := mk_nd n d hd
  unfold fr
  rw [e1, e2]
theorem t_ladd {p q : Rat} {a b : Nat} {s : S} (hp : Bd a p) (hq : Bd b q) (h : a + b ≤ 199 := by omega) : F__law_add [fr p, fr q] s = .ok (fr (p + q)) s := by
  unfold F__law_add b__law_add fr
  have m1 := fun s => mulI (s := s) hp.num hq.dn
  have m2 := fun s => mulI (s := s) hq.num hp.dn
  have m3 := fun s => mulI (s := s) hp.dn hq.dn
  have m4 := fun n s => t_lfrac (n := n) (s := s) (Nat.mul_ne_zero p.den_nz q.den_nz) (by rw [← den2]; exact bd_mono (bd_mul hp.dn hq.dn))
  have dd := den2 p q
  decreasing_trivial
  rw [Rat.add_def' p q]
  rfl
theorem t_lsub {p q : Rat} {a b : Nat} {s : S} (hp : Bd a p) (hq : Bd b q) (h : a + b ≤ 199 := by omega) : F__law_sub [fr p, fr q] s = .ok (fr (p - q)) s := by
  unfold F__law_sub b__law_sub fr
  have m1 := fun s => mulI (s := s) hp.num hq.dn
  have m2 := fun s => mulI (s := s) hq.num hp.dn
  have m3 := fun s => mulI (s := s) hp.dn hq.dn
  have m4 := fun n s => t_lfrac (n := n) (s := s) (Nat.mul_ne_zero p.den_nz q.den_nz) (by rw [← den2]; exact bd_mono (bd_mul hp.dn hq.dn))
  have dd := den2 p q
  decreasing_trivial
  rw [Rat.sub_def' p q]
  rfl
theorem t_lmul {p q : Rat} {a b : Nat} {s : S} (hp : Bd a p) (hq : Bd b q) (h : a + b ≤ 199 := by omega) : F__law_mul [fr p, fr q] s = .ok (fr (p * q)) s := by
  unfold F__law_mul b__law_mul fr
  have m1 := fun s => mulI (s := s) hp.num hq.num
  have m3 := fun s => mulI (s := s) hp.dn hq.dn
  have m4 := fun n s => t_lfrac (n := n) (s := s) (Nat.mul_ne_zero p.den_nz q.den_nz) (by rw [← den2]; exact bd_mono (bd_mul hp.dn hq.dn))
  have dd := den2 p q
  decreasing_trivial
  rw [Rat.mul_def' p q]
  rfl
theorem t_ldiv {p q : Rat} {a b : Nat} {s : S} (hp : Bd a p) (hq : Bd b q) (h0 : 0 < q) (h : a + b ≤ 199 := by omega) : F__law_div [fr p, fr q] s = .ok (fr (p / q)) s := by
  have hn : 0 < q.num := numpos h0
  have en : q.num = ((q.num.toNat : Nat) : Int) := by omega
  have hb : bd b ((q.num.toNat : Nat) : Int) := by rw [← en]; exact hq.num
  have d3 : ((p.den : Int) * ((q.num.toNat : Nat) : Int)) = ((p.den * q.num.toNat : Nat) : Int) := by push_cast; rfl
  unfold F__law_div b__law_div fr
  have m1 := fun s => mulI (s := s) hp.num hq.dn
  have m3 := fun s => mulI (s := s) hp.dn hq.num
  have m4 := fun n s => t_lfrac (n := n) (s := s) (d := p.den * q.num.toNat) (Nat.mul_ne_zero p.den_nz (by omega)) (by rw [← d3]; exact bd_mono (bd_mul hp.dn hb))
  have m5 : (p.den : Int) * q.num = ((p.den * q.num.toNat : Nat) : Int) := by rw [← d3, ← en]
  clear d3 hb en hn
  decreasing_trivial
  rw [div_mk p q h0]
  rfl
theorem t_llt {p q : Rat} {a b : Nat} {s : S} (hp : Bd a p) (hq : Bd b q) (h : a + b ≤ 7900 := by omega) : F__law_lt [fr p, fr q] s = .ok (.bl (decide (p < q))) s := by
  unfold F__law_lt b__law_lt fr
  have m1 := fun s => mulI (s := s) hp.num hq.dn
  have m2 := fun s => mulI (s := s) hq.num hp.dn
  decreasing_trivial
  rw [decide_eq_decide.mpr (Rat.lt_iff p q)]
end K02

namespace K02
open PySem PySem.Spec L2 Tv
local macro_rules | `(tactic| get_elem_tactic_extensible) => `(tactic| simp only [v_var, v_varB, v_c, v_op, v_un, v_nil, v_cons, v_tup, v_lst, v_test, v_and, v_or, v_not, v_if, v_andV, v_orV, v_notV, v_chain, v_call, v_callF, v_callV, v_isi, v_slice, v_comp, unowned, List.all_cons, List.all_nil, wipeR, and_true, true_and, and_false, false_and, Int.cast_ofNat_Int, v_part, v_noPart, v_fld, v_yes, v_seqI, v_rng1, v_rng2, v_enumI, v_zipI, v_next, v_seq, v_set, v_setO, v_drop, v_ret, v_retN, v_brk, v_cnt, v_ifS, v_frz, v_while, v_for, v_meth, v_setIx, v_cell, v_aug, v_pt, v_par, v_setF, v_fun, v_ne_ok, v_loopF_nil, v_compF_nil,
  w_add, Tv.w_sub, w_lt, w_le, w_gt, w_ge, w_neg, w_eqI, w_neI, w_eqB, w_neB, w_is, w_isNot, w_ix20, w_ix21, w_lenT, w_lenL, w_lenZ, w_abs, w_int, w_min, w_max, w_tupT, w_tupL, w_tupZ, kT_int, kT_bl, kT_non, kT_str, kT_tup, kT_lst, k2, Tv.isNon, Pt.run, Pts.run, setM, ownL, baseOk, seqV,
  List.map_cons, List.map_nil, List.cons_append, List.nil_append, List.append_nil, List.replicate_zero, List.replicate_succ, List.length_cons, List.length_nil, List.getElem?_cons_zero, List.getElem?_cons_succ, List.getElem?_nil, List.set_cons_zero, List.set_cons_succ, List.set_nil, Option.some.injEq, ↓reduceIte, reduceCtorEq, decide_true, decide_false, decide_eq_true_eq, Bool.not_true, Bool.not_false, Bool.false_eq_true, Bool.and_true, Bool.true_and, Bool.or_false, Bool.false_or, Bool.or_true, Bool.true_or, Bool.and_false, Bool.false_and, if_true, if_false, String.reduceEq, or_false, or_true, false_or, true_or, Int.reduceLE, Int.reduceLT, Int.reduceNeg, Int.reduceToNat, Int.reduceAdd, Nat.reduceAdd, Nat.reduceLT, Int.reduceSub, Int.reduceMul, Int.reduceEq, Nat.reduceEqDiff, Int.zero_sub, BEq.rfl])
local macro_rules | `(tactic| decreasing_trivial) => `(tactic| simp only [v_var, v_varB, v_c, v_op, v_un, v_nil, v_cons, v_tup, v_lst, v_test, v_and, v_or, v_not, v_if, v_andV, v_orV, v_notV, v_chain, v_call, v_callF, v_callV, v_isi, v_slice, v_comp, unowned, List.all_cons, List.all_nil, wipeR, and_true, true_and, and_false, false_and, Int.cast_ofNat_Int, v_part, v_noPart, v_fld, v_yes, v_seqI, v_rng1, v_rng2, v_enumI, v_zipI, v_next, v_seq, v_set, v_setO, v_drop, v_ret, v_retN, v_brk, v_cnt, v_ifS, v_frz, v_while, v_for, v_meth, v_setIx, v_cell, v_aug, v_pt, v_par, v_setF, v_fun, v_ne_ok, v_loopF_nil, v_compF_nil,
  w_add, Tv.w_sub, w_lt, w_le, w_gt, w_ge, w_neg, w_eqI, w_neI, w_eqB, w_neB, w_is, w_isNot, w_ix20, w_ix21, w_lenT, w_lenL, w_lenZ, w_abs, w_int, w_min, w_max, w_tupT, w_tupL, w_tupZ, kT_int, kT_bl, kT_non, kT_str, kT_tup, kT_lst, k2, Tv.isNon, Pt.run, Pts.run, setM, ownL, baseOk, seqV,
  List.map_cons, List.map_nil, List.cons_append, List.nil_append, List.append_nil, List.replicate_zero, List.replicate_succ, List.length_cons, List.length_nil, List.getElem?_cons_zero, List.getElem?_cons_succ, List.getElem?_nil, List.set_cons_zero, List.set_cons_succ, List.set_nil, Option.some.injEq, ↓reduceIte, reduceCtorEq, decide_true, decide_false, decide_eq_true_eq, Bool.not_true, Bool.not_false, Bool.false_eq_true, Bool.and_true, Bool.true_and, Bool.or_false, Bool.false_or, Bool.or_true, Bool.true_or, Bool.and_false, Bool.false_and, if_true, if_false, String.reduceEq, or_false, or_true, false_or, true_or, Int.reduceLE, Int.reduceLT, Int.reduceNeg, Int.reduceToNat, Int.reduceAdd, Nat.reduceAdd, Nat.reduceLT, Int.reduceSub, Int.reduceMul, Int.reduceEq, Nat.reduceEqDiff, Int.zero_sub, BEq.rfl, *])

/-! ### draws -/
abbrev rowD (ns : List Int) (i : Nat) (a b : Int) : D := .lst [scr ns, .int i, .int a, .int b]
/-- the store while the law draws -/
def Rw (ns : List Int) (s : S) : Prop := ∃ (i : Nat) (a b : Int), s = [rowD ns i a b] ∧ bd 40 a
theorem ixF {ns : List Int} {i : Int} {z : Int} {s : S} (h : atI (ns.map D.int) i = some (.int z)) : gIx (scr ns) (.int i) s = .ok (.int z) s := by
  show (match atI (ns.map D.int) i with | some d => R.ok d s | none => R.no) = _
  rw [h]
theorem t_taken {ns : List Int} {s : S} {m : Int} {k : Nat} (h : Rw ns s) (hm : 0 < m) (hb : bd k m) (hk : k ≤ 8000 := by omega) : ∃ (v : Int) (s' : S), F__law_taken [.cell 0, .int m] s = .ok (.int v) s' ∧ 0 ≤ v ∧ v < m ∧ Rw ns s' := by
  obtain ⟨i, a, b, rfl, ha⟩ := h
  have g0 : ∀ (i a b : Int), gIx (.cell 0) (.int 0) [.lst [scr ns, .int i, .int a, .int b]] = .ok (scr ns) [.lst [scr ns, .int i, .int a, .int b]] := fun _ _ _ => rfl
  have g1 : ∀ (i a b : Int), gIx (.cell 0) (.int 1) [.lst [scr ns, .int i, .int a, .int b]] = .ok (.int i) [.lst [scr ns, .int i, .int a, .int b]] := fun _ _ _ => rfl
  have g2 : ∀ (i a b : Int), gIx (.cell 0) (.int 2) [.lst [scr ns, .int i, .int a, .int b]] = .ok (.int a) [.lst [scr ns, .int i, .int a, .int b]] := fun _ _ _ => rfl
  have g3 : ∀ (i a b : Int), gIx (.cell 0) (.int 3) [.lst [scr ns, .int i, .int a, .int b]] = .ok (.int b) [.lst [scr ns, .int i, .int a, .int b]] := fun _ _ _ => rfl
  have p1 : ∀ (x y i a b : Int) (t u : SD), setIx 0 1 (.int x) [.v (.cell 0), .v (.int y), t, u] [.lst [scr ns, .int i, .int a, .int b]] = .nx [.v (.cell 0), .v (.int y), t, u] [.lst [scr ns, .int x, .int a, .int b]] := fun _ _ _ _ _ _ _ => rfl
  have p2 : ∀ (x y i a b : Int) (t u : SD), setIx 0 2 (.int x) [.v (.cell 0), .v (.int y), t, u] [.lst [scr ns, .int i, .int a, .int b]] = .nx [.v (.cell 0), .v (.int y), t, u] [.lst [scr ns, .int i, .int x, .int b]] := fun _ _ _ _ _ _ _ => rfl
  have p3 : ∀ (x y i a b : Int) (t u : SD), setIx 0 3 (.int x) [.v (.cell 0), .v (.int y), t, u] [.lst [scr ns, .int i, .int a, .int b]] = .nx [.v (.cell 0), .v (.int y), t, u] [.lst [scr ns, .int i, .int a, .int x]] := fun _ _ _ _ _ _ _ => rfl
  have dv : ∀ (x : Int) (s : S), gDiv (.int x) (.int m) s = .ok (.int (x / m)) s := fun x s => divI hb hm
  have md : ∀ (x : Int) (s : S), gMod (.int x) (.int m) s = .ok (.int (x % m)) s := fun x s => w_mod hm
  have mM : ∀ (x : Int) (s : S), gMod (.int x) (.int 2147483647) s = .ok (.int (x % 2147483647)) s := fun x s => w_mod (by omega)
  have mT : ∀ (x : Int) (s : S), gMod (.int x) (.int 1000003) s = .ok (.int (x % 1000003)) s := fun x s => w_mod (by omega)
  have d7 : ∀ (x : Int) (s : S), gDiv (.int x) (.int 7) s = .ok (.int (x / 7)) s := fun x s => divI (a := 10) bd_small (by omega)
  have d11 : ∀ (x : Int) (s : S), gDiv (.int x) (.int 11) s = .ok (.int (x / 11)) s := fun x s => divI (a := 10) bd_small (by omega)
  have lo : ∀ x : Int, 0 ≤ x % m := fun x => Int.emod_nonneg x (by omega)
  have hi : ∀ x : Int, x % m < m := fun x => Int.emod_lt_of_pos x hm
  have mu : ∀ s : S, gMul (.int a) (.int 48271) s = .ok (.int (a * 48271)) s := fun s => mulI ha (b := 20) (show (48271 : Int).natAbs < 2 ^ 20 by decide)
  have m31 : ∀ (x : Int) (s : S), gMul (.int (x % 1000003)) (.int 31) s = .ok (.int (x % 1000003 * 31)) s := fun x s => mulI (a := 20) (b := 10) (by
    have h1 : 0 ≤ x % 1000003 := Int.emod_nonneg x (by omega)
    have h2 : x % 1000003 < 1000003 := Int.emod_lt_of_pos x (by omega)
    show (x % 1000003).natAbs < 2 ^ 20
    have e : (2 : Nat) ^ 20 = 1048576 := by decide
    omega) bd_small
  have pw : ∀ s : S, gPow (.int 10) (.int 18) s = .ok (.int 1000000000000000000) s := fun s => by
    show (if (0 : Int) ≤ 18 ∧ (18 : Int) ≤ 1000000 ∧ (10 : Int).natAbs < 2 ^ 64 then R.ok (D.int (10 ^ (18 : Int).toNat)) s else R.no) = _
    rw [if_pos (by decide)]
    rfl
  have newa : ∀ x : Int, bd 40 (x % 2147483647) := fun x => by
    have h1 : 0 ≤ x % 2147483647 := Int.emod_nonneg x (by omega)
    have h2 : x % 2147483647 < 2147483647 := Int.emod_lt_of_pos x (by omega)
    show (x % 2147483647).natAbs < 2 ^ 40
    have e : (2 : Nat) ^ 40 = 1099511627776 := by decide
    omega
  have fl : gLen [scr ns] = fun s => .ok (.int (ns.length : Nat)) s := by
    funext s
    show R.ok (D.int ((ns.map D.int).length : Nat)) s = _
    rw [List.length_map]
  have fl' : ∀ s : S, gLen [scr ns] s = .ok (.int (ns.length : Nat)) s := fun s => by rw [fl]
  clear fl
  by_cases h3 : 0 < b
  · refine ⟨b % m, [.lst [scr ns, .int i, .int a, .int (b / m)]], ?_, lo _, hi _, i, a, b / m, rfl, ha⟩
    unfold F__law_taken b__law_taken
    clear newa lo hi
    decreasing_trivial
  · by_cases h4 : (ns.length : Int) < (i : Int) + 1
    · refine ⟨(a * 48271 + 11) % 2147483647 / 7 % m, [.lst [scr ns, .int (i + 1 : Nat), .int ((a * 48271 + 11) % 2147483647), .int b]], ?_, lo _, hi _, i + 1, _, b, rfl, newa _⟩
      unfold F__law_taken b__law_taken
      clear newa lo hi
      decreasing_trivial
      rfl
    · have hlt : i < ns.length := by omega
      have hz : atI (ns.map D.int) ((i : Int) + 1 - 1) = some (.int ns[i]) := by
        have e : (i : Int) + 1 - 1 = (i : Int) := by omega
        rw [e, Tv.atI_nat, List.getElem?_map, List.getElem?_eq_getElem hlt]
        rfl
      have gz : ∀ s : S, gIx (scr ns) (.int ((i : Int) + 1 - 1)) s = .ok (.int ns[i]) s := fun s => ixF hz
      generalize ns[i] = z at *
      by_cases h5 : (1000000000000000000 : Int) ≤ z
      · refine ⟨z % m, [.lst [scr ns, .int (i + 1 : Nat), .int ((a * 48271 + z + 11) % 2147483647), .int (z / m)]], ?_, lo _, hi _, i + 1, _, _, rfl, newa _⟩
        unfold F__law_taken b__law_taken
        clear newa lo hi hz
        decreasing_trivial
        rfl
      · refine ⟨(z % 1000003 * 31 + (a * 48271 + z + 11) % 2147483647 / 11) % m, [.lst [scr ns, .int (i + 1 : Nat), .int ((a * 48271 + z + 11) % 2147483647), .int b]], ?_, lo _, hi _, i + 1, _, b, rfl, newa _⟩
        unfold F__law_taken b__law_taken
        clear newa lo hi hz
        decreasing_trivial
        rfl
theorem t_pick {ns : List Int} {s : S} {ds : List D} (h : Rw ns s) (h0 : ds ≠ []) (hl : ds.length ≤ 1000) : ∃ (d : D) (s' : S), F__law_pick [.cell 0, .lst ds] s = .ok d s' ∧ d ∈ ds ∧ Rw ns s' := by
  have hp : 0 < ds.length := List.length_pos_iff.mpr h0
  obtain ⟨v, s', e, v0, v1, r⟩ := t_taken (m := (ds.length : Nat)) (k := 10) h (by omega) (by show ((ds.length : Nat) : Int).natAbs < 2 ^ 10; rw [Int.natAbs_natCast]; omega)
  obtain ⟨j, rfl⟩ : ∃ j : Nat, v = (j : Int) := ⟨v.toNat, by omega⟩
  have hj : j < ds.length := by omega
  refine ⟨ds[j], s', ?_, List.getElem_mem hj, r⟩
  have gz : ∀ s : S, gIx (.lst ds) (.int (j : Int)) s = .ok ds[j] s := fun s => ixL (by rw [Tv.atI_nat, List.getElem?_eq_getElem hj])
  unfold F__law_pick b__law_pick
  clear h v0 v1 r hp hl
  decreasing_trivial
theorem t_pickT {ns : List Int} {s : S} {ds : List D} (h : Rw ns s) (h0 : ds ≠ []) (hl : ds.length ≤ 1000) : ∃ (d : D) (s' : S), F__law_pick [.cell 0, .tup ds] s = .ok d s' ∧ d ∈ ds ∧ Rw ns s' := by
  have hp : 0 < ds.length := List.length_pos_iff.mpr h0
  obtain ⟨v, s', e, v0, v1, r⟩ := t_taken (m := (ds.length : Nat)) (k := 10) h (by omega) (by show ((ds.length : Nat) : Int).natAbs < 2 ^ 10; rw [Int.natAbs_natCast]; omega)
  obtain ⟨j, rfl⟩ : ∃ j : Nat, v = (j : Int) := ⟨v.toNat, by omega⟩
  have hj : j < ds.length := by omega
  refine ⟨ds[j], s', ?_, List.getElem_mem hj, r⟩
  have gz : ∀ s : S, gIx (.tup ds) (.int (j : Int)) s = .ok ds[j] s := fun s => ixT (by rw [Tv.atI_nat, List.getElem?_eq_getElem hj])
  unfold F__law_pick b__law_pick
  clear h v0 v1 r hp hl
  decreasing_trivial
end K02

namespace K02
open PySem PySem.Spec L2 Tv
local macro_rules | `(tactic| get_elem_tactic_extensible) => `(tactic| simp only [v_var, v_varB, v_c, v_op, v_un, v_nil, v_cons, v_tup, v_lst, v_test, v_and, v_or, v_not, v_if, v_andV, v_orV, v_notV, v_chain, v_call, v_callF, v_callV, v_isi, v_slice, v_comp, unowned, List.all_cons, List.all_nil, wipeR, and_true, true_and, and_false, false_and, Int.cast_ofNat_Int, v_part, v_noPart, v_fld, v_yes, v_seqI, v_rng1, v_rng2, v_enumI, v_zipI, v_next, v_seq, v_set, v_setO, v_drop, v_ret, v_retN, v_brk, v_cnt, v_ifS, v_frz, v_while, v_for, v_meth, v_setIx, v_cell, v_aug, v_pt, v_par, v_setF, v_fun, v_ne_ok, v_loopF_nil, v_compF_nil,
  w_add, Tv.w_sub, w_lt, w_le, w_gt, w_ge, w_neg, w_eqI, w_neI, w_eqB, w_neB, w_is, w_isNot, w_ix20, w_ix21, w_lenT, w_lenL, w_lenZ, w_abs, w_int, w_min, w_max, w_tupT, w_tupL, w_tupZ, kT_int, kT_bl, kT_non, kT_str, kT_tup, kT_lst, k2, Tv.isNon, Pt.run, Pts.run, setM, ownL, baseOk, seqV,
  List.map_cons, List.map_nil, List.cons_append, List.nil_append, List.append_nil, List.replicate_zero, List.replicate_succ, List.length_cons, List.length_nil, List.getElem?_cons_zero, List.getElem?_cons_succ, List.getElem?_nil, List.set_cons_zero, List.set_cons_succ, List.set_nil, Option.some.injEq, ↓reduceIte, reduceCtorEq, decide_true, decide_false, decide_eq_true_eq, Bool.not_true, Bool.not_false, Bool.false_eq_true, Bool.and_true, Bool.true_and, Bool.or_false, Bool.false_or, Bool.or_true, Bool.true_or, Bool.and_false, Bool.false_and, if_true, if_false, String.reduceEq, or_false, or_true, false_or, true_or, Int.reduceLE, Int.reduceLT, Int.reduceNeg, Int.reduceToNat, Int.reduceAdd, Nat.reduceAdd, Nat.reduceLT, Int.reduceSub, Int.reduceMul, Int.reduceEq, Nat.reduceEqDiff, Int.zero_sub, BEq.rfl])
local macro_rules | `(tactic| decreasing_trivial) => `(tactic| simp only [v_var, v_varB, v_c, v_op, v_un, v_nil, v_cons, v_tup, v_lst, v_test, v_and, v_or, v_not, v_if, v_andV, v_orV, v_notV, v_chain, v_call, v_callF, v_callV, v_isi, v_slice, v_comp, unowned, List.all_cons, List.all_nil, wipeR, and_true, true_and, and_false, false_and, Int.cast_ofNat_Int, v_part, v_noPart, v_fld, v_yes, v_seqI, v_rng1, v_rng2, v_enumI, v_zipI, v_next, v_seq, v_set, v_setO, v_drop, v_ret, v_retN, v_brk, v_cnt, v_ifS, v_frz, v_while, v_for, v_meth, v_setIx, v_cell, v_aug, v_pt, v_par, v_setF, v_fun, v_ne_ok, v_loopF_nil, v_compF_nil,
  w_add, Tv.w_sub, w_lt, w_le, w_gt, w_ge, w_neg, w_eqI, w_neI, w_eqB, w_neB, w_is, w_isNot, w_ix20, w_ix21, w_lenT, w_lenL, w_lenZ, w_abs, w_int, w_min, w_max, w_tupT, w_tupL, w_tupZ, kT_int, kT_bl, kT_non, kT_str, kT_tup, kT_lst, k2, Tv.isNon, Pt.run, Pts.run, setM, ownL, baseOk, seqV,
  List.map_cons, List.map_nil, List.cons_append, List.nil_append, List.append_nil, List.replicate_zero, List.replicate_succ, List.length_cons, List.length_nil, List.getElem?_cons_zero, List.getElem?_cons_succ, List.getElem?_nil, List.set_cons_zero, List.set_cons_succ, List.set_nil, Option.some.injEq, ↓reduceIte, reduceCtorEq, decide_true, decide_false, decide_eq_true_eq, Bool.not_true, Bool.not_false, Bool.false_eq_true, Bool.and_true, Bool.true_and, Bool.or_false, Bool.false_or, Bool.or_true, Bool.true_or, Bool.and_false, Bool.false_and, if_true, if_false, String.reduceEq, or_false, or_true, false_or, true_or, Int.reduceLE, Int.reduceLT, Int.reduceNeg, Int.reduceToNat, Int.reduceAdd, Nat.reduceAdd, Nat.reduceLT, Int.reduceSub, Int.reduceMul, Int.reduceEq, Nat.reduceEqDiff, Int.zero_sub, BEq.rfl, *])

/-! ### alike: a value is like itself -/
def plb : Nat → D → Bool
  | _, .int _ => true
  | _, .non => true
  | _, .bl _ => true
  | n + 1, .tup ds => decide (ds.length ≤ 100000) && ds.all (plb n)
  | n + 1, .lst ds => decide (ds.length ≤ 100000) && ds.all (plb n)
  | _, _ => false
theorem rngD_len (i : Int) (n : Nat) : (rngD i n).length = n := by unfold rngD; simp
theorem rngD_mem {i : Int} {n : Nat} {d : D} (h : d ∈ rngD i n) : ∃ k : Nat, k < n ∧ d = .int (i + k) := by
  unfold rngD at h
  obtain ⟨k, hk, rfl⟩ := List.mem_map.mp h
  exact ⟨k, List.mem_range.mp hk, rfl⟩
theorem t_alike : ∀ (n : Nat) (d : D) (s : S), plb n d = true → F__law_alike (n + 1) [d, d] s = .ok (.bl true) s
  | n, .int i, s, _ => by
    unfold F__law_alike b__law_alike
    get_elem_tactic_extensible
  | n, .bl i, s, _ => by
    unfold F__law_alike b__law_alike
    get_elem_tactic_extensible
  | n, .non, s, _ => by
    unfold F__law_alike b__law_alike
    have := fun s => w_eq (s := s) eqD_non
    decreasing_trivial
  | n + 1, .tup ds, s, h => by
    unfold plb at h
    rw [Bool.and_eq_true] at h
    obtain ⟨hl, ha⟩ := h
    have hl : ds.length ≤ 100000 := of_decide_eq_true hl
    have hr : rngOk (ds.length : Nat) = true := rng_ok (by omega) (by omega)
    have hz : (rngD 0 ((ds.length : Nat) : Int).toNat).length ≤ sizeLine := by rw [rngD_len]; exact size_ok (by simpa using hl)
    have hq := fun s => w_eq (s := s) eqD_nil
    unfold F__law_alike b__law_alike
    decreasing_trivial
    rw [compF_none fun d hd => ?_]
    · decreasing_trivial
    · obtain ⟨k, hk, rfl⟩ := rngD_mem hd
      have hk : k < ds.length := by simpa using hk
      have g1 : ∀ s, gIx (.tup ds) (.int (0 + (k : Int))) s = .ok ds[k] s := fun s => ixT (by rw [Int.zero_add]; exact atI_get (List.getElem?_eq_getElem hk))
      have ih := fun s => t_alike n ds[k] s (List.all_eq_true.mp ha _ (List.getElem_mem hk))
      refine ⟨_, rfl, ?_⟩
      clear hd
      unfold t__law_alike_1
      decreasing_trivial
  | n + 1, .lst ds, s, h => by
    unfold plb at h
    rw [Bool.and_eq_true] at h
    obtain ⟨hl, ha⟩ := h
    have hl : ds.length ≤ 100000 := of_decide_eq_true hl
    have hr : rngOk (ds.length : Nat) = true := rng_ok (by omega) (by omega)
    have hz : (rngD 0 ((ds.length : Nat) : Int).toNat).length ≤ sizeLine := by rw [rngD_len]; exact size_ok (by simpa using hl)
    have hq := fun s => w_eq (s := s) eqD_nil
    unfold F__law_alike b__law_alike
    decreasing_trivial
    rw [compF_none fun d hd => ?_]
    · decreasing_trivial
    · obtain ⟨k, hk, rfl⟩ := rngD_mem hd
      have hk : k < ds.length := by simpa using hk
      have g1 : ∀ s, gIx (.lst ds) (.int (0 + (k : Int))) s = .ok ds[k] s := fun s => ixL (by rw [Int.zero_add]; exact atI_get (List.getElem?_eq_getElem hk))
      have ih := fun s => t_alike n ds[k] s (List.all_eq_true.mp ha _ (List.getElem_mem hk))
      refine ⟨_, rfl, ?_⟩
      clear hd
      unfold t__law_alike_1
      decreasing_trivial
  | 0, .tup ds, s, h => by unfold plb at h; cases h
  | 0, .lst ds, s, h => by unfold plb at h; cases h
  | n, .str b, _, h => by unfold plb at h; cases n <;> cases h
  | n, .frz b, _, h => by unfold plb at h; cases n <;> cases h
  | n, .ins _ _, _, h => by unfold plb at h; cases n <;> cases h
  | n, .cell _, _, h => by unfold plb at h; cases n <;> cases h
  | n, .fn _, _, h => by unfold plb at h; cases n <;> cases h
  | n, .dic _ _, _, h => by unfold plb at h; cases n <;> cases h
  | n, .exc _ _, _, h => by unfold plb at h; cases n <;> cases h
  | n, .sf _ _, _, h => by unfold plb at h; cases n <;> cases h

/-! ### knots -/
abbrev Kn := List (Int × Int)
def pD (p : Int × Int) : D := .tup [.int p.1, .int p.2]
def kD (ks : Kn) : D := .tup (ks.map pD)
/-- the program's points: fractions -/
def ptD (p : Int × Int) : D := .tup [.tup [.int p.1, .int 1], .tup [.int p.2, .int 1]]
def Chn : Kn → Prop
  | p :: q :: r => p.1 < q.1 ∧ p.2 ≤ q.2 ∧ Chn (q :: r)
  | _ => True
def Rg (ks : Kn) : Prop := ∀ p, p ∈ ks → 0 ≤ p.1 ∧ p.1 ≤ 255 ∧ 0 ≤ p.2 ∧ p.2 ≤ 255
def lastP : Kn → Int × Int
  | [] => (0, 0)
  | [p] => p
  | _ :: r => lastP r
structure Val (ks : Kn) : Prop where
  two : 2 ≤ ks.length
  most : ks.length ≤ 12
  chn : Chn ks
  rg : Rg ks
  x0 : ∃ y r, ks = (0, y) :: r
  xn : (lastP ks).1 = 255
/-- the value at t, straight between the knots -/
def at_ : Kn → Rat → Rat
  | p :: q :: r, t => if t ≤ (q.1 : Rat) then (p.2 : Rat) + (t - (p.1 : Rat)) / ((q.1 : Rat) - (p.1 : Rat)) * ((q.2 : Rat) - (p.2 : Rat)) else at_ (q :: r) t
  | [p], _ => (p.2 : Rat)
  | [], _ => 0
theorem Chn.tail {p : Int × Int} {r : Kn} (h : Chn (p :: r)) : Chn r := by
  cases r with
  | nil => trivial
  | cons q r => exact h.2.2
theorem Rg.tail {p : Int × Int} {r : Kn} (h : Rg (p :: r)) : Rg r := fun q hq => h q (List.mem_cons_of_mem _ hq)
theorem lastP_cons {p q : Int × Int} {r : Kn} : lastP (p :: q :: r) = lastP (q :: r) := rfl
theorem lastP_get : ∀ {ks : Kn}, ks ≠ [] → ks[ks.length - 1]? = some (lastP ks)
  | [], h => absurd rfl h
  | [p], _ => rfl
  | p :: q :: r, _ => by
    have := lastP_get (ks := q :: r) (by simp)
    rw [lastP_cons]
    simpa using this
theorem bd_r {i : Int} (h0 : 0 ≤ i) (h1 : i ≤ 255) : bd 8 i := by
  show i.natAbs < 2 ^ 8
  have : (2 : Nat) ^ 8 = 256 := by decide
  omega
theorem Bd_r {i : Int} (h0 : 0 ≤ i) (h1 : i ≤ 255) : Bd 8 (i : Rat) := Bd_int (bd_r h0 h1)
theorem frI (i : Int) : D.tup [.int i, .int 1] = fr (i : Rat) := (fr_int i).symm
theorem cast_lt {a b : Int} (h : a < b) : (a : Rat) < (b : Rat) := by exact_mod_cast h
theorem cast_le {a b : Int} (h : a ≤ b) : (a : Rat) ≤ (b : Rat) := by exact_mod_cast h
/-- the size of a value -/
theorem at_Bd {n : Nat} : ∀ (ks : Kn) (t : Rat), Chn ks → Rg ks → ks ≠ [] → Bd n t → Bd (n + 40) (at_ ks t)
  | [], _, _, _, h, _ => absurd rfl h
  | [p], t, _, hr, _, ht => by
    obtain ⟨_, _, h3, h4⟩ := hr p List.mem_cons_self
    exact (Bd_r h3 h4).mono
  | p :: q :: r, t, hc, hr, _, ht => by
    unfold at_
    split
    · obtain ⟨h1, h2, h3, h4⟩ := hr p List.mem_cons_self
      obtain ⟨g1, g2, g3, g4⟩ := hr q (List.mem_cons_of_mem _ List.mem_cons_self)
      have lt := cast_lt hc.1
      have b1 := Bd_sub ht (Bd_r h1 h2)
      have b2 : Bd 9 ((q.1 : Rat) - (p.1 : Rat)) := by
        rw [← Rat.intCast_sub]
        exact Bd_int (show (q.1 - p.1).natAbs < 2 ^ 9 by have : (2 : Nat) ^ 9 = 512 := by decide
                                                         omega)
      have b3 : Bd 9 ((q.2 : Rat) - (p.2 : Rat)) := by
        rw [← Rat.intCast_sub]
        exact Bd_int (show (q.2 - p.2).natAbs < 2 ^ 9 by have : (2 : Nat) ^ 9 = 512 := by decide
                                                         omega)
      have b4 := Bd_mul (Bd_div b1 b2 (by grind)) b3
      exact (Bd_add (Bd_r h3 h4) b4).mono
    · exact at_Bd (q :: r) t hc.tail hr.tail (by simp) ht
end K02

namespace K02
open PySem PySem.Spec L2 Tv
local macro_rules | `(tactic| get_elem_tactic_extensible) => `(tactic| simp only [v_var, v_varB, v_c, v_op, v_un, v_nil, v_cons, v_tup, v_lst, v_test, v_and, v_or, v_not, v_if, v_andV, v_orV, v_notV, v_chain, v_call, v_callF, v_callV, v_isi, v_slice, v_comp, unowned, List.all_cons, List.all_nil, wipeR, and_true, true_and, and_false, false_and, Int.cast_ofNat_Int, v_part, v_noPart, v_fld, v_yes, v_seqI, v_rng1, v_rng2, v_enumI, v_zipI, v_next, v_seq, v_set, v_setO, v_drop, v_ret, v_retN, v_brk, v_cnt, v_ifS, v_frz, v_while, v_for, v_meth, v_setIx, v_cell, v_aug, v_pt, v_par, v_setF, v_fun, v_ne_ok, v_loopF_nil, v_compF_nil,
  w_add, Tv.w_sub, w_lt, w_le, w_gt, w_ge, w_neg, w_eqI, w_neI, w_eqB, w_neB, w_is, w_isNot, w_ix20, w_ix21, w_lenT, w_lenL, w_lenZ, w_abs, w_int, w_min, w_max, w_tupT, w_tupL, w_tupZ, kT_int, kT_bl, kT_non, kT_str, kT_tup, kT_lst, k2, Tv.isNon, Pt.run, Pts.run, setM, ownL, baseOk, seqV,
  List.map_cons, List.map_nil, List.cons_append, List.nil_append, List.append_nil, List.replicate_zero, List.replicate_succ, List.length_cons, List.length_nil, List.getElem?_cons_zero, List.getElem?_cons_succ, List.getElem?_nil, List.set_cons_zero, List.set_cons_succ, List.set_nil, Option.some.injEq, ↓reduceIte, reduceCtorEq, decide_true, decide_false, decide_eq_true_eq, Bool.not_true, Bool.not_false, Bool.false_eq_true, Bool.and_true, Bool.true_and, Bool.or_false, Bool.false_or, Bool.or_true, Bool.true_or, Bool.and_false, Bool.false_and, if_true, if_false, String.reduceEq, or_false, or_true, false_or, true_or, Int.reduceLE, Int.reduceLT, Int.reduceNeg, Int.reduceToNat, Int.reduceAdd, Nat.reduceAdd, Nat.reduceLT, Int.reduceSub, Int.reduceMul, Int.reduceEq, Nat.reduceEqDiff, Int.zero_sub, BEq.rfl])
local macro_rules | `(tactic| decreasing_trivial) => `(tactic| simp only [v_var, v_varB, v_c, v_op, v_un, v_nil, v_cons, v_tup, v_lst, v_test, v_and, v_or, v_not, v_if, v_andV, v_orV, v_notV, v_chain, v_call, v_callF, v_callV, v_isi, v_slice, v_comp, unowned, List.all_cons, List.all_nil, wipeR, and_true, true_and, and_false, false_and, Int.cast_ofNat_Int, v_part, v_noPart, v_fld, v_yes, v_seqI, v_rng1, v_rng2, v_enumI, v_zipI, v_next, v_seq, v_set, v_setO, v_drop, v_ret, v_retN, v_brk, v_cnt, v_ifS, v_frz, v_while, v_for, v_meth, v_setIx, v_cell, v_aug, v_pt, v_par, v_setF, v_fun, v_ne_ok, v_loopF_nil, v_compF_nil,
  w_add, Tv.w_sub, w_lt, w_le, w_gt, w_ge, w_neg, w_eqI, w_neI, w_eqB, w_neB, w_is, w_isNot, w_ix20, w_ix21, w_lenT, w_lenL, w_lenZ, w_abs, w_int, w_min, w_max, w_tupT, w_tupL, w_tupZ, kT_int, kT_bl, kT_non, kT_str, kT_tup, kT_lst, k2, Tv.isNon, Pt.run, Pts.run, setM, ownL, baseOk, seqV,
  List.map_cons, List.map_nil, List.cons_append, List.nil_append, List.append_nil, List.replicate_zero, List.replicate_succ, List.length_cons, List.length_nil, List.getElem?_cons_zero, List.getElem?_cons_succ, List.getElem?_nil, List.set_cons_zero, List.set_cons_succ, List.set_nil, Option.some.injEq, ↓reduceIte, reduceCtorEq, decide_true, decide_false, decide_eq_true_eq, Bool.not_true, Bool.not_false, Bool.false_eq_true, Bool.and_true, Bool.true_and, Bool.or_false, Bool.false_or, Bool.or_true, Bool.true_or, Bool.and_false, Bool.false_and, if_true, if_false, String.reduceEq, or_false, or_true, false_or, true_or, Int.reduceLE, Int.reduceLT, Int.reduceNeg, Int.reduceToNat, Int.reduceAdd, Nat.reduceAdd, Nat.reduceLT, Int.reduceSub, Int.reduceMul, Int.reduceEq, Nat.reduceEqDiff, Int.zero_sub, BEq.rfl, *])

theorem cut1 {α : Type} (xs : List α) : cutD xs (some 1) none = xs.drop 1 := by
  unfold cutD
  rw [show HT.sIx xs.length 0 (some 1) = min 1 xs.length from HT.sIx_nat xs.length 0 1, HT.sIx_none]
  cases xs with
  | nil => rfl
  | cons x r =>
    rw [show min 1 (x :: r).length = 1 by rw [List.length_cons]; omega]
    show List.take ((x :: r).length - 1) r = r
    rw [List.length_cons, Nat.add_sub_cancel]
    exact List.take_length
theorem w_cut1L {ds : List D} {s : S} : gSliceA (.lst ds) (some 1) none s = .ok (.lst (ds.drop 1)) s := by
  show R.ok (D.lst (cutD ds (some 1) none)) s = _
  rw [cut1]
theorem w_cut1T {ds : List D} {s : S} : gSliceA (.tup ds) (some 1) none s = .ok (.tup (ds.drop 1)) s := by
  show R.ok (D.tup (cutD ds (some 1) none)) s = _
  rw [cut1]
def zz (f : Int × Int → D) (ks : Kn) : List D := zipD (ks.map f) ((ks.map f).drop 1)
theorem zz_cons (f : Int × Int → D) (p q : Int × Int) (r : Kn) : zz f (p :: q :: r) = .tup [f p, f q] :: zz f (q :: r) := rfl
theorem zz_one (f : Int × Int → D) (p : Int × Int) : zz f [p] = [] := rfl
abbrev segT : Pt := .tp (.cons (.tp (.cons (.nm 2) (.cons (.nm 3) .nil))) (.cons (.tp (.cons (.nm 4) (.cons (.nm 5) .nil))) .nil))
theorem sub_cast (a b : Int) : (a : Rat) - (b : Rat) = ((a - b : Int) : Rat) := (Rat.intCast_sub a b).symm
theorem Bd_d {a b : Int} (h0 : 0 ≤ a) (h1 : a ≤ 255) (h2 : 0 ≤ b) (h3 : b ≤ 255) : Bd 9 ((a : Rat) - (b : Rat)) := by
  rw [sub_cast]
  exact Bd_int (show (a - b).natAbs < 2 ^ 9 by have : (2 : Nat) ^ 9 = 512 := by decide
                                               omega)
theorem between_turn {p q : Int × Int} {t : Rat} {n : Nat} {P e : SD} {s : S} (h : p.1 < q.1) (hp : 0 ≤ p.1 ∧ p.1 ≤ 255 ∧ 0 ≤ p.2 ∧ p.2 ≤ 255) (hq : 0 ≤ q.1 ∧ q.1 ≤ 255 ∧ 0 ≤ q.2 ∧ q.2 ≤ 255) (ht : Bd n t) (hn : n ≤ 100) :
    l_between_1 [P, .v (fr t), .v (fr (p.1 : Rat)), .v (fr (p.2 : Rat)), .v (fr (q.1 : Rat)), .v (fr (q.2 : Rat)), e] s =
      if t ≤ (q.1 : Rat) then .rt (fr ((p.2 : Rat) + (t - (p.1 : Rat)) / ((q.1 : Rat) - (p.1 : Rat)) * ((q.2 : Rat) - (p.2 : Rat)))) s else .nx [P, .v (fr t), .v (fr (p.1 : Rat)), .v (fr (p.2 : Rat)), .v (fr (q.1 : Rat)), .v (fr (q.2 : Rat)), e] s := by
  obtain ⟨p1, p2, p3, p4⟩ := hp
  obtain ⟨q1, q2, q3, q4⟩ := hq
  have lt := cast_lt h
  have e1 := fun s => t_is_less (s := s) (Bd_r q1 q2) ht
  have b1 := Bd_sub ht (Bd_r p1 p2)
  have b2 := Bd_d q1 q2 p1 p2
  have b3 := Bd_d q3 q4 p3 p4
  have pos : 0 < (q.1 : Rat) - (p.1 : Rat) := by grind
  have e2 := fun s => t_minus (s := s) ht (Bd_r p1 p2)
  have e3 := fun s => t_minus (s := s) (Bd_r q1 q2) (Bd_r p1 p2)
  have e4 := fun s => t_minus (s := s) (Bd_r q3 q4) (Bd_r p3 p4)
  have e5 := fun s => t_by (s := s) b1 b2 pos
  have e6 := fun s => t_times (s := s) (Bd_div b1 b2 pos) b3
  have e7 := fun s => t_plus (s := s) (Bd_r p3 p4) (Bd_mul (Bd_div b1 b2 pos) b3)
  unfold l_between_1
  clear b1 b2 b3 pos lt p1 p2 p3 p4 q1 q2 q3 q4 ht h
  by_cases hle : t ≤ (q.1 : Rat)
  · have hd : decide ((q.1 : Rat) < t) = false := decide_eq_false (by grind)
    decreasing_trivial
  · have hd : decide ((q.1 : Rat) < t) = true := decide_eq_true (by grind)
    clear e2 e3 e4 e5 e6 e7
    decreasing_trivial
theorem pt_run {p q : Int × Int} {P t a b c d e : SD} : segT.run (.tup [ptD p, ptD q]) [P, t, a, b, c, d, e] = some [P, t, .v (fr (p.1 : Rat)), .v (fr (p.2 : Rat)), .v (fr (q.1 : Rat)), .v (fr (q.2 : Rat)), e] := by
  unfold ptD
  rw [frI, frI, frI, frI]
  rfl
theorem between_loop {t : Rat} {n : Nat} (ht : Bd n t) (hn : n ≤ 100) : ∀ (ks : Kn) (P a b c d e : SD) (s : S), Chn ks → Rg ks → 2 ≤ ks.length → t ≤ ((lastP ks).1 : Rat) → loopF segT l_between_1 (zz ptD ks) [P, .v (fr t), a, b, c, d, e] s = .rt (fr (at_ ks t)) s
  | [], _, _, _, _, _, _, _, _, _, h, _ => by simp at h
  | [_], _, _, _, _, _, _, _, _, _, h, _ => by simp at h
  | p :: q :: r, P, a, b, c, d, e, s, hc, hr, _, hl => by
    rw [zz_cons, v_loopF, pt_run]
    dsimp only
    rw [between_turn hc.1 (hr p List.mem_cons_self) (hr q (List.mem_cons_of_mem _ List.mem_cons_self)) ht hn]
    unfold at_
    by_cases hle : t ≤ (q.1 : Rat)
    · rw [if_pos hle, if_pos hle]
    · rw [if_neg hle, if_neg hle]
      dsimp only
      cases r with
      | nil => exact absurd hl hle
      | cons q2 r => exact between_loop ht hn (q :: q2 :: r) _ _ _ _ _ _ s hc.tail hr.tail (by simp) hl
theorem t_between {ks : Kn} {t : Rat} {n : Nat} {s : S} (hc : Chn ks) (hr : Rg ks) (h2 : 2 ≤ ks.length) (hl : t ≤ ((lastP ks).1 : Rat)) (ht : Bd n t) (hn : n ≤ 100) : F_between [.lst (ks.map ptD), fr t] s = .ok (fr (at_ ks t)) s := by
  have e1 := between_loop ht hn ks (.v (.lst (ks.map ptD))) .un .un .un .un .un s hc hr h2 hl
  have e2 := fun s => w_cut1L (ds := ks.map ptD) (s := s)
  have e3 : zipD (ks.map ptD) ((ks.map ptD).drop 1) = zz ptD ks := rfl
  unfold F_between b_between
  clear ht hl hc hr h2
  decreasing_trivial
/-! the law's own -/
theorem pt_run2 {p q : Int × Int} {P t k a b c d e : SD} : (Pt.tp (.cons (.tp (.cons (.nm 3) (.cons (.nm 4) .nil))) (.cons (.tp (.cons (.nm 5) (.cons (.nm 6) .nil))) .nil))).run (.tup [pD p, pD q]) [P, t, k, a, b, c, d, e] = some [P, t, k, .v (.int p.1), .v (.int p.2), .v (.int q.1), .v (.int q.2), e] := rfl
theorem lcurve_turn {ks : Kn} {p q : Int × Int} {t : Rat} {n k : Nat} {a b c d e : SD} {s : S} (hk : ks[k]? = some p) (hk2 : ks[k + 1]? = some q) (h : p.1 < q.1) (hp : 0 ≤ p.1 ∧ p.1 ≤ 255 ∧ 0 ≤ p.2 ∧ p.2 ≤ 255) (hq : 0 ≤ q.1 ∧ q.1 ≤ 255 ∧ 0 ≤ q.2 ∧ q.2 ≤ 255) (ht : Bd n t) (hn : n ≤ 100) :
    l__law_curve_at_1 [.v (kD ks), .v (fr t), .v (.int (0 + (k : Int))), a, b, c, d, e] s =
      if t ≤ (q.1 : Rat) then .rt (fr ((p.2 : Rat) + (t - (p.1 : Rat)) / ((q.1 : Rat) - (p.1 : Rat)) * ((q.2 : Rat) - (p.2 : Rat)))) s else .nx [.v (kD ks), .v (fr t), .v (.int (0 + (k : Int))), .v (.int p.1), .v (.int p.2), .v (.int q.1), .v (.int q.2), e] s := by
  obtain ⟨p1, p2, p3, p4⟩ := hp
  obtain ⟨q1, q2, q3, q4⟩ := hq
  have lt := cast_lt h
  have e1 := fun s => t_llt (s := s) (Bd_r q1 q2) ht
  have b1 := Bd_sub ht (Bd_r p1 p2)
  have b2 := Bd_d q1 q2 p1 p2
  have b3 := Bd_d q3 q4 p3 p4
  have pos : 0 < (q.1 : Rat) - (p.1 : Rat) := by grind
  have e2 := fun s => t_lsub (s := s) ht (Bd_r p1 p2)
  have e5 := fun s => t_ldiv (s := s) b1 b2 pos
  have e6 := fun s => t_lmul (s := s) (Bd_div b1 b2 pos) b3
  have e7 := fun s => t_ladd (s := s) (Bd_r p3 p4) (Bd_mul (Bd_div b1 b2 pos) b3)
  have i1 : ∀ s, gIx (kD ks) (.int (0 + (k : Int))) s = .ok (pD p) s := fun s => ixT (by rw [Int.zero_add]; exact atI_get (by rw [List.getElem?_map, hk]; rfl))
  have i2 : ∀ s, gIx (kD ks) (.int (0 + (k : Int) + 1)) s = .ok (pD q) s := fun s => ixT (by rw [show (0 : Int) + (k : Int) + 1 = ((k + 1 : Nat) : Int) by omega]; exact atI_get (by rw [List.getElem?_map, hk2]; rfl))
  have f1 := frI p.1
  have f2 := frI p.2
  have f3 := frI q.1
  have f4 := frI (q.2 - p.2)
  have f5 := frI (q.1 - p.1)
  have c4 := sub_cast q.2 p.2
  have c5 := sub_cast q.1 p.1
  rw [← c4] at f4
  rw [← c5] at f5
  unfold l__law_curve_at_1
  clear b1 b2 b3 pos lt p1 p2 p3 p4 q1 q2 q3 q4 ht h hk hk2 c4 c5
  rw [v_seq, v_pt]
  have e0 : (mTup (mCons (mOp gIx (mVar 0) (mVar 2)) (mCons (mOp gIx (mVar 0) (mOp gAddA (mVar 2) (mC (.int 1)))) mNil))) [.v (kD ks), .v (fr t), .v (.int (0 + (k : Int))), a, b, c, d, e] s = .ok (.tup [pD p, pD q]) s := by
    clear e1 e2 e5 e6 e7 f1 f2 f3 f4 f5
    decreasing_trivial
  rw [e0]
  dsimp only
  rw [pt_run2]
  dsimp only
  by_cases hle : t ≤ (q.1 : Rat)
  · have hd : decide ((q.1 : Rat) < t) = false := decide_eq_false (by grind)
    decreasing_trivial
  · have hd : decide ((q.1 : Rat) < t) = true := decide_eq_true (by grind)
    clear e2 e5 e6 e7
    decreasing_trivial
theorem Chn.drop : ∀ {ks : Kn} (k : Nat), Chn ks → Chn (ks.drop k)
  | ks, 0, h => h
  | [], _ + 1, _ => trivial
  | p :: r, k + 1, h => Chn.drop k h.tail
theorem lastP_drop : ∀ {ks : Kn} (k : Nat), k < ks.length → lastP (ks.drop k) = lastP ks
  | ks, 0, _ => rfl
  | [], _ + 1, h => by simp at h
  | [p], k + 1, h => by simp at h
  | p :: q :: r, k + 1, h => by
    rw [lastP_cons]
    exact lastP_drop (ks := q :: r) k (by simpa using h)
theorem lcurve_loop {ks : Kn} {t : Rat} {n : Nat} (hc : Chn ks) (hr : Rg ks) (ht : Bd n t) (hn : n ≤ 100) (hl : t ≤ ((lastP ks).1 : Rat)) : ∀ (m k : Nat) (K0 a b c d e : SD) (s : S), k + (m + 1) + 1 = ks.length →
    loopF (.nm 2) l__law_curve_at_1 ((List.range' k (m + 1)).map fun k : Nat => D.int (0 + (k : Int))) [.v (kD ks), .v (fr t), K0, a, b, c, d, e] s = .rt (fr (at_ (ks.drop k) t)) s := by
  intro m
  induction m with
  | zero =>
    intro k K0 a b c d e s hk
    have h1 : k < ks.length := by omega
    have h2 : k + 1 < ks.length := by omega
    rw [List.range'_succ, List.map_cons, v_loopF]
    have er : (Pt.nm 2).run (.int (0 + (k : Int))) [.v (kD ks), .v (fr t), K0, a, b, c, d, e] = some [.v (kD ks), .v (fr t), .v (.int (0 + (k : Int))), a, b, c, d, e] := rfl
    rw [er]
    dsimp only
    have hd : ks.drop k = ks[k] :: ks[k + 1] :: ks.drop (k + 2) := by rw [List.drop_eq_getElem_cons h1, List.drop_eq_getElem_cons h2]
    have hc' := hc.drop k
    rw [hd] at hc' ⊢
    rw [lcurve_turn (List.getElem?_eq_getElem h1) (List.getElem?_eq_getElem h2) hc'.1 (hr _ (List.getElem_mem h1)) (hr _ (List.getElem_mem h2)) ht hn]
    have hlast : lastP ks = ks[k + 1] := by
      rw [← lastP_drop (ks := ks) k h1, hd]
      have : ks.drop (k + 2) = [] := List.drop_eq_nil_of_le (by omega)
      rw [this]
      rfl
    rw [hlast] at hl
    unfold at_
    rw [if_pos hl, if_pos hl]
  | succ m ih =>
    intro k K0 a b c d e s hk
    have h1 : k < ks.length := by omega
    have h2 : k + 1 < ks.length := by omega
    rw [List.range'_succ, List.map_cons, v_loopF]
    have er : (Pt.nm 2).run (.int (0 + (k : Int))) [.v (kD ks), .v (fr t), K0, a, b, c, d, e] = some [.v (kD ks), .v (fr t), .v (.int (0 + (k : Int))), a, b, c, d, e] := rfl
    rw [er]
    dsimp only
    have hd : ks.drop k = ks[k] :: ks[k + 1] :: ks.drop (k + 2) := by rw [List.drop_eq_getElem_cons h1, List.drop_eq_getElem_cons h2]
    have hc' := hc.drop k
    rw [hd] at hc'
    rw [lcurve_turn (List.getElem?_eq_getElem h1) (List.getElem?_eq_getElem h2) hc'.1 (hr _ (List.getElem_mem h1)) (hr _ (List.getElem_mem h2)) ht hn]
    rw [hd]
    unfold at_
    by_cases hle : t ≤ (ks[k + 1].1 : Rat)
    · rw [if_pos hle, if_pos hle]
    · rw [if_neg hle, if_neg hle]
      dsimp only
      rw [ih (k + 1) _ _ _ _ _ _ s (by omega), List.drop_eq_getElem_cons h2]
theorem t_lcurve {ks : Kn} {t : Rat} {n : Nat} {s : S} (hc : Chn ks) (hr : Rg ks) (h2 : 2 ≤ ks.length) (h3 : ks.length ≤ 1000) (hl : t ≤ ((lastP ks).1 : Rat)) (ht : Bd n t) (hn : n ≤ 100) : F__law_curve_at [kD ks, fr t] s = .ok (fr (at_ ks t)) s := by
  obtain ⟨m, hm⟩ : ∃ m, ks.length = m + 2 := ⟨ks.length - 2, by omega⟩
  have e1 := lcurve_loop hc hr ht hn hl m 0 .un .un .un .un .un .un s (by omega)
  rw [List.drop_zero, ← List.range_eq_range'] at e1
  have e2 : rngD 0 ((ks.length : Int) - 1).toNat = (List.range (m + 1)).map fun k : Nat => D.int (0 + (k : Int)) := by
    rw [rngD_map]
    congr 2
    omega
  have e3 : rngOk ((ks.length : Int) - 1) = true := rng_ok (by omega) (by omega)
  have e4 : ∀ s, gLen [kD ks] s = .ok (.int (ks.length : Nat)) s := fun s => by
    show R.ok (D.int ((ks.map pD).length : Nat)) s = _
    rw [List.length_map]
  unfold F__law_curve_at b__law_curve_at
  clear ht hl hc hr h2 hm h3
  decreasing_trivial
/-! ### the program's curves -/
theorem t_whole {i : Int} {s : S} : F_whole [.int i] s = .ok (.tup [.int i, .int 1]) s := by
  unfold F_whole b_whole
  get_elem_tactic_extensible
abbrev cD (ks : Kn) : D := .ins 0 [kD ks]
theorem t_points {ks : Kn} {s : S} (h : ks.length ≤ 1000) : F_points_of [cD ks] s = .ok (.lst (ks.map ptD)) s := by
  have hz : (ks.map pD).length ≤ sizeLine := by rw [List.length_map]; exact size_ok (by omega)
  have e1 : ([(0, 0)] : List (Nat × Nat)).lookup 0 = some 0 := rfl
  unfold F_points_of b_points_of cD kD
  decreasing_trivial
  rw [compF_mapL pD ptD ks fun p hp => ⟨_, rfl, ?_⟩]
  have e2 := fun i s => t_whole (i := i) (s := s)
  unfold e_points_of_1
  clear hp
  decreasing_trivial
  rfl
end K02

namespace K02
open PySem PySem.Spec L2 Tv
local macro_rules | `(tactic| get_elem_tactic_extensible) => `(tactic| simp only [v_var, v_varB, v_c, v_op, v_un, v_nil, v_cons, v_tup, v_lst, v_test, v_and, v_or, v_not, v_if, v_andV, v_orV, v_notV, v_chain, v_call, v_callF, v_callV, v_isi, v_slice, v_comp, unowned, List.all_cons, List.all_nil, wipeR, and_true, true_and, and_false, false_and, Int.cast_ofNat_Int, v_part, v_noPart, v_fld, v_yes, v_seqI, v_rng1, v_rng2, v_enumI, v_zipI, v_next, v_seq, v_set, v_setO, v_drop, v_ret, v_retN, v_brk, v_cnt, v_ifS, v_frz, v_while, v_for, v_meth, v_setIx, v_cell, v_aug, v_pt, v_par, v_setF, v_fun, v_ne_ok, v_loopF_nil, v_compF_nil,
  w_add, Tv.w_sub, w_lt, w_le, w_gt, w_ge, w_neg, w_eqI, w_neI, w_eqB, w_neB, w_is, w_isNot, w_ix20, w_ix21, w_lenT, w_lenL, w_lenZ, w_abs, w_int, w_min, w_max, w_tupT, w_tupL, w_tupZ, kT_int, kT_bl, kT_non, kT_str, kT_tup, kT_lst, k2, Tv.isNon, Pt.run, Pts.run, setM, ownL, baseOk, seqV,
  List.map_cons, List.map_nil, List.cons_append, List.nil_append, List.append_nil, List.replicate_zero, List.replicate_succ, List.length_cons, List.length_nil, List.getElem?_cons_zero, List.getElem?_cons_succ, List.getElem?_nil, List.set_cons_zero, List.set_cons_succ, List.set_nil, Option.some.injEq, ↓reduceIte, reduceCtorEq, decide_true, decide_false, decide_eq_true_eq, Bool.not_true, Bool.not_false, Bool.false_eq_true, Bool.and_true, Bool.true_and, Bool.or_false, Bool.false_or, Bool.or_true, Bool.true_or, Bool.and_false, Bool.false_and, if_true, if_false, String.reduceEq, or_false, or_true, false_or, true_or, Int.reduceLE, Int.reduceLT, Int.reduceNeg, Int.reduceToNat, Int.reduceAdd, Nat.reduceAdd, Nat.reduceLT, Int.reduceSub, Int.reduceMul, Int.reduceEq, Nat.reduceEqDiff, Int.zero_sub, BEq.rfl])
local macro_rules | `(tactic| decreasing_trivial) => `(tactic| simp only [v_var, v_varB, v_c, v_op, v_un, v_nil, v_cons, v_tup, v_lst, v_test, v_and, v_or, v_not, v_if, v_andV, v_orV, v_notV, v_chain, v_call, v_callF, v_callV, v_isi, v_slice, v_comp, unowned, List.all_cons, List.all_nil, wipeR, and_true, true_and, and_false, false_and, Int.cast_ofNat_Int, v_part, v_noPart, v_fld, v_yes, v_seqI, v_rng1, v_rng2, v_enumI, v_zipI, v_next, v_seq, v_set, v_setO, v_drop, v_ret, v_retN, v_brk, v_cnt, v_ifS, v_frz, v_while, v_for, v_meth, v_setIx, v_cell, v_aug, v_pt, v_par, v_setF, v_fun, v_ne_ok, v_loopF_nil, v_compF_nil,
  w_add, Tv.w_sub, w_lt, w_le, w_gt, w_ge, w_neg, w_eqI, w_neI, w_eqB, w_neB, w_is, w_isNot, w_ix20, w_ix21, w_lenT, w_lenL, w_lenZ, w_abs, w_int, w_min, w_max, w_tupT, w_tupL, w_tupZ, kT_int, kT_bl, kT_non, kT_str, kT_tup, kT_lst, k2, Tv.isNon, Pt.run, Pts.run, setM, ownL, baseOk, seqV,
  List.map_cons, List.map_nil, List.cons_append, List.nil_append, List.append_nil, List.replicate_zero, List.replicate_succ, List.length_cons, List.length_nil, List.getElem?_cons_zero, List.getElem?_cons_succ, List.getElem?_nil, List.set_cons_zero, List.set_cons_succ, List.set_nil, Option.some.injEq, ↓reduceIte, reduceCtorEq, decide_true, decide_false, decide_eq_true_eq, Bool.not_true, Bool.not_false, Bool.false_eq_true, Bool.and_true, Bool.true_and, Bool.or_false, Bool.false_or, Bool.or_true, Bool.true_or, Bool.and_false, Bool.false_and, if_true, if_false, String.reduceEq, or_false, or_true, false_or, true_or, Int.reduceLE, Int.reduceLT, Int.reduceNeg, Int.reduceToNat, Int.reduceAdd, Nat.reduceAdd, Nat.reduceLT, Int.reduceSub, Int.reduceMul, Int.reduceEq, Nat.reduceEqDiff, Int.zero_sub, BEq.rfl, *])

theorem t_is_whole {i : Int} {s : S} : F_is_whole [.int i] s = .ok (.bl true) s := by
  unfold F_is_whole b_is_whole
  get_elem_tactic_extensible
theorem t_is_row {ds : List D} {n : Int} {s : S} : F_is_row [.tup ds, .int n] s = .ok (.bl (decide ((ds.length : Int) = n))) s := by
  unfold F_is_row b_is_row
  get_elem_tactic_extensible
theorem t_is_within {i a b : Int} {s : S} : F_is_within [.int i, .int a, .int b] s = .ok (.bl (decide (a ≤ i ∧ i ≤ b))) s := by
  have e := fun s => t_is_whole (i := i) (s := s)
  unfold F_is_within b_is_within
  by_cases h : a ≤ i
  · decreasing_trivial
  · decreasing_trivial
theorem t_is_fraction {q : Rat} {s : S} : F_is_fraction [fr q] s = .ok (.bl true) s := by
  have e1 := fun s => t_is_row (ds := [.int q.num, .int (q.den : Int)]) (n := 2) (s := s)
  have e2 := fun i s => t_is_whole (i := i) (s := s)
  have e3 := fun s => t_common q.num (q.den : Int) s
  have e4 : ((Nat.gcd q.num.natAbs ((q.den : Int)).natAbs : Nat) : Int) = 1 := by
    rw [Int.natAbs_natCast]
    have := q.reduced
    unfold Nat.Coprime at this
    omega
  have e5 : (1 : Int) ≤ (q.den : Int) := by have := den_pos q; omega
  unfold F_is_fraction b_is_fraction fr
  decreasing_trivial
theorem lvl_iff {t : Rat} : (0 ≤ t.num ∧ t.num ≤ 255 * (t.den : Int)) ↔ (0 ≤ t ∧ t ≤ 255) := by
  have h1 : (0 ≤ t.num) ↔ 0 ≤ t := Rat.num_nonneg
  have h2 : (t.num ≤ 255 * (t.den : Int)) ↔ t ≤ 255 := by
    have := Rat.le_iff t (255 : Rat)
    rw [this]
    have e1 : (255 : Rat).num = 255 := by decide
    have e2 : (255 : Rat).den = 1 := by decide
    rw [e1, e2]
    omega
  rw [h1, h2]
theorem t_is_level {t : Rat} {n : Nat} {s : S} (ht : Bd n t) (hn : n ≤ 7000) (h0 : 0 ≤ t) (h1 : t ≤ 255) : F_is_level [fr t] s = .ok (.bl true) s := by
  have e1 := fun s => t_is_fraction (q := t) (s := s)
  have e2 : ∀ s, gMul (.int 255) (.int (t.den : Int)) s = .ok (.int (255 * (t.den : Int))) s := fun s => mulI (a := 10) (b := n) bd_small ht.dn
  obtain ⟨l1, l2⟩ := lvl_iff.mpr ⟨h0, h1⟩
  have i1 : ∀ s, gIx (fr t) (.int 0) s = .ok (.int t.num) s := fun _ => rfl
  have i2 : ∀ s, gIx (fr t) (.int 1) s = .ok (.int (t.den : Int)) s := fun _ => rfl
  unfold F_is_level b_is_level
  clear ht h0 h1
  decreasing_trivial
theorem t_require_level {t : Rat} {n : Nat} {s : S} (ht : Bd n t) (hn : n ≤ 7000) (h0 : 0 ≤ t) (h1 : t ≤ 255) : F_require_level [fr t] s = .ok .non s := by
  have e1 := fun s => t_is_level (s := s) ht hn h0 h1
  unfold F_require_level b_require_level
  clear ht h0 h1
  decreasing_trivial
theorem xn {ks : Kn} (v : Val ks) {t : Rat} (h : t ≤ 255) : t ≤ ((lastP ks).1 : Rat) := by
  rw [v.xn]
  exact h
theorem t_value_at {ks : Kn} {t : Rat} {n : Nat} {s : S} (v : Val ks) (ht : Bd n t) (hn : n ≤ 100) (h0 : 0 ≤ t) (h1 : t ≤ 255) : F_value_at [cD ks, fr t] s = .ok (fr (at_ ks t)) s := by
  have e1 := fun s => t_require_level (s := s) ht (by omega) h0 h1
  have e2 := fun s => t_points (ks := ks) (s := s) (by have := v.most; omega)
  have e3 := fun s => t_between (s := s) v.chn v.rg v.two (xn v h1) ht hn
  unfold F_value_at b_value_at
  clear ht h0 h1 v
  decreasing_trivial
/-- at whole places -/
def ai (ks : Kn) (x : Nat) : Rat := at_ ks (x : Rat)
theorem natR (x : Nat) : ((x : Int) : Rat) = (x : Rat) := rfl
theorem Bd_nat {x : Nat} (h : x ≤ 255) : Bd 8 (x : Rat) := by
  rw [← natR]
  exact Bd_r (by omega) (by omega)
theorem frN (x : Nat) : D.tup [.int (x : Int), .int 1] = fr (x : Rat) := by
  rw [frI, natR]
theorem nat_le {x : Nat} (h : x ≤ 255) : (x : Rat) ≤ 255 := by exact_mod_cast h
theorem t_value_x {ks : Kn} {x : Nat} {s : S} (v : Val ks) (h : x ≤ 255) : F_value_at [cD ks, .tup [.int (x : Int), .int 1]] s = .ok (fr (ai ks x)) s := by
  rw [frN]
  exact t_value_at v (Bd_nat h) (by omega) (by exact_mod_cast Nat.zero_le x) (nat_le h)
theorem ai_Bd {ks : Kn} {x : Nat} (v : Val ks) (h : x ≤ 255) : Bd 50 (ai ks x) := (at_Bd ks (x : Rat) v.chn v.rg (by intro e; have := v.two; rw [e] at this; simp at this) (Bd_nat h)).mono
theorem fr_inj {p q : Rat} (h : fr p = fr q) : p = q := by
  unfold fr at h
  simp only [D.tup.injEq, List.cons.injEq, D.int.injEq, and_true] at h
  exact Rat.ext h.1 (by omega)
theorem pl_fr {n : Nat} (q : Rat) : pl (n + 1) (fr q) = true := by
  unfold fr pl
  cases n <;> rfl
theorem eqF (p q : Rat) : eqD (fr p) (fr q) = some (decide (p = q)) := eqD_pl (n := 1) (pl_fr p) (pl_fr q) (by omega) (by rw [decide_eq_true_eq]; exact ⟨fun h => by rw [h], fr_inj⟩)
theorem w_eqF {p q : Rat} {s : S} : gEq (fr p) (fr q) s = .ok (.bl (decide (p = q))) s := w_eq (eqF p q)
theorem w_neF {p q : Rat} {s : S} : gNe (fr p) (fr q) s = .ok (.bl (!decide (p = q))) s := w_ne (eqF p q)
/-! floors, roundings -/
theorem t_floor {q : Rat} {n : Nat} {s : S} (h : Bd n q) (hn : n ≤ 8000) : F_floor [fr q] s = .ok (.int (q.num / (q.den : Int))) s := by
  have e1 : ∀ s, gDiv (.int q.num) (.int (q.den : Int)) s = .ok (.int (q.num / (q.den : Int))) s := fun s => divI h.dn (den_pos q)
  unfold F_floor b_floor fr
  clear h
  decreasing_trivial
def nw (q : Rat) : Int := -(((q.den : Int) - 2 * q.num) / (2 * (q.den : Int)))
theorem t_nearest {q : Rat} {n : Nat} {s : S} (h : Bd n q) (hn : n ≤ 7000) : F_nearest_whole [fr q] s = .ok (.int (nw q)) s := by
  have e1 : ∀ s, gMul (.int 2) (.int q.num) s = .ok (.int (2 * q.num)) s := fun s => mulI (a := 10) (b := n) bd_small h.num
  have e2 : ∀ s, gMul (.int 2) (.int (q.den : Int)) s = .ok (.int (2 * (q.den : Int))) s := fun s => mulI (a := 10) (b := n) bd_small h.dn
  have e3 : ∀ i s, gDiv (.int i) (.int (2 * (q.den : Int))) s = .ok (.int (i / (2 * (q.den : Int)))) s := fun i s => divI (a := 10 + n) (bd_mul bd_small h.dn) (by have := den_pos q; omega)
  unfold F_nearest_whole b_nearest_whole fr nw
  clear h
  decreasing_trivial
abbrev r256 : List Nat := List.range 256
theorem rng256 : rngD 0 (255 + 1 : Int).toNat = r256.map fun k : Nat => D.int (0 + (k : Int)) := rfl
theorem rng256' : rngD 0 256 = r256.map fun k : Nat => D.int (0 + (k : Int)) := rfl
theorem t_cut_off {ks : Kn} {s : S} (v : Val ks) : F_cut_off [cD ks] s = .ok (.tup (r256.map fun x => .int ((ai ks x).num / ((ai ks x).den : Int)))) s := by
  have hr : rngOk 256 = true := by decide
  have hz : ((rngD 0 256).length ≤ sizeLine) = True := by rw [rngD_len]; exact eq_true (size_ok (by omega))
  unfold F_cut_off b_cut_off cD
  decreasing_trivial
  rw [rng256', compF_mapL _ (fun x => .int ((ai ks x).num / ((ai ks x).den : Int))) r256 fun x hx => ⟨_, rfl, ?_⟩]
  · get_elem_tactic_extensible
  have hx : x ≤ 255 := by have := List.mem_range.mp hx; omega
  have e1 := fun s => t_value_x (s := s) v hx
  have e2 := fun s => t_floor (s := s) (ai_Bd v hx) (by omega)
  unfold e_cut_off_1
  rw [Int.zero_add]
  clear hz hr
  decreasing_trivial
theorem t_rounded {ks : Kn} {s : S} (v : Val ks) : F_rounded [cD ks] s = .ok (.tup (r256.map fun x => .int (nw (ai ks x)))) s := by
  have hr : rngOk 256 = true := by decide
  have hz : ((rngD 0 256).length ≤ sizeLine) = True := by rw [rngD_len]; exact eq_true (size_ok (by omega))
  unfold F_rounded b_rounded cD
  decreasing_trivial
  rw [rng256', compF_mapL _ (fun x => .int (nw (ai ks x))) r256 fun x hx => ⟨_, rfl, ?_⟩]
  · get_elem_tactic_extensible
  have hx : x ≤ 255 := by have := List.mem_range.mp hx; omega
  have e1 := fun s => t_value_x (s := s) v hx
  have e2 := fun s => t_nearest (s := s) (ai_Bd v hx) (by omega)
  unfold e_rounded_1
  rw [Int.zero_add]
  clear hz hr
  decreasing_trivial
end K02

namespace K02
open PySem PySem.Spec L2 Tv
local macro_rules | `(tactic| get_elem_tactic_extensible) => `(tactic| simp only [v_var, v_varB, v_c, v_op, v_un, v_nil, v_cons, v_tup, v_lst, v_test, v_and, v_or, v_not, v_if, v_andV, v_orV, v_notV, v_chain, v_call, v_callF, v_callV, v_isi, v_slice, v_comp, unowned, List.all_cons, List.all_nil, wipeR, and_true, true_and, and_false, false_and, Int.cast_ofNat_Int, v_part, v_noPart, v_fld, v_yes, v_seqI, v_rng1, v_rng2, v_enumI, v_zipI, v_next, v_seq, v_set, v_setO, v_drop, v_ret, v_retN, v_brk, v_cnt, v_ifS, v_frz, v_while, v_for, v_meth, v_setIx, v_cell, v_aug, v_pt, v_par, v_setF, v_fun, v_ne_ok, v_loopF_nil, v_compF_nil,
  w_add, Tv.w_sub, w_lt, w_le, w_gt, w_ge, w_neg, w_eqI, w_neI, w_eqB, w_neB, w_is, w_isNot, w_ix20, w_ix21, w_lenT, w_lenL, w_lenZ, w_abs, w_int, w_min, w_max, w_tupT, w_tupL, w_tupZ, kT_int, kT_bl, kT_non, kT_str, kT_tup, kT_lst, k2, Tv.isNon, Pt.run, Pts.run, setM, ownL, baseOk, seqV,
  List.map_cons, List.map_nil, List.cons_append, List.nil_append, List.append_nil, List.replicate_zero, List.replicate_succ, List.length_cons, List.length_nil, List.getElem?_cons_zero, List.getElem?_cons_succ, List.getElem?_nil, List.set_cons_zero, List.set_cons_succ, List.set_nil, Option.some.injEq, ↓reduceIte, reduceCtorEq, decide_true, decide_false, decide_eq_true_eq, Bool.not_true, Bool.not_false, Bool.false_eq_true, Bool.and_true, Bool.true_and, Bool.or_false, Bool.false_or, Bool.or_true, Bool.true_or, Bool.and_false, Bool.false_and, if_true, if_false, String.reduceEq, or_false, or_true, false_or, true_or, Int.reduceLE, Int.reduceLT, Int.reduceNeg, Int.reduceToNat, Int.reduceAdd, Nat.reduceAdd, Nat.reduceLT, Int.reduceSub, Int.reduceMul, Int.reduceEq, Nat.reduceEqDiff, Int.zero_sub, BEq.rfl])
local macro_rules | `(tactic| decreasing_trivial) => `(tactic| simp only [v_var, v_varB, v_c, v_op, v_un, v_nil, v_cons, v_tup, v_lst, v_test, v_and, v_or, v_not, v_if, v_andV, v_orV, v_notV, v_chain, v_call, v_callF, v_callV, v_isi, v_slice, v_comp, unowned, List.all_cons, List.all_nil, wipeR, and_true, true_and, and_false, false_and, Int.cast_ofNat_Int, v_part, v_noPart, v_fld, v_yes, v_seqI, v_rng1, v_rng2, v_enumI, v_zipI, v_next, v_seq, v_set, v_setO, v_drop, v_ret, v_retN, v_brk, v_cnt, v_ifS, v_frz, v_while, v_for, v_meth, v_setIx, v_cell, v_aug, v_pt, v_par, v_setF, v_fun, v_ne_ok, v_loopF_nil, v_compF_nil,
  w_add, Tv.w_sub, w_lt, w_le, w_gt, w_ge, w_neg, w_eqI, w_neI, w_eqB, w_neB, w_is, w_isNot, w_ix20, w_ix21, w_lenT, w_lenL, w_lenZ, w_abs, w_int, w_min, w_max, w_tupT, w_tupL, w_tupZ, kT_int, kT_bl, kT_non, kT_str, kT_tup, kT_lst, k2, Tv.isNon, Pt.run, Pts.run, setM, ownL, baseOk, seqV,
  List.map_cons, List.map_nil, List.cons_append, List.nil_append, List.append_nil, List.replicate_zero, List.replicate_succ, List.length_cons, List.length_nil, List.getElem?_cons_zero, List.getElem?_cons_succ, List.getElem?_nil, List.set_cons_zero, List.set_cons_succ, List.set_nil, Option.some.injEq, ↓reduceIte, reduceCtorEq, decide_true, decide_false, decide_eq_true_eq, Bool.not_true, Bool.not_false, Bool.false_eq_true, Bool.and_true, Bool.true_and, Bool.or_false, Bool.false_or, Bool.or_true, Bool.true_or, Bool.and_false, Bool.false_and, if_true, if_false, String.reduceEq, or_false, or_true, false_or, true_or, Int.reduceLE, Int.reduceLT, Int.reduceNeg, Int.reduceToNat, Int.reduceAdd, Nat.reduceAdd, Nat.reduceLT, Int.reduceSub, Int.reduceMul, Int.reduceEq, Nat.reduceEqDiff, Int.zero_sub, BEq.rfl, *])

theorem loopF_findS {α : Type} {pm : Pt} {b : SM} (g : α → D) (p : α → Bool) (r : α → D) (I : List SD → Prop) (s : S) : ∀ (l : List α) (ρ : List SD),
    (∀ a, a ∈ l → ∀ ρ, I ρ → ∃ ρ1, pm.run (g a) ρ = some ρ1 ∧ ((p a = true ∧ b ρ1 s = .rt (r a) s) ∨ (p a = false ∧ ∃ ρ', b ρ1 s = .nx ρ' s ∧ I ρ'))) → I ρ →
      (∃ a, l.find? p = some a ∧ loopF pm b (l.map g) ρ s = .rt (r a) s) ∨ (l.find? p = none ∧ ∃ ρ', loopF pm b (l.map g) ρ s = .nx ρ' s ∧ I ρ')
  | [], ρ, _, h => .inr ⟨rfl, ρ, rfl, h⟩
  | a :: l, ρ, hs, h => by
    obtain ⟨ρ1, e1, e2⟩ := hs a List.mem_cons_self ρ h
    rcases e2 with ⟨hp, e2⟩ | ⟨hp, ρ', e2, h'⟩
    · refine .inl ⟨a, by rw [List.find?_cons_of_pos hp], ?_⟩
      rw [List.map_cons, v_loopF, e1]
      simp only [e2]
    · have ih := loopF_findS g p r I s l ρ' (fun a ha => hs a (List.mem_cons_of_mem _ ha)) h'
      rw [List.find?_cons_of_neg (by rw [hp]; exact Bool.false_ne_true)]
      have e3 : loopF pm b ((a :: l).map g) ρ s = loopF pm b (l.map g) ρ' s := by
        rw [List.map_cons, v_loopF, e1]
        simp only [e2]
      rw [e3]
      exact ih
def oI : Option Nat → D
  | some x => .int (x : Int)
  | none => .non
def nq (f g : Kn) (x : Nat) : Bool := !decide (ai f x = ai g x)
theorem apart_loop {f g : Kn} {s : S} (vf : Val f) (vg : Val g) : (∃ a, r256.find? (nq f g) = some a ∧ loopF (.nm 2) l_apart_1 (rngD 0 256) [.v (cD f), .v (cD g), .un] s = .rt (.int (a : Int)) s) ∨ (r256.find? (nq f g) = none ∧ ∃ ρ', loopF (.nm 2) l_apart_1 (rngD 0 256) [.v (cD f), .v (cD g), .un] s = .nx ρ' s) := by
  have := loopF_findS (pm := .nm 2) (b := l_apart_1) (fun k : Nat => D.int (0 + (k : Int))) (nq f g) (fun k : Nat => D.int (k : Int)) (fun ρ => ∃ x, ρ = [.v (cD f), .v (cD g), x]) s r256 [.v (cD f), .v (cD g), .un] ?_ ⟨_, rfl⟩
  · rcases this with ⟨a, h1, h2⟩ | ⟨h1, ρ', h2, _⟩
    · exact .inl ⟨a, h1, h2⟩
    · exact .inr ⟨h1, ρ', h2⟩
  · rintro x hx ρ ⟨z, rfl⟩
    have hx : x ≤ 255 := by have := List.mem_range.mp hx; omega
    refine ⟨_, rfl, ?_⟩
    have e1 := fun s => t_value_x (s := s) vf hx
    have e2 := fun s => t_value_x (s := s) vg hx
    have e3 := fun s => w_neF (p := ai f x) (q := ai g x) (s := s)
    rw [Int.zero_add]
    unfold l_apart_1 nq
    clear vf vg
    by_cases h : ai f x = ai g x
    · rw [decide_eq_true h] at e3 ⊢
      refine .inr ⟨rfl, [.v (cD f), .v (cD g), .v (.int (x : Int))], ?_, _, rfl⟩
      clear h
      decreasing_trivial
    · rw [decide_eq_false h] at e3 ⊢
      refine .inl ⟨rfl, ?_⟩
      clear h
      decreasing_trivial
theorem t_apart {f g : Kn} {s : S} (vf : Val f) (vg : Val g) : F_apart [cD f, cD g] s = .ok (oI (r256.find? (nq f g))) s := by
  have hr : rngOk 256 = true := by decide
  have h := apart_loop (s := s) vf vg
  unfold F_apart b_apart
  rcases h with ⟨a, h1, h2⟩ | ⟨h1, ρ', h2⟩
  · rw [h1]
    clear h1 vf vg
    unfold cD at *
    unfold oI
    decreasing_trivial
  · rw [h1]
    clear h1 vf vg
    unfold cD at *
    unfold oI
    decreasing_trivial
/-! neighbours -/
def prs : Kn → List ((Int × Int) × (Int × Int))
  | p :: q :: r => (p, q) :: prs (q :: r)
  | _ => []
theorem zz_prs (f : Int × Int → D) : ∀ ks : Kn, zz f ks = (prs ks).map fun a => .tup [f a.1, f a.2]
  | [] => rfl
  | [_] => rfl
  | p :: q :: r => by rw [zz_cons, zz_prs f (q :: r)]; rfl
theorem prs_mem : ∀ {ks : Kn} {a : (Int × Int) × (Int × Int)}, a ∈ prs ks → Chn ks → a.1 ∈ ks ∧ a.2 ∈ ks ∧ a.1.1 < a.2.1 ∧ a.1.2 ≤ a.2.2
  | [], _, h, _ => by cases h
  | [_], _, h, _ => by cases h
  | p :: q :: r, a, h, hc => by
    rcases List.mem_cons.mp h with rfl | h
    · exact ⟨List.mem_cons_self, List.mem_cons_of_mem _ List.mem_cons_self, hc.1, hc.2.1⟩
    · obtain ⟨h1, h2, h3, h4⟩ := prs_mem h hc.tail
      exact ⟨List.mem_cons_of_mem _ h1, List.mem_cons_of_mem _ h2, h3, h4⟩
theorem prs_len : ∀ ks : Kn, (prs ks).length = ks.length - 1
  | [] => rfl
  | [_] => rfl
  | p :: q :: r => by
    show (prs (q :: r)).length + 1 = _
    rw [prs_len (q :: r)]
    simp
structure Pr (a : (Int × Int) × (Int × Int)) : Prop where
  a1 : 0 ≤ a.1.1
  a2 : a.1.1 ≤ 255
  a3 : 0 ≤ a.1.2
  a4 : a.1.2 ≤ 255
  b1 : 0 ≤ a.2.1
  b2 : a.2.1 ≤ 255
  b3 : 0 ≤ a.2.2
  b4 : a.2.2 ≤ 255
  lt : a.1.1 < a.2.1
  le : a.1.2 ≤ a.2.2
theorem Val.pr {ks : Kn} (v : Val ks) : ∀ a, a ∈ prs ks → Pr a := fun a h => by
  obtain ⟨h1, h2, h3, h4⟩ := prs_mem h v.chn
  obtain ⟨g1, g2, g3, g4⟩ := v.rg _ h1
  obtain ⟨k1, k2, k3, k4⟩ := v.rg _ h2
  exact ⟨g1, g2, g3, g4, k1, k2, k3, k4, h3, h4⟩
theorem sz {ks : Kn} (v : Val ks) : ((zz pD ks).length ≤ sizeLine) = True := by
  rw [zz_prs, List.length_map, prs_len]
  have := v.most
  exact eq_true (size_ok (by omega))
theorem bls_map {α : Type} (f : α → Bool) : ∀ l : List α, bls (l.map fun a => D.bl (f a)) = some (l.map f)
  | [] => rfl
  | a :: l => by
    rw [List.map_cons]
    unfold bls
    rw [bls_map f l]
    rfl
theorem t_is_rising {ks : Kn} {s : S} (v : Val ks) : F_is_rising [cD ks] s = .ok (.bl ((prs ks).all fun a => decide (a.1.2 < a.2.2))) s := by
  have hz := sz v
  have e2 := fun s => w_cut1T (ds := ks.map pD) (s := s)
  have e3 : zipD (ks.map pD) ((ks.map pD).drop 1) = zz pD ks := rfl
  have e1 : ([(0, 0)] : List (Nat × Nat)).lookup 0 = some 0 := rfl
  have e4 : compF (.tp (.cons (.nm 1) (.cons (.nm 2) .nil))) mYes e_is_rising_1 [.v (cD ks), .un, .un] (zz pD ks) s = .ok ((prs ks).map fun a => .bl (decide (a.1.2 < a.2.2))) s := by
    rw [zz_prs, compF_mapL _ (fun a => .bl (decide (a.1.2 < a.2.2))) (prs ks) fun x hx => ⟨_, rfl, ?_⟩]
    unfold e_is_rising_1 pD
    clear hx hz v e1 e2 e3
    get_elem_tactic_extensible
  have e5 : ∀ s, gAll [.lst ((prs ks).map fun a => .bl (decide (a.1.2 < a.2.2)))] s = .ok (.bl ((prs ks).all fun a => decide (a.1.2 < a.2.2))) s := fun s => by
    show (match bls _ with | some bs => R.ok (D.bl (bs.all id)) s | none => .no) = _
    rw [bls_map]
    show R.ok (D.bl _) s = _
    rw [List.all_map]
    rfl
  unfold F_is_rising b_is_rising
  clear v
  unfold cD kD at *
  decreasing_trivial
end K02

namespace K02
open PySem PySem.Spec L2 Tv
local macro_rules | `(tactic| get_elem_tactic_extensible) => `(tactic| simp only [v_var, v_varB, v_c, v_op, v_un, v_nil, v_cons, v_tup, v_lst, v_test, v_and, v_or, v_not, v_if, v_andV, v_orV, v_notV, v_chain, v_call, v_callF, v_callV, v_isi, v_slice, v_comp, unowned, List.all_cons, List.all_nil, wipeR, and_true, true_and, and_false, false_and, Int.cast_ofNat_Int, v_part, v_noPart, v_fld, v_yes, v_seqI, v_rng1, v_rng2, v_enumI, v_zipI, v_next, v_seq, v_set, v_setO, v_drop, v_ret, v_retN, v_brk, v_cnt, v_ifS, v_frz, v_while, v_for, v_meth, v_setIx, v_cell, v_aug, v_pt, v_par, v_setF, v_fun, v_ne_ok, v_loopF_nil, v_compF_nil,
  w_add, Tv.w_sub, w_lt, w_le, w_gt, w_ge, w_neg, w_eqI, w_neI, w_eqB, w_neB, w_is, w_isNot, w_ix20, w_ix21, w_lenT, w_lenL, w_lenZ, w_abs, w_int, w_min, w_max, w_tupT, w_tupL, w_tupZ, kT_int, kT_bl, kT_non, kT_str, kT_tup, kT_lst, k2, Tv.isNon, Pt.run, Pts.run, setM, ownL, baseOk, seqV,
  List.map_cons, List.map_nil, List.cons_append, List.nil_append, List.append_nil, List.replicate_zero, List.replicate_succ, List.length_cons, List.length_nil, List.getElem?_cons_zero, List.getElem?_cons_succ, List.getElem?_nil, List.set_cons_zero, List.set_cons_succ, List.set_nil, Option.some.injEq, ↓reduceIte, reduceCtorEq, decide_true, decide_false, decide_eq_true_eq, Bool.not_true, Bool.not_false, Bool.false_eq_true, Bool.and_true, Bool.true_and, Bool.or_false, Bool.false_or, Bool.or_true, Bool.true_or, Bool.and_false, Bool.false_and, if_true, if_false, String.reduceEq, or_false, or_true, false_or, true_or, Int.reduceLE, Int.reduceLT, Int.reduceNeg, Int.reduceToNat, Int.reduceAdd, Nat.reduceAdd, Nat.reduceLT, Int.reduceSub, Int.reduceMul, Int.reduceEq, Nat.reduceEqDiff, Int.zero_sub, BEq.rfl])
local macro_rules | `(tactic| decreasing_trivial) => `(tactic| simp only [v_var, v_varB, v_c, v_op, v_un, v_nil, v_cons, v_tup, v_lst, v_test, v_and, v_or, v_not, v_if, v_andV, v_orV, v_notV, v_chain, v_call, v_callF, v_callV, v_isi, v_slice, v_comp, unowned, List.all_cons, List.all_nil, wipeR, and_true, true_and, and_false, false_and, Int.cast_ofNat_Int, v_part, v_noPart, v_fld, v_yes, v_seqI, v_rng1, v_rng2, v_enumI, v_zipI, v_next, v_seq, v_set, v_setO, v_drop, v_ret, v_retN, v_brk, v_cnt, v_ifS, v_frz, v_while, v_for, v_meth, v_setIx, v_cell, v_aug, v_pt, v_par, v_setF, v_fun, v_ne_ok, v_loopF_nil, v_compF_nil,
  w_add, Tv.w_sub, w_lt, w_le, w_gt, w_ge, w_neg, w_eqI, w_neI, w_eqB, w_neB, w_is, w_isNot, w_ix20, w_ix21, w_lenT, w_lenL, w_lenZ, w_abs, w_int, w_min, w_max, w_tupT, w_tupL, w_tupZ, kT_int, kT_bl, kT_non, kT_str, kT_tup, kT_lst, k2, Tv.isNon, Pt.run, Pts.run, setM, ownL, baseOk, seqV,
  List.map_cons, List.map_nil, List.cons_append, List.nil_append, List.append_nil, List.replicate_zero, List.replicate_succ, List.length_cons, List.length_nil, List.getElem?_cons_zero, List.getElem?_cons_succ, List.getElem?_nil, List.set_cons_zero, List.set_cons_succ, List.set_nil, Option.some.injEq, ↓reduceIte, reduceCtorEq, decide_true, decide_false, decide_eq_true_eq, Bool.not_true, Bool.not_false, Bool.false_eq_true, Bool.and_true, Bool.true_and, Bool.or_false, Bool.false_or, Bool.or_true, Bool.true_or, Bool.and_false, Bool.false_and, if_true, if_false, String.reduceEq, or_false, or_true, false_or, true_or, Int.reduceLE, Int.reduceLT, Int.reduceNeg, Int.reduceToNat, Int.reduceAdd, Nat.reduceAdd, Nat.reduceLT, Int.reduceSub, Int.reduceMul, Int.reduceEq, Nat.reduceEqDiff, Int.zero_sub, BEq.rfl, *])

abbrev PP := (Int × Int) × (Int × Int)
def slope (a : PP) : Rat := mkRat (a.2.2 - a.1.2) (a.2.1 - a.1.1).toNat
theorem bd9 {i : Int} (h0 : -255 ≤ i) (h1 : i ≤ 511) : bd 9 i := by
  show i.natAbs < 2 ^ 9
  have : (2 : Nat) ^ 9 = 512 := by decide
  omega
theorem Bd_slope {a : PP} (h : Pr a) : Bd 9 (slope a) := by
  obtain ⟨a1, a2, a3, a4, b1, b2, b3, b4, lt, le⟩ := h
  exact Bd_mk (by omega) (bd9 (by omega) (by omega)) (bd9 (by omega) (by omega))
theorem t_slope {a : PP} {s : S} (h : Pr a) : F_fraction [.int (a.2.2 - a.1.2), .int (a.2.1 - a.1.1)] s = .ok (fr (slope a)) s := by
  obtain ⟨a1, a2, a3, a4, b1, b2, b3, b4, lt, le⟩ := h
  have := t_frac0 (n := a.2.2 - a.1.2) (d := (a.2.1 - a.1.1).toNat) (a := 9) (s := s) (by omega) (bd9 (by omega) (by omega))
  rw [show (((a.2.1 - a.1.1).toNat : Nat) : Int) = a.2.1 - a.1.1 by omega] at this
  exact this
theorem t_lslope {a : PP} {s : S} (h : Pr a) : F__law_frac [.int (a.2.2 - a.1.2), .int (a.2.1 - a.1.1)] s = .ok (fr (slope a)) s := by
  obtain ⟨a1, a2, a3, a4, b1, b2, b3, b4, lt, le⟩ := h
  have := t_lfrac (n := a.2.2 - a.1.2) (d := (a.2.1 - a.1.1).toNat) (s := s) (by omega) (bd_mono (bd9 (by omega) (by omega)))
  rw [show (((a.2.1 - a.1.1).toNat : Nat) : Int) = a.2.1 - a.1.1 by omega] at this
  exact this
def mx (q r : Rat) : Rat := if q < r then r else q
theorem mx_Bd {n : Nat} {q r : Rat} (h1 : Bd n q) (h2 : Bd n r) : Bd n (mx q r) := by
  unfold mx
  split <;> assumption
theorem steep_loop {n : Nat} (hn : n ≤ 3000) : ∀ (l : List Rat) (q : Rat) (a b c d e : SD) (s : S), Bd n q → (∀ r, r ∈ l → Bd n r) → ∃ c', loopF (.nm 3) l_steepest_1 (l.map fr) [a, b, .v (fr q), c, d, e] s = .nx [a, b, .v (fr (l.foldl mx q)), c', d, e] s
  | [], q, a, b, c, d, e, s, _, _ => ⟨c, rfl⟩
  | r :: l, q, a, b, c, d, e, s, hq, hl => by
    have hr := hl r List.mem_cons_self
    obtain ⟨c', ih⟩ := steep_loop hn l (mx q r) a b (.v (fr r)) d e s (mx_Bd hq hr) fun x hx => hl x (List.mem_cons_of_mem _ hx)
    refine ⟨c', ?_⟩
    rw [List.foldl_cons, ← ih, List.map_cons, v_loopF]
    have e1 := fun s => t_is_less (s := s) hq hr
    have e2 : l_steepest_1 [a, b, .v (fr q), .v (fr r), d, e] s = .nx [a, b, .v (fr (mx q r)), .v (fr r), d, e] s := by
      unfold l_steepest_1 mx
      clear ih hq hl hr
      by_cases h : q < r
      · rw [decide_eq_true h] at e1
        rw [if_pos h]
        clear h
        decreasing_trivial
      · rw [decide_eq_false h] at e1
        rw [if_neg h]
        clear h
        decreasing_trivial
    show (match l_steepest_1 [a, b, .v (fr q), .v (fr r), d, e] s with | .nx ρ' s' => loopF (.nm 3) l_steepest_1 (l.map fr) ρ' s' | .ct ρ' s' => loopF (.nm 3) l_steepest_1 (l.map fr) ρ' s' | .bk ρ' s' => .nx ρ' s' | .rt d s' => .rt d s' | .er k ds ρ' s' => .er k ds ρ' s' | .no => .no) = _
    rw [e2]
def stp (ks : Kn) : Rat := ((prs ks).map slope).foldl mx 0
theorem slope_nn {a : PP} (h : Pr a) : 0 ≤ slope a := by
  have h1 := h.lt
  have h2 := h.le
  rw [← Rat.num_nonneg]
  unfold slope
  rw [(mk_nd _ _ (by omega)).1]
  exact Int.ediv_nonneg (by omega) (by omega)
theorem t_steepest {ks : Kn} {s : S} (v : Val ks) : F_steepest [cD ks] s = .ok (fr (stp ks)) s := by
  have hz := sz v
  have hp := v.pr
  have e2 := fun s => w_cut1T (ds := ks.map pD) (s := s)
  have e3 : zipD (ks.map pD) ((ks.map pD).drop 1) = zz pD ks := rfl
  have e1 : ([(0, 0)] : List (Nat × Nat)).lookup 0 = some 0 := rfl
  have e4 : ∀ x : SD, compF (.tp (.cons (.nm 4) (.cons (.nm 5) .nil))) mYes e_steepest_1 [.v (cD ks), .un, .un, .un, .un, .un] (zz pD ks) s = .ok (((prs ks).map slope).map fr) s := fun _ => by
    rw [zz_prs, compF_mapL _ (fun a => fr (slope a)) (prs ks) fun x hx => ⟨_, rfl, ?_⟩]
    · rw [List.map_map]
      rfl
    · have h := fun s => t_slope (s := s) (hp x hx)
      unfold e_steepest_1 pD
      clear hx hz v e1 e2 e3 hp
      decreasing_trivial
  have e4 := e4 .un
  unfold stp
  cases hs : (prs ks).map slope with
  | nil =>
    have := congrArg List.length hs
    rw [List.length_map, prs_len] at this
    have := v.two
    simp at *
    omega
  | cons q l =>
    have hall : ∀ r, r ∈ q :: l → 0 ≤ r ∧ Bd 9 r := fun r hr => by
      rw [← hs] at hr
      obtain ⟨a, ha, rfl⟩ := List.mem_map.mp hr
      exact ⟨slope_nn (hp a ha), Bd_slope (hp a ha)⟩
    have h0 : mx 0 q = q := by
      have := (hall q List.mem_cons_self).1
      unfold mx
      split
      · rfl
      · grind
    rw [hs] at e4
    rw [List.foldl_cons, h0]
    obtain ⟨c', e5⟩ := steep_loop (n := 9) (by omega) l q (.v (cD ks)) (.v (.lst ((q :: l).map fr))) .un .un .un s (hall q List.mem_cons_self).2 fun r hr => (hall r (List.mem_cons_of_mem _ hr)).2
    have e6 : ∀ s, gIx (.lst ((q :: l).map fr)) (.int 0) s = .ok (fr q) s := fun s => ixL (i := 0) (by exact atI_get (i := 0) rfl)
    have e7 := fun s => w_cut1L (ds := (q :: l).map fr) (s := s)
    have e8 : ((q :: l).map fr).drop 1 = l.map fr := rfl
    rw [List.map_cons] at e4 e5 e6 e7 e8
    unfold F_steepest b_steepest
    clear v hp hall h0 hs
    unfold cD kD at *
    decreasing_trivial
/-! areas -/
def ar (a : PP) : Rat := mkRat ((a.2.1 - a.1.1) * (a.1.2 + a.2.2)) 2
def area (ks : Kn) : Rat := (prs ks).foldl (fun q a => q + ar a) 0
theorem area_loop : ∀ (l : List PP) (n : Nat) (q : Rat) (a c d : SD) (s : S), Bd n q → n + 20 * l.length ≤ 3000 → (∀ r, r ∈ l → Pr r) → ∃ c' d', loopF (.tp (.cons (.nm 2) (.cons (.nm 3) .nil))) l_area_below_1 (l.map fun a => .tup [pD a.1, pD a.2]) [a, .v (fr q), c, d] s = .nx [a, .v (fr (l.foldl (fun q a => q + ar a) q)), c', d'] s
  | [], n, q, a, c, d, s, _, _, _ => ⟨c, d, rfl⟩
  | r :: l, n, q, a, c, d, s, hq, hn, hl => by
    have hr := hl r List.mem_cons_self
    rw [List.length_cons] at hn
    obtain ⟨a1, a2, a3, a4, b1, b2, b3, b4, lt, le⟩ := hr
    have f1 := bd9 (i := r.2.1 - r.1.1) (by omega) (by omega)
    have f2 := bd9 (i := r.1.2 + r.2.2) (by omega) (by omega)
    have f3 := bd_mul f1 f2
    have f4 : bd (9 + 9) ((2 : Nat) : Int) := bd_mono (a := 9) (bd9 (by omega) (by omega))
    have f5 : Bd (9 + 9) (ar r) := Bd_mk (by omega) f3 f4
    obtain ⟨c', d', ih⟩ := area_loop l (n + (9 + 9) + 1) (q + ar r) a (.v (pD r.1)) (.v (pD r.2)) s (Bd_add hq f5) (by omega) fun x hx => hl x (List.mem_cons_of_mem _ hx)
    refine ⟨c', d', ?_⟩
    rw [List.foldl_cons, ← ih, List.map_cons, v_loopF]
    have e1 := fun s => mulI (s := s) f1 f2
    have e2 : ∀ s, F_fraction [.int ((r.2.1 - r.1.1) * (r.1.2 + r.2.2)), .int 2] s = .ok (fr (ar r)) s := fun s => t_frac0 (n := (r.2.1 - r.1.1) * (r.1.2 + r.2.2)) (d := 2) (s := s) (by omega) f4
    have e3 := fun s => t_plus (s := s) hq f5
    have e4 : l_area_below_1 [a, .v (fr q), .v (pD r.1), .v (pD r.2)] s = .nx [a, .v (fr (q + ar r)), .v (pD r.1), .v (pD r.2)] s := by
      unfold l_area_below_1 pD
      clear ih hq hl f1 f2 f3 f4 f5 a1 a2 a3 a4 b1 b2 b3 b4 lt le hn
      decreasing_trivial
    show (match l_area_below_1 [a, .v (fr q), .v (pD r.1), .v (pD r.2)] s with | .nx ρ' s' => loopF (.tp (.cons (.nm 2) (.cons (.nm 3) .nil))) l_area_below_1 (l.map fun a : PP => .tup [pD a.1, pD a.2]) ρ' s' | .ct ρ' s' => loopF (.tp (.cons (.nm 2) (.cons (.nm 3) .nil))) l_area_below_1 (l.map fun a : PP => .tup [pD a.1, pD a.2]) ρ' s' | .bk ρ' s' => .nx ρ' s' | .rt d s' => .rt d s' | .er k ds ρ' s' => .er k ds ρ' s' | .no => .no) = _
    rw [e4]
theorem t_area {ks : Kn} {s : S} (v : Val ks) : F_area_below [cD ks] s = .ok (fr (area ks)) s := by
  have hp := v.pr
  have e2 := fun s => w_cut1T (ds := ks.map pD) (s := s)
  have e3 : zipD (ks.map pD) ((ks.map pD).drop 1) = zz pD ks := rfl
  have e1 : ([(0, 0)] : List (Nat × Nat)).lookup 0 = some 0 := rfl
  obtain ⟨c', d', e4⟩ := area_loop (prs ks) 8 0 (.v (cD ks)) .un .un s (Bd_nat (x := 0) (by omega)) (by rw [prs_len]; have := v.most; omega) hp
  rw [← zz_prs] at e4
  have e5 : D.tup [.int 0, .int 1] = fr 0 := rfl
  unfold F_area_below b_area_below area
  clear v hp
  unfold cD kD at *
  decreasing_trivial
end K02

namespace K02
open PySem PySem.Spec L2 Tv
local macro_rules | `(tactic| get_elem_tactic_extensible) => `(tactic| simp only [v_var, v_varB, v_c, v_op, v_un, v_nil, v_cons, v_tup, v_lst, v_test, v_and, v_or, v_not, v_if, v_andV, v_orV, v_notV, v_chain, v_call, v_callF, v_callV, v_isi, v_slice, v_comp, unowned, List.all_cons, List.all_nil, wipeR, and_true, true_and, and_false, false_and, Int.cast_ofNat_Int, v_part, v_noPart, v_fld, v_yes, v_seqI, v_rng1, v_rng2, v_enumI, v_zipI, v_next, v_seq, v_set, v_setO, v_drop, v_ret, v_retN, v_brk, v_cnt, v_ifS, v_frz, v_while, v_for, v_meth, v_setIx, v_cell, v_aug, v_pt, v_par, v_setF, v_fun, v_ne_ok, v_loopF_nil, v_compF_nil,
  w_add, Tv.w_sub, w_lt, w_le, w_gt, w_ge, w_neg, w_eqI, w_neI, w_eqB, w_neB, w_is, w_isNot, w_ix20, w_ix21, w_lenT, w_lenL, w_lenZ, w_abs, w_int, w_min, w_max, w_tupT, w_tupL, w_tupZ, kT_int, kT_bl, kT_non, kT_str, kT_tup, kT_lst, k2, Tv.isNon, Pt.run, Pts.run, setM, ownL, baseOk, seqV,
  List.map_cons, List.map_nil, List.cons_append, List.nil_append, List.append_nil, List.replicate_zero, List.replicate_succ, List.length_cons, List.length_nil, List.getElem?_cons_zero, List.getElem?_cons_succ, List.getElem?_nil, List.set_cons_zero, List.set_cons_succ, List.set_nil, Option.some.injEq, ↓reduceIte, reduceCtorEq, decide_true, decide_false, decide_eq_true_eq, Bool.not_true, Bool.not_false, Bool.false_eq_true, Bool.and_true, Bool.true_and, Bool.or_false, Bool.false_or, Bool.or_true, Bool.true_or, Bool.and_false, Bool.false_and, if_true, if_false, String.reduceEq, or_false, or_true, false_or, true_or, Int.reduceLE, Int.reduceLT, Int.reduceNeg, Int.reduceToNat, Int.reduceAdd, Nat.reduceAdd, Nat.reduceLT, Int.reduceSub, Int.reduceMul, Int.reduceEq, Nat.reduceEqDiff, Int.zero_sub, BEq.rfl])
local macro_rules | `(tactic| decreasing_trivial) => `(tactic| simp only [v_var, v_varB, v_c, v_op, v_un, v_nil, v_cons, v_tup, v_lst, v_test, v_and, v_or, v_not, v_if, v_andV, v_orV, v_notV, v_chain, v_call, v_callF, v_callV, v_isi, v_slice, v_comp, unowned, List.all_cons, List.all_nil, wipeR, and_true, true_and, and_false, false_and, Int.cast_ofNat_Int, v_part, v_noPart, v_fld, v_yes, v_seqI, v_rng1, v_rng2, v_enumI, v_zipI, v_next, v_seq, v_set, v_setO, v_drop, v_ret, v_retN, v_brk, v_cnt, v_ifS, v_frz, v_while, v_for, v_meth, v_setIx, v_cell, v_aug, v_pt, v_par, v_setF, v_fun, v_ne_ok, v_loopF_nil, v_compF_nil,
  w_add, Tv.w_sub, w_lt, w_le, w_gt, w_ge, w_neg, w_eqI, w_neI, w_eqB, w_neB, w_is, w_isNot, w_ix20, w_ix21, w_lenT, w_lenL, w_lenZ, w_abs, w_int, w_min, w_max, w_tupT, w_tupL, w_tupZ, kT_int, kT_bl, kT_non, kT_str, kT_tup, kT_lst, k2, Tv.isNon, Pt.run, Pts.run, setM, ownL, baseOk, seqV,
  List.map_cons, List.map_nil, List.cons_append, List.nil_append, List.append_nil, List.replicate_zero, List.replicate_succ, List.length_cons, List.length_nil, List.getElem?_cons_zero, List.getElem?_cons_succ, List.getElem?_nil, List.set_cons_zero, List.set_cons_succ, List.set_nil, Option.some.injEq, ↓reduceIte, reduceCtorEq, decide_true, decide_false, decide_eq_true_eq, Bool.not_true, Bool.not_false, Bool.false_eq_true, Bool.and_true, Bool.true_and, Bool.or_false, Bool.false_or, Bool.or_true, Bool.true_or, Bool.and_false, Bool.false_and, if_true, if_false, String.reduceEq, or_false, or_true, false_or, true_or, Int.reduceLE, Int.reduceLT, Int.reduceNeg, Int.reduceToNat, Int.reduceAdd, Nat.reduceAdd, Nat.reduceLT, Int.reduceSub, Int.reduceMul, Int.reduceEq, Nat.reduceEqDiff, Int.zero_sub, BEq.rfl, *])

def R4 (p : Int × Int) : Prop := 0 ≤ p.1 ∧ p.1 ≤ 255 ∧ 0 ≤ p.2 ∧ p.2 ≤ 255
def strI (p q r : Int × Int) : Bool := decide ((q.2 - p.2) * (r.1 - p.1) = (r.2 - p.2) * (q.1 - p.1))
theorem mul_cast (a b : Int) : (a : Rat) * (b : Rat) = ((a * b : Int) : Rat) := (Rat.intCast_mul a b).symm
theorem t_minusI {a b : Int} {s : S} (h0 : 0 ≤ a) (h1 : a ≤ 255) (h2 : 0 ≤ b) (h3 : b ≤ 255) : F_minus [.tup [.int a, .int 1], .tup [.int b, .int 1]] s = .ok (.tup [.int (a - b), .int 1]) s := by
  have := t_minus (s := s) (Bd_r h0 h1) (Bd_r h2 h3)
  rw [sub_cast] at this
  rw [frI, frI, frI]
  exact this
theorem t_timesI {a b : Int} {s : S} (h0 : bd 9 a) (h1 : bd 9 b) : F_times [.tup [.int a, .int 1], .tup [.int b, .int 1]] s = .ok (.tup [.int (a * b), .int 1]) s := by
  have := t_times (s := s) (Bd_int h0) (Bd_int h1)
  rw [mul_cast] at this
  rw [frI, frI, frI]
  exact this
theorem t_straight {p q r : Int × Int} {s : S} (hp : R4 p) (hq : R4 q) (hr : R4 r) : F_is_straight [ptD p, ptD q, ptD r] s = .ok (.bl (strI p q r)) s := by
  obtain ⟨p1, p2, p3, p4⟩ := hp
  obtain ⟨q1, q2, q3, q4⟩ := hq
  obtain ⟨r1, r2, r3, r4⟩ := hr
  have e1 := fun s => t_minusI (s := s) q3 q4 p3 p4
  have e2 := fun s => t_minusI (s := s) r1 r2 p1 p2
  have e3 := fun s => t_minusI (s := s) r3 r4 p3 p4
  have e4 := fun s => t_minusI (s := s) q1 q2 p1 p2
  have e5 := fun s => t_timesI (a := q.2 - p.2) (b := r.1 - p.1) (s := s) (bd9 (by omega) (by omega)) (bd9 (by omega) (by omega))
  have e6 := fun s => t_timesI (a := r.2 - p.2) (b := q.1 - p.1) (s := s) (bd9 (by omega) (by omega)) (bd9 (by omega) (by omega))
  have e7 : ∀ s, gEq (.tup [.int ((q.2 - p.2) * (r.1 - p.1)), .int 1]) (.tup [.int ((r.2 - p.2) * (q.1 - p.1)), .int 1]) s = .ok (.bl (strI p q r)) s := fun s => by
    rw [frI, frI, w_eqF]
    unfold strI
    rw [decide_eq_decide.mpr Rat.intCast_inj]
  unfold F_is_straight b_is_straight ptD
  clear p1 p2 p3 p4 q1 q2 q3 q4 r1 r2 r3 r4
  decreasing_trivial
/-- the stack, its top ahead -/
def pw : Kn → (Int × Int) → Kn
  | b :: a :: z, c => if strI a b c then pw (a :: z) c else b :: a :: z
  | l, _ => l
theorem pw_le : ∀ (st : Kn) (c : Int × Int), (pw st c).length ≤ st.length
  | [], _ => Nat.le_refl _
  | [_], _ => Nat.le_refl _
  | b :: a :: z, c => by
    unfold pw
    split
    · exact Nat.le_trans (pw_le (a :: z) c) (by simp)
    · exact Nat.le_refl _
theorem pw_mem : ∀ {st : Kn} {c d : Int × Int}, d ∈ pw st c → d ∈ st
  | [], _, _, h => h
  | [_], _, _, h => h
  | b :: a :: z, c, d, h => by
    unfold pw at h
    split at h
    · exact List.mem_cons_of_mem _ (pw_mem h)
    · exact h
def stk (st : Kn) : List D := (st.reverse).map ptD
theorem stk_cons (b : Int × Int) (z : Kn) : stk (b :: z) = stk z ++ [ptD b] := by
  unfold stk
  rw [List.reverse_cons, List.map_append]
  rfl
theorem ix_m1 {ds : List D} {d : D} {s : S} : gIx (.lst (ds ++ [d])) (.int (-1)) s = .ok d s := ixL (by
  have := atI_neg (ds ++ [d]) 0 (by simp)
  rw [show (-((0 : Nat) + 1 : Int)) = -1 by omega] at this
  rw [this]
  simp)
theorem ix_m2 {ds : List D} {c d : D} {s : S} : gIx (.lst (ds ++ [c] ++ [d])) (.int (-2)) s = .ok c s := ixL (by
  have := atI_neg (ds ++ [c] ++ [d]) 1 (by simp)
  rw [show (-((1 : Nat) + 1 : Int)) = -2 by omega] at this
  rw [this]
  simp)
theorem pop_ok {ds : List D} {d : D} : oPop (ds ++ [d]) [] = some (d, ds) := by
  unfold oPop
  simp
theorem stk_len (st : Kn) : (stk st).length = st.length := by
  unfold stk
  simp
theorem pop_loop : ∀ (n : Nat) (st : Kn) (c : Int × Int) (a : SD) (s : S), st.length < n → (∀ p, p ∈ st → R4 p) → R4 c → loopW t_shortened_1 (mMethS 1 oPop mNil) n [a, .own (.lst (stk st)), .v (ptD c)] s = .nx [a, .own (.lst (stk (pw st c))), .v (ptD c)] s
  | 0, _, _, _, _, h, _, _ => absurd h (Nat.not_lt_zero _)
  | n + 1, [], c, a, s, _, _, _ => by
    rw [v_loopW]
    have e : t_shortened_1 [a, .own (.lst (stk [])), .v (ptD c)] s = .ok false s := by
      unfold t_shortened_1 stk
      get_elem_tactic_extensible
      rfl
    rw [e]
    rfl
  | n + 1, [b], c, a, s, _, _, _ => by
    rw [v_loopW]
    have e : t_shortened_1 [a, .own (.lst (stk [b])), .v (ptD c)] s = .ok false s := by
      unfold t_shortened_1 stk
      get_elem_tactic_extensible
      rfl
    rw [e]
    rfl
  | n + 1, b :: p :: z, c, a, s, hn, hm, hc => by
    rw [v_loopW]
    have e1 := fun s => t_straight (s := s) (hm p (by simp)) (hm b (by simp)) hc
    have i1 : ∀ s, gIx (.lst (stk (b :: p :: z))) (.int (-1)) s = .ok (ptD b) s := fun s => by rw [stk_cons]; exact ix_m1
    have i2 : ∀ s, gIx (.lst (stk (b :: p :: z))) (.int (-2)) s = .ok (ptD p) s := fun s => by rw [stk_cons, stk_cons]; exact ix_m2
    have e2 : decide ((2 : Int) ≤ ((stk (b :: p :: z)).length : Nat)) = true := decide_eq_true (by rw [stk_len, List.length_cons, List.length_cons]; omega)
    have e : t_shortened_1 [a, .own (.lst (stk (b :: p :: z))), .v (ptD c)] s = .ok (strI p b c) s := by
      unfold t_shortened_1
      clear hm hc hn
      decreasing_trivial
    rw [e]
    dsimp only
    unfold pw
    cases hs : strI p b c with
    | true =>
      have e3 : mMethS 1 oPop mNil [a, .own (.lst (stk (b :: p :: z))), .v (ptD c)] s = .nx [a, .own (.lst (stk (p :: z))), .v (ptD c)] s := by
        have := pop_ok (ds := stk (p :: z)) (d := ptD b)
        rw [← stk_cons] at this
        clear e1 e2 i1 i2 e hs hm hc hn
        decreasing_trivial
      dsimp only
      rw [e3]
      dsimp only
      rw [pop_loop n (p :: z) c a s (by simp at *; omega) (fun q hq => hm q (List.mem_cons_of_mem _ hq)) hc]
      rfl
    | false => rfl
def sh (st : Kn) (ks : Kn) : Kn := ks.foldl (fun st c => c :: pw st c) st
theorem sh_loop : ∀ (ks : Kn) (st : Kn) (a b : SD) (s : S), (∀ p, p ∈ st → R4 p) → (∀ p, p ∈ ks → R4 p) → st.length + ks.length ≤ 1000 → ∃ b', loopF (.nm 2) l_shortened_1 (ks.map ptD) [a, .own (.lst (stk st)), b] s = .nx [a, .own (.lst (stk (sh st ks))), b'] s
  | [], st, a, b, s, _, _, _ => ⟨b, rfl⟩
  | c :: ks, st, a, b, s, hst, hks, hl => by
    have hc := hks c List.mem_cons_self
    have hle := pw_le st c
    rw [List.length_cons] at hl
    obtain ⟨b', ih⟩ := sh_loop ks (c :: pw st c) a (.v (ptD c)) s (fun p hp => by
      rcases List.mem_cons.mp hp with rfl | hp
      · exact hc
      · exact hst p (pw_mem hp)) (fun p hp => hks p (List.mem_cons_of_mem _ hp)) (by rw [List.length_cons]; omega)
    refine ⟨b', ?_⟩
    have e1 := pop_loop (st.length + 1) st c a s (by omega) hst hc
    have e2 : fuel_shortened [a, .own (.lst (stk st)), .v (ptD c)] s = st.length + 1 := by
      show (stk st).length + 1 = _
      rw [stk_len]
    have e3 : oAppend (stk (pw st c)) [ptD c] = some (.non, stk (c :: pw st c)) := by
      rw [stk_cons]
      show (if (stk (pw st c)).length < sizeLine then _ else _) = _
      rw [if_pos (by rw [stk_len]; have := size_ok (n := (pw st c).length + 1) (by omega); omega)]
    have e4 : l_shortened_1 [a, .own (.lst (stk st)), .v (ptD c)] s = .nx [a, .own (.lst (stk (c :: pw st c))), .v (ptD c)] s := by
      unfold l_shortened_1
      clear ih hst hks hl hc hle
      decreasing_trivial
    rw [List.map_cons, v_loopF]
    show (match l_shortened_1 [a, .own (.lst (stk st)), .v (ptD c)] s with | .nx ρ' s' => loopF (.nm 2) l_shortened_1 (ks.map ptD) ρ' s' | .ct ρ' s' => loopF (.nm 2) l_shortened_1 (ks.map ptD) ρ' s' | .bk ρ' s' => .nx ρ' s' | .rt d s' => .rt d s' | .er k ds ρ' s' => .er k ds ρ' s' | .no => .no) = _
    rw [e4]
    exact ih
theorem t_shortened {ks : Kn} {s : S} (h : ∀ p, p ∈ ks → R4 p) (hl : ks.length ≤ 1000) : F_shortened [.lst (ks.map ptD)] s = .ok (.lst (stk (sh [] ks))) s := by
  obtain ⟨b', e1⟩ := sh_loop ks [] (.v (.lst (ks.map ptD))) .un s (fun _ h => by cases h) h (by simpa using hl)
  have e0 : stk [] = [] := rfl
  rw [e0] at e1
  unfold F_shortened b_shortened
  clear h hl
  decreasing_trivial
  rfl
end K02

namespace K02
open PySem PySem.Spec L2 Tv
local macro_rules | `(tactic| get_elem_tactic_extensible) => `(tactic| simp only [v_var, v_varB, v_c, v_op, v_un, v_nil, v_cons, v_tup, v_lst, v_test, v_and, v_or, v_not, v_if, v_andV, v_orV, v_notV, v_chain, v_call, v_callF, v_callV, v_isi, v_slice, v_comp, unowned, List.all_cons, List.all_nil, wipeR, and_true, true_and, and_false, false_and, Int.cast_ofNat_Int, v_part, v_noPart, v_fld, v_yes, v_seqI, v_rng1, v_rng2, v_enumI, v_zipI, v_next, v_seq, v_set, v_setO, v_drop, v_ret, v_retN, v_brk, v_cnt, v_ifS, v_frz, v_while, v_for, v_meth, v_setIx, v_cell, v_aug, v_pt, v_par, v_setF, v_fun, v_ne_ok, v_loopF_nil, v_compF_nil,
  w_add, Tv.w_sub, w_lt, w_le, w_gt, w_ge, w_neg, w_eqI, w_neI, w_eqB, w_neB, w_is, w_isNot, w_ix20, w_ix21, w_lenT, w_lenL, w_lenZ, w_abs, w_int, w_min, w_max, w_tupT, w_tupL, w_tupZ, kT_int, kT_bl, kT_non, kT_str, kT_tup, kT_lst, k2, Tv.isNon, Pt.run, Pts.run, setM, ownL, baseOk, seqV,
  List.map_cons, List.map_nil, List.cons_append, List.nil_append, List.append_nil, List.replicate_zero, List.replicate_succ, List.length_cons, List.length_nil, List.getElem?_cons_zero, List.getElem?_cons_succ, List.getElem?_nil, List.set_cons_zero, List.set_cons_succ, List.set_nil, Option.some.injEq, ↓reduceIte, reduceCtorEq, decide_true, decide_false, decide_eq_true_eq, Bool.not_true, Bool.not_false, Bool.false_eq_true, Bool.and_true, Bool.true_and, Bool.or_false, Bool.false_or, Bool.or_true, Bool.true_or, Bool.and_false, Bool.false_and, if_true, if_false, String.reduceEq, or_false, or_true, false_or, true_or, Int.reduceLE, Int.reduceLT, Int.reduceNeg, Int.reduceToNat, Int.reduceAdd, Nat.reduceAdd, Nat.reduceLT, Int.reduceSub, Int.reduceMul, Int.reduceEq, Nat.reduceEqDiff, Int.zero_sub, BEq.rfl])
local macro_rules | `(tactic| decreasing_trivial) => `(tactic| simp only [v_var, v_varB, v_c, v_op, v_un, v_nil, v_cons, v_tup, v_lst, v_test, v_and, v_or, v_not, v_if, v_andV, v_orV, v_notV, v_chain, v_call, v_callF, v_callV, v_isi, v_slice, v_comp, unowned, List.all_cons, List.all_nil, wipeR, and_true, true_and, and_false, false_and, Int.cast_ofNat_Int, v_part, v_noPart, v_fld, v_yes, v_seqI, v_rng1, v_rng2, v_enumI, v_zipI, v_next, v_seq, v_set, v_setO, v_drop, v_ret, v_retN, v_brk, v_cnt, v_ifS, v_frz, v_while, v_for, v_meth, v_setIx, v_cell, v_aug, v_pt, v_par, v_setF, v_fun, v_ne_ok, v_loopF_nil, v_compF_nil,
  w_add, Tv.w_sub, w_lt, w_le, w_gt, w_ge, w_neg, w_eqI, w_neI, w_eqB, w_neB, w_is, w_isNot, w_ix20, w_ix21, w_lenT, w_lenL, w_lenZ, w_abs, w_int, w_min, w_max, w_tupT, w_tupL, w_tupZ, kT_int, kT_bl, kT_non, kT_str, kT_tup, kT_lst, k2, Tv.isNon, Pt.run, Pts.run, setM, ownL, baseOk, seqV,
  List.map_cons, List.map_nil, List.cons_append, List.nil_append, List.append_nil, List.replicate_zero, List.replicate_succ, List.length_cons, List.length_nil, List.getElem?_cons_zero, List.getElem?_cons_succ, List.getElem?_nil, List.set_cons_zero, List.set_cons_succ, List.set_nil, Option.some.injEq, ↓reduceIte, reduceCtorEq, decide_true, decide_false, decide_eq_true_eq, Bool.not_true, Bool.not_false, Bool.false_eq_true, Bool.and_true, Bool.true_and, Bool.or_false, Bool.false_or, Bool.or_true, Bool.true_or, Bool.and_false, Bool.false_and, if_true, if_false, String.reduceEq, or_false, or_true, false_or, true_or, Int.reduceLE, Int.reduceLT, Int.reduceNeg, Int.reduceToNat, Int.reduceAdd, Nat.reduceAdd, Nat.reduceLT, Int.reduceSub, Int.reduceMul, Int.reduceEq, Nat.reduceEqDiff, Int.zero_sub, BEq.rfl, *])

theorem cutK {α : Type} (xs : List α) (k : Nat) (h : k ≤ xs.length) : cutD xs none (some (k : Int)) = xs.take k := by
  unfold cutD
  rw [show HT.sIx xs.length xs.length (some (k : Int)) = min k xs.length from HT.sIx_nat xs.length xs.length k, HT.sIx_none]
  rw [List.drop_zero, Nat.sub_zero, Nat.min_eq_left h]
theorem w_cutK {ds : List D} {k : Nat} {s : S} (h : k ≤ ds.length) : gSliceA (.tup ds) none (some (k : Int)) s = .ok (.tup (ds.take k)) s := by
  show R.ok (D.tup (cutD ds none (some (k : Int)))) s = _
  rw [cutK _ _ h]
theorem ixT_m1 {ds : List D} {d : D} {s : S} : gIx (.tup (ds ++ [d])) (.int (-1)) s = .ok d s := ixT (by
  have := atI_neg (ds ++ [d]) 0 (by simp)
  rw [show (-((0 : Nat) + 1 : Int)) = -1 by omega] at this
  rw [this]
  simp)
theorem t_knot0 {p : Int × Int} {s : S} (hp : R4 p) (h : p.1 = 0) : F_is_knot [pD p, .tup []] s = .ok (.bl true) s := by
  have h0 : decide (p.1 = 0) = true := decide_eq_true h
  have e1 := fun s => t_is_row (ds := [.int p.1, .int p.2]) (n := 2) (s := s)
  have e2 := fun s => t_is_within (i := p.1) (a := 0) (b := 255) (s := s)
  have e3 := fun s => t_is_within (i := p.2) (a := 0) (b := 255) (s := s)
  obtain ⟨p1, p2, p3, p4⟩ := hp
  rw [decide_eq_true ⟨p1, p2⟩] at e2
  rw [decide_eq_true ⟨p3, p4⟩] at e3
  unfold F_is_knot b_is_knot pD
  clear p1 p2 p3 p4 h
  decreasing_trivial
theorem t_knot1 {p q : Int × Int} {ds : List D} {s : S} (hp : R4 p) (h0 : q.1 < p.1) (h1 : q.2 ≤ p.2) : F_is_knot [pD p, .tup (ds ++ [pD q])] s = .ok (.bl true) s := by
  have e1 := fun s => t_is_row (ds := [.int p.1, .int p.2]) (n := 2) (s := s)
  have e2 := fun s => t_is_within (i := p.1) (a := 0) (b := 255) (s := s)
  have e3 := fun s => t_is_within (i := p.2) (a := 0) (b := 255) (s := s)
  have e4 := fun s => ixT_m1 (ds := ds) (d := pD q) (s := s)
  have e5 : decide ((((ds ++ [pD q]).length : Nat) : Int) = 0) = false := decide_eq_false (by rw [List.length_append]; simp; omega)
  obtain ⟨p1, p2, p3, p4⟩ := hp
  rw [decide_eq_true ⟨p1, p2⟩] at e2
  rw [decide_eq_true ⟨p3, p4⟩] at e3
  have e6 : ¬ ((((ds ++ [pD q]).length : Nat) : Int) = 0) := of_decide_eq_false e5
  unfold F_is_knot b_is_knot
  unfold pD at *
  clear p1 p2 p3 p4
  decreasing_trivial
def enu (i : Nat) (ks : Kn) : List D := match ks with
  | [] => []
  | p :: r => .tup [.int (i : Int), pD p] :: enu (i + 1) r
theorem enu_eq : ∀ (ks : Kn) (i : Nat), (ks.map pD).mapIdx (fun j d => D.tup [.int ((i + j : Nat) : Int), d]) = enu i ks
  | [], _ => rfl
  | p :: r, i => by
    rw [List.map_cons, List.mapIdx_cons]
    unfold enu
    rw [← enu_eq r (i + 1)]
    congr 1
    congr 1
    funext j d
    congr 4
    omega
theorem enumD_eq (ks : Kn) : enumD (ks.map pD) = enu 0 ks := by
  rw [← enu_eq]
  unfold enumD
  congr 1
  funext j d
  rw [Nat.zero_add]
theorem fw_loop (f : Kn) (z1 z2 z3 : SD) (v : Val f) (s : S) : ∀ (ks : Kn) (pre : Kn) (a b : SD), f = pre ++ ks → ∃ a' b', loopF (.tp (.cons (.nm 4) (.cons (.nm 5) .nil))) l_first_wrong_1 (enu pre.length ks) [.v (kD f), z1, z2, .v (.fn 0), a, b] s = .nx [.v (kD f), z1, z2, .v (.fn 0), a', b'] s
  | [], pre, a, b, _ => ⟨a, b, rfl⟩
  | p :: ks, pre, a, b, hf => by
    have hp : R4 p := v.rg p (by rw [hf]; simp)
    have hlen : pre.length ≤ (f.map pD).length := by rw [List.length_map, hf, List.length_append]; omega
    obtain ⟨a', b', ih⟩ := fw_loop f z1 z2 z3 v s ks (pre ++ [p]) (.v (.int (pre.length : Nat))) (.v (pD p)) (by rw [hf]; simp)
    rw [List.length_append] at ih
    refine ⟨a', b', ?_⟩
    have e1 := fun s => w_cutK (s := s) hlen
    have ht : (f.map pD).take pre.length = pre.map pD := by rw [hf, List.map_append, List.take_append_of_le_length (by simp), List.take_of_length_le (by simp)]
    rw [ht] at e1
    have e2 : ∀ s, F_is_knot [pD p, .tup (pre.map pD)] s = .ok (.bl true) s := fun s => by
      rcases List.eq_nil_or_concat pre with rfl | ⟨pr, q, rfl⟩
      · obtain ⟨y, r, hy⟩ := v.x0
        rw [hf] at hy
        have : p = (0, y) := (List.cons.inj hy).1
        exact t_knot0 hp (by rw [this])
      · have hd := v.chn.drop pr.length
        rw [hf, List.concat_eq_append, List.append_assoc, List.drop_left] at hd
        rw [List.concat_eq_append, List.map_append]
        exact t_knot1 hp hd.1 hd.2.1
    have e3 : ([(0, F_is_knot)] : List (Nat × FM)).lookup 0 = some F_is_knot := rfl
    unfold enu
    rw [v_loopF]
    have e4 : l_first_wrong_1 [.v (kD f), z1, z2, .v (.fn 0), .v (.int (pre.length : Nat)), .v (pD p)] s = .nx [.v (kD f), z1, z2, .v (.fn 0), .v (.int (pre.length : Nat)), .v (pD p)] s := by
      unfold l_first_wrong_1 tbl_first_wrong
      clear ih hp hlen ht hf v
      unfold kD at *
      decreasing_trivial
    show (match l_first_wrong_1 [.v (kD f), z1, z2, .v (.fn 0), .v (.int (pre.length : Nat)), .v (pD p)] s with | .nx ρ' s' => loopF (.tp (.cons (.nm 4) (.cons (.nm 5) .nil))) l_first_wrong_1 (enu (pre.length + 1) ks) ρ' s' | .ct ρ' s' => loopF (.tp (.cons (.nm 4) (.cons (.nm 5) .nil))) l_first_wrong_1 (enu (pre.length + 1) ks) ρ' s' | .bk ρ' s' => .nx ρ' s' | .rt d s' => .rt d s' | .er k ds ρ' s' => .er k ds ρ' s' | .no => .no) = _
    rw [e4]
    exact ih
theorem t_place {f : Kn} {s : S} (v : Val f) : F_knots_place [kD f] s = .ok .non s := by
  have h2 := v.two
  have h12 := v.most
  obtain ⟨a', b', e1⟩ := fw_loop f (.v (.int 2)) (.v (.int 12)) .un v s f [] .un .un rfl
  rw [List.length_nil, ← enumD_eq] at e1
  have c1 : (2 : Int) ≤ (((f.map pD).length : Nat) : Int) := by rw [List.length_map]; omega
  have c2 : (((f.map pD).length : Nat) : Int) ≤ 12 := by rw [List.length_map]; omega
  have d1 := decide_eq_true c1
  have d2 := decide_eq_true c2
  have e2 : F_first_wrong [kD f, .int 2, .int 12, .fn 0] s = .ok .non s := by
    unfold F_first_wrong b_first_wrong
    clear h2 h12 v
    unfold kD at *
    decreasing_trivial
  have e3 : ∀ s, gIx (kD f) (.int (-1)) s = .ok (pD (lastP f)) s := fun s => ixT (by
    have := atI_neg (f.map pD) 0 (by rw [List.length_map]; omega)
    rw [show (-((0 : Nat) + 1 : Int)) = -1 by omega] at this
    rw [this, List.getElem?_map, List.length_map, Nat.sub_zero, lastP_get (by intro e; rw [e] at h2; simp at h2)]
    rfl)
  have e4 : ∀ s, gIx (pD (lastP f)) (.int 0) s = .ok (.int (lastP f).1) s := fun s => rfl
  have e5 := v.xn
  unfold F_knots_place b_knots_place
  clear h2 h12 v c1 c2 d1 d2 e1
  decreasing_trivial
theorem t_init {f : Kn} {s : S} (v : Val f) : F_Curve_init [kD f] s = .ok (cD f) s := by
  have e1 := fun s => t_place (s := s) v
  have e2 : ∀ s, F_require_part [.str "knots", .non] s = .ok .non s := fun s => by
    unfold F_require_part b_require_part
    get_elem_tactic_extensible
  unfold F_Curve_init b_Curve_init mInit
  decreasing_trivial
end K02

namespace K02
open PySem PySem.Spec L2 Tv
local macro_rules | `(tactic| get_elem_tactic_extensible) => `(tactic| simp only [v_var, v_varB, v_c, v_op, v_un, v_nil, v_cons, v_tup, v_lst, v_test, v_and, v_or, v_not, v_if, v_andV, v_orV, v_notV, v_chain, v_call, v_callF, v_callV, v_isi, v_slice, v_comp, unowned, List.all_cons, List.all_nil, wipeR, and_true, true_and, and_false, false_and, Int.cast_ofNat_Int, v_part, v_noPart, v_fld, v_yes, v_seqI, v_rng1, v_rng2, v_enumI, v_zipI, v_next, v_seq, v_set, v_setO, v_drop, v_ret, v_retN, v_brk, v_cnt, v_ifS, v_frz, v_while, v_for, v_meth, v_setIx, v_cell, v_aug, v_pt, v_par, v_setF, v_fun, v_ne_ok, v_loopF_nil, v_compF_nil,
  w_add, Tv.w_sub, w_lt, w_le, w_gt, w_ge, w_neg, w_eqI, w_neI, w_eqB, w_neB, w_is, w_isNot, w_ix20, w_ix21, w_lenT, w_lenL, w_lenZ, w_abs, w_int, w_min, w_max, w_tupT, w_tupL, w_tupZ, kT_int, kT_bl, kT_non, kT_str, kT_tup, kT_lst, k2, Tv.isNon, Pt.run, Pts.run, setM, ownL, baseOk, seqV,
  List.map_cons, List.map_nil, List.cons_append, List.nil_append, List.append_nil, List.replicate_zero, List.replicate_succ, List.length_cons, List.length_nil, List.getElem?_cons_zero, List.getElem?_cons_succ, List.getElem?_nil, List.set_cons_zero, List.set_cons_succ, List.set_nil, Option.some.injEq, ↓reduceIte, reduceCtorEq, decide_true, decide_false, decide_eq_true_eq, Bool.not_true, Bool.not_false, Bool.false_eq_true, Bool.and_true, Bool.true_and, Bool.or_false, Bool.false_or, Bool.or_true, Bool.true_or, Bool.and_false, Bool.false_and, if_true, if_false, String.reduceEq, or_false, or_true, false_or, true_or, Int.reduceLE, Int.reduceLT, Int.reduceNeg, Int.reduceToNat, Int.reduceAdd, Nat.reduceAdd, Nat.reduceLT, Int.reduceSub, Int.reduceMul, Int.reduceEq, Nat.reduceEqDiff, Int.zero_sub, BEq.rfl])
local macro_rules | `(tactic| decreasing_trivial) => `(tactic| simp only [v_var, v_varB, v_c, v_op, v_un, v_nil, v_cons, v_tup, v_lst, v_test, v_and, v_or, v_not, v_if, v_andV, v_orV, v_notV, v_chain, v_call, v_callF, v_callV, v_isi, v_slice, v_comp, unowned, List.all_cons, List.all_nil, wipeR, and_true, true_and, and_false, false_and, Int.cast_ofNat_Int, v_part, v_noPart, v_fld, v_yes, v_seqI, v_rng1, v_rng2, v_enumI, v_zipI, v_next, v_seq, v_set, v_setO, v_drop, v_ret, v_retN, v_brk, v_cnt, v_ifS, v_frz, v_while, v_for, v_meth, v_setIx, v_cell, v_aug, v_pt, v_par, v_setF, v_fun, v_ne_ok, v_loopF_nil, v_compF_nil,
  w_add, Tv.w_sub, w_lt, w_le, w_gt, w_ge, w_neg, w_eqI, w_neI, w_eqB, w_neB, w_is, w_isNot, w_ix20, w_ix21, w_lenT, w_lenL, w_lenZ, w_abs, w_int, w_min, w_max, w_tupT, w_tupL, w_tupZ, kT_int, kT_bl, kT_non, kT_str, kT_tup, kT_lst, k2, Tv.isNon, Pt.run, Pts.run, setM, ownL, baseOk, seqV,
  List.map_cons, List.map_nil, List.cons_append, List.nil_append, List.append_nil, List.replicate_zero, List.replicate_succ, List.length_cons, List.length_nil, List.getElem?_cons_zero, List.getElem?_cons_succ, List.getElem?_nil, List.set_cons_zero, List.set_cons_succ, List.set_nil, Option.some.injEq, ↓reduceIte, reduceCtorEq, decide_true, decide_false, decide_eq_true_eq, Bool.not_true, Bool.not_false, Bool.false_eq_true, Bool.and_true, Bool.true_and, Bool.or_false, Bool.false_or, Bool.or_true, Bool.true_or, Bool.and_false, Bool.false_and, if_true, if_false, String.reduceEq, or_false, or_true, false_or, true_or, Int.reduceLE, Int.reduceLT, Int.reduceNeg, Int.reduceToNat, Int.reduceAdd, Nat.reduceAdd, Nat.reduceLT, Int.reduceSub, Int.reduceMul, Int.reduceEq, Nat.reduceEqDiff, Int.zero_sub, BEq.rfl, *])

abbrev K2 := Int × Int
/-- one line -/
def ln (p q r : K2) : Prop := (q.2 - p.2) * (r.1 - q.1) = (r.2 - q.2) * (q.1 - p.1)
theorem strI_ln (p q r : K2) : strI p q r = true ↔ ln p q r := by
  unfold strI ln
  rw [decide_eq_true_eq]
  constructor <;> intro h <;> grind
theorem strI_iff {p q r p' q' r' : K2} (h : ln p q r ↔ ln p' q' r') : strI p q r = strI p' q' r' := by
  rw [Bool.eq_iff_iff, strI_ln, strI_ln, h]
theorem can {u a b : Int} (hu : 0 < u) (h : u * a = u * b) : a = b := Int.eq_of_mul_eq_mul_left (by omega) h
/-- a lies on the line of p, q -/
def onl (a p q : K2) : Prop := (q.2 - a.2) * (q.1 - p.1) = (q.2 - p.2) * (q.1 - a.1)
theorem onl_ln {a p q r : K2} (ha : a.1 < q.1) (hp : p.1 < q.1) (h : onl a p q) : ln a q r ↔ ln p q r := by
  unfold onl at h
  unfold ln
  constructor
  · intro e
    refine can (u := q.1 - a.1) (by omega) ?_
    grind
  · intro e
    refine can (u := q.1 - p.1) (by omega) ?_
    grind
theorem ln_onl {a q r : K2} (h : ln a q r) : onl a q r := by
  unfold ln at h
  unfold onl
  grind
theorem ln_cut {y a q r : K2} (h1 : a.1 < q.1) (h2 : q.1 < r.1) (h : ln a q r) (e : ln y a r) : ln y a q := by
  unfold ln at *
  refine can (u := r.1 - a.1) (by omega) ?_
  grind
def inn : Kn → Kn
  | p :: q :: r :: t => if strI p q r then inn (q :: r :: t) else q :: inn (q :: r :: t)
  | _ => []
def kept : Kn → Kn
  | [] => []
  | p :: r => p :: (inn (p :: r) ++ [lastP (p :: r)])
theorem sh_inn : ∀ (ks : Kn) (p q a : K2) (z : Kn), Chn (p :: q :: ks) → a.1 < q.1 → onl a p q → (∀ y z', z = y :: z' → ¬ ln y a q) → (sh (q :: a :: z) ks).reverse = (a :: z).reverse ++ (inn (p :: q :: ks) ++ [lastP (q :: ks)])
  | [], p, q, a, z, _, _, _, _ => by
    show (q :: a :: z).reverse = _ ++ ([] ++ [q])
    rw [List.reverse_cons, List.nil_append]
  | r :: ks, p, q, a, z, hc, ha, ho, hz => by
    have hpq := hc.1
    have hqr := hc.tail.1
    have es : strI a q r = strI p q r := strI_iff (onl_ln ha hpq ho)
    show (sh (r :: pw (q :: a :: z) r) ks).reverse = _
    unfold pw inn
    rw [es, lastP_cons]
    cases hs : strI p q r with
    | true =>
      have hl : ln a q r := (strI_ln _ _ _).mp (by rw [es, hs])
      have hp : pw (a :: z) r = a :: z := by
        cases z with
        | nil => rfl
        | cons y z' =>
          have : strI y a r = false := by
            cases hx : strI y a r with
            | false => rfl
            | true => exact absurd (ln_cut ha hqr hl ((strI_ln _ _ _).mp hx)) (hz y z' rfl)
          unfold pw
          rw [this]
          rfl
      rw [if_pos rfl, if_pos rfl, hp]
      exact sh_inn ks q r a z hc.tail (by omega) (ln_onl hl) fun y z' e hx => hz y z' e (ln_cut ha hqr hl hx)
    | false =>
      rw [if_neg Bool.false_ne_true, if_neg Bool.false_ne_true]
      rw [sh_inn ks q r q (a :: z) hc.tail hqr rfl fun y z' e hx => by
        cases e
        rw [← strI_ln, es, hs] at hx
        cases hx]
      simp
theorem sh_kept : ∀ {ks : Kn}, Chn ks → 2 ≤ ks.length → (sh [] ks).reverse = kept ks
  | [], _, h => by simp at h
  | [_], _, h => by simp at h
  | p :: q :: ks, hc, _ => by
    have := sh_inn ks p q p [] hc hc.1 rfl (fun _ _ e => by cases e)
    show (sh [q, p] ks).reverse = _
    rw [this]
    rfl
theorem lastP_mem : ∀ {ks : Kn}, ks ≠ [] → lastP ks ∈ ks
  | [], h => absurd rfl h
  | [p], _ => List.mem_cons_self
  | p :: q :: r, _ => List.mem_cons_of_mem _ (lastP_mem (ks := q :: r) (by simp))
theorem inn_mem : ∀ {ks : Kn} {d : K2}, d ∈ inn ks → d ∈ ks
  | [], _, h => by cases h
  | [_], _, h => by cases h
  | [_, _], _, h => by cases h
  | p :: q :: r :: t, d, h => by
    unfold inn at h
    split at h
    · exact List.mem_cons_of_mem _ (inn_mem h)
    · rcases List.mem_cons.mp h with rfl | h
      · simp
      · exact List.mem_cons_of_mem _ (inn_mem h)
theorem inn_len : ∀ (ks : Kn), (inn ks).length ≤ ks.length - 2
  | [] => Nat.le_refl _
  | [_] => Nat.le_refl _
  | [_, _] => Nat.le_refl _
  | p :: q :: r :: t => by
    have := inn_len (q :: r :: t)
    unfold inn
    split
    · simp at *; omega
    · simp at *; omega
theorem lastP_app : ∀ (l : Kn) (p : K2), lastP (l ++ [p]) = p
  | [], _ => rfl
  | [_], _ => rfl
  | a :: b :: l, p => by
    show lastP (a :: b :: (l ++ [p])) = _
    rw [lastP_cons]
    exact lastP_app (b :: l) p
theorem kept_chn : ∀ (ks : Kn) (a : K2) (h : ks ≠ []), Chn (a :: ks) → ∀ p : K2, p.1 ≤ a.1 → p.2 ≤ a.2 → (p.1 < (ks.headD (0, 0)).1 ∧ p.2 ≤ (ks.headD (0, 0)).2) → Chn (p :: (inn (a :: ks) ++ [lastP ks]))
  | [], _, h, _, _, _, _, _ => absurd rfl h
  | [q], a, _, hc, p, h1, h2, h3 => ⟨h3.1, h3.2, trivial⟩
  | q :: r :: t, a, _, hc, p, h1, h2, h3 => by
    have c1 := hc.tail
    have hq := hc.1
    have hq2 := hc.2.1
    have hr := c1.1
    have hr2 := c1.2.1
    rw [lastP_cons]
    unfold inn
    split
    · exact kept_chn (r :: t) q (by simp) c1 p (by omega) (by omega) ⟨by show p.1 < r.1; omega, by show p.2 ≤ r.2; omega⟩
    · exact ⟨h3.1, h3.2, kept_chn (r :: t) q (by simp) c1 q (Int.le_refl _) (Int.le_refl _) ⟨hr, hr2⟩⟩
theorem Val.kept {ks : Kn} (v : Val ks) : Val (kept ks) := by
  obtain ⟨two, most, chn, rg, ⟨y, r, hx⟩, xn⟩ := v
  subst hx
  cases r with
  | nil => simp at two
  | cons q r =>
    have hl := inn_len ((0, y) :: q :: r)
    refine ⟨?_, ?_, ?_, ?_, ⟨y, _, rfl⟩, ?_⟩
    · unfold K02.kept
      simp
    · unfold K02.kept
      simp at *
      omega
    · show Chn ((0, y) :: (inn ((0, y) :: q :: r) ++ [lastP (q :: r)]))
      exact kept_chn (q :: r) (0, y) (by simp) chn (0, y) (Int.le_refl _) (Int.le_refl _) ⟨chn.1, chn.2.1⟩
    · intro p hp
      unfold K02.kept at hp
      refine rg p ?_
      rcases List.mem_cons.mp hp with rfl | hp
      · simp
      · rcases List.mem_append.mp hp with hp | hp
        · exact inn_mem hp
        · rw [List.mem_singleton.mp hp]
          exact lastP_mem (by simp)
    · show (lastP ((0, y) :: (inn ((0, y) :: q :: r) ++ [lastP ((0, y) :: q :: r)]))).1 = 255
      rw [← List.cons_append, lastP_app]
      exact xn
theorem t_shortest {ks : Kn} {s : S} (v : Val ks) : F_shortest [cD ks] s = .ok (cD (kept ks)) s := by
  have e1 := fun s => t_points (ks := ks) (s := s) (by have := v.most; omega)
  have e2 := fun s => t_shortened (ks := ks) (s := s) v.rg (by have := v.most; omega)
  have e3 : stk (sh [] ks) = (kept ks).map ptD := by
    unfold stk
    rw [sh_kept v.chn v.two]
  rw [e3] at e2
  have hz : (((kept ks).map ptD).length ≤ sizeLine) = True := by
    rw [List.length_map]
    have := v.kept.most
    exact eq_true (size_ok (by omega))
  have e4 := fun s => t_init (s := s) v.kept
  have e5 : compF (.tp (.cons (.nm 1) (.cons (.nm 2) .nil))) mYes e_shortest_1 [.v (cD ks), .un, .un] ((kept ks).map ptD) s = .ok ((kept ks).map pD) s := by
    rw [compF_mapL ptD pD (kept ks) fun p hp => ⟨_, rfl, ?_⟩]
    unfold e_shortest_1
    clear e1 e2 e3 hz e4 hp v
    get_elem_tactic_extensible
    rfl
  have e6 : D.tup ((kept ks).map pD) = kD (kept ks) := rfl
  unfold F_shortest b_shortest
  clear v e3
  decreasing_trivial
theorem pl_kD (ks : Kn) : pl 2 (kD ks) = true := by
  unfold kD pl
  rw [List.all_map, List.all_eq_true]
  intro p _
  rfl
theorem kD_inj {f g : Kn} (h : kD f = kD g) : f = g := by
  unfold kD at h
  have h := D.tup.inj h
  refine List.map_inj_right (f := pD) ?_ |>.mp h
  intro a b e
  unfold pD at e
  simp only [D.tup.injEq, List.cons.injEq, D.int.injEq, and_true] at e
  exact Prod.ext e.1 e.2
theorem w_eqK {f g : Kn} {s : S} : gEq (kD f) (kD g) s = .ok (.bl (decide (f = g))) s := w_eq (eqD_pl (n := 2) (pl_kD f) (pl_kD g) (by omega) (by rw [decide_eq_true_eq]; exact ⟨fun h => by rw [h], kD_inj⟩))
theorem t_Curve_eq {f g : Kn} {s : S} : F_Curve_eq [cD f, cD g] s = .ok (.bl (decide (f = g))) s := by
  have e1 := fun s => w_eqK (f := f) (g := g) (s := s)
  have e2 : ([(0, 0)] : List (Nat × Nat)).lookup 0 = some 0 := rfl
  have e3 : kCl cs 0 (cD g) = some true := rfl
  unfold F_Curve_eq b_Curve_eq
  decreasing_trivial
theorem t_are_alike {f g : Kn} {s : S} (vf : Val f) (vg : Val g) : F_are_alike [cD f, cD g] s = .ok (.bl (decide (kept f = kept g))) s := by
  have e1 := fun s => t_shortest (s := s) vf
  have e2 := fun s => t_shortest (s := s) vg
  have e3 : ∀ s, gEqO 0 F_Curve_eq (cD (kept f)) (cD (kept g)) s = .ok (.bl (decide (kept f = kept g))) s := fun s => by
    unfold gEqO
    dsimp only [cD]
    rw [if_pos ⟨rfl, rfl⟩]
    have := t_Curve_eq (f := kept f) (g := kept g) (s := s)
    unfold cD at this
    rw [this]
  unfold F_are_alike b_are_alike
  clear vf vg
  decreasing_trivial
end K02

namespace K02
open PySem PySem.Spec L2 Tv
local macro_rules | `(tactic| get_elem_tactic_extensible) => `(tactic| simp only [v_var, v_varB, v_c, v_op, v_un, v_nil, v_cons, v_tup, v_lst, v_test, v_and, v_or, v_not, v_if, v_andV, v_orV, v_notV, v_chain, v_call, v_callF, v_callV, v_isi, v_slice, v_comp, unowned, List.all_cons, List.all_nil, wipeR, and_true, true_and, and_false, false_and, Int.cast_ofNat_Int, v_part, v_noPart, v_fld, v_yes, v_seqI, v_rng1, v_rng2, v_enumI, v_zipI, v_next, v_seq, v_set, v_setO, v_drop, v_ret, v_retN, v_brk, v_cnt, v_ifS, v_frz, v_while, v_for, v_meth, v_setIx, v_cell, v_aug, v_pt, v_par, v_setF, v_fun, v_ne_ok, v_loopF_nil, v_compF_nil,
  w_add, Tv.w_sub, w_lt, w_le, w_gt, w_ge, w_neg, w_eqI, w_neI, w_eqB, w_neB, w_is, w_isNot, w_ix20, w_ix21, w_lenT, w_lenL, w_lenZ, w_abs, w_int, w_min, w_max, w_tupT, w_tupL, w_tupZ, kT_int, kT_bl, kT_non, kT_str, kT_tup, kT_lst, k2, Tv.isNon, Pt.run, Pts.run, setM, ownL, baseOk, seqV,
  List.map_cons, List.map_nil, List.cons_append, List.nil_append, List.append_nil, List.replicate_zero, List.replicate_succ, List.length_cons, List.length_nil, List.getElem?_cons_zero, List.getElem?_cons_succ, List.getElem?_nil, List.set_cons_zero, List.set_cons_succ, List.set_nil, Option.some.injEq, ↓reduceIte, reduceCtorEq, decide_true, decide_false, decide_eq_true_eq, Bool.not_true, Bool.not_false, Bool.false_eq_true, Bool.and_true, Bool.true_and, Bool.or_false, Bool.false_or, Bool.or_true, Bool.true_or, Bool.and_false, Bool.false_and, if_true, if_false, String.reduceEq, or_false, or_true, false_or, true_or, Int.reduceLE, Int.reduceLT, Int.reduceNeg, Int.reduceToNat, Int.reduceAdd, Nat.reduceAdd, Nat.reduceLT, Int.reduceSub, Int.reduceMul, Int.reduceEq, Nat.reduceEqDiff, Int.zero_sub, BEq.rfl])
local macro_rules | `(tactic| decreasing_trivial) => `(tactic| simp only [v_var, v_varB, v_c, v_op, v_un, v_nil, v_cons, v_tup, v_lst, v_test, v_and, v_or, v_not, v_if, v_andV, v_orV, v_notV, v_chain, v_call, v_callF, v_callV, v_isi, v_slice, v_comp, unowned, List.all_cons, List.all_nil, wipeR, and_true, true_and, and_false, false_and, Int.cast_ofNat_Int, v_part, v_noPart, v_fld, v_yes, v_seqI, v_rng1, v_rng2, v_enumI, v_zipI, v_next, v_seq, v_set, v_setO, v_drop, v_ret, v_retN, v_brk, v_cnt, v_ifS, v_frz, v_while, v_for, v_meth, v_setIx, v_cell, v_aug, v_pt, v_par, v_setF, v_fun, v_ne_ok, v_loopF_nil, v_compF_nil,
  w_add, Tv.w_sub, w_lt, w_le, w_gt, w_ge, w_neg, w_eqI, w_neI, w_eqB, w_neB, w_is, w_isNot, w_ix20, w_ix21, w_lenT, w_lenL, w_lenZ, w_abs, w_int, w_min, w_max, w_tupT, w_tupL, w_tupZ, kT_int, kT_bl, kT_non, kT_str, kT_tup, kT_lst, k2, Tv.isNon, Pt.run, Pts.run, setM, ownL, baseOk, seqV,
  List.map_cons, List.map_nil, List.cons_append, List.nil_append, List.append_nil, List.replicate_zero, List.replicate_succ, List.length_cons, List.length_nil, List.getElem?_cons_zero, List.getElem?_cons_succ, List.getElem?_nil, List.set_cons_zero, List.set_cons_succ, List.set_nil, Option.some.injEq, ↓reduceIte, reduceCtorEq, decide_true, decide_false, decide_eq_true_eq, Bool.not_true, Bool.not_false, Bool.false_eq_true, Bool.and_true, Bool.true_and, Bool.or_false, Bool.false_or, Bool.or_true, Bool.true_or, Bool.and_false, Bool.false_and, if_true, if_false, String.reduceEq, or_false, or_true, false_or, true_or, Int.reduceLE, Int.reduceLT, Int.reduceNeg, Int.reduceToNat, Int.reduceAdd, Nat.reduceAdd, Nat.reduceLT, Int.reduceSub, Int.reduceMul, Int.reduceEq, Nat.reduceEqDiff, Int.zero_sub, BEq.rfl, *])

def ins : List Rat → Rat → List Rat
  | [], v => [v]
  | a :: r, v => if a < v then a :: ins r v else if a = v then a :: r else v :: a :: r
def inord (l : List Rat) : List Rat := l.foldl ins []
theorem ins_mem : ∀ {l : List Rat} {v x : Rat}, x ∈ ins l v ↔ x ∈ l ∨ x = v
  | [], v, x => by unfold ins; simp
  | a :: r, v, x => by
    have ih := ins_mem (l := r) (v := v) (x := x)
    unfold ins
    split
    · rw [List.mem_cons, ih, List.mem_cons]
      exact or_assoc.symm
    · split
      · rename_i h
        subst h
        rw [List.mem_cons]
        constructor
        · intro h; exact .inl h
        · rintro (h | h)
          · exact h
          · exact .inl h
      · rw [List.mem_cons, List.mem_cons]
        constructor
        · rintro (h | h)
          · exact .inr h
          · exact .inl h
        · rintro (h | h)
          · exact .inr h
          · exact .inl h
theorem inordG_mem : ∀ {l st : List Rat} {x : Rat}, x ∈ l.foldl ins st ↔ x ∈ st ∨ x ∈ l
  | [], st, x => by simp
  | a :: l, st, x => by
    rw [List.foldl_cons, inordG_mem, ins_mem, List.mem_cons]
    exact or_assoc
theorem inord_mem {l : List Rat} {x : Rat} : x ∈ inord l ↔ x ∈ l := by
  unfold inord
  rw [inordG_mem]
  simp
theorem ins_sorted : ∀ {l : List Rat} {v : Rat}, l.Pairwise (· < ·) → (ins l v).Pairwise (· < ·)
  | [], v, _ => by unfold ins; simp
  | a :: r, v, h => by
    obtain ⟨h1, h2⟩ := List.pairwise_cons.mp h
    unfold ins
    split
    · rename_i hv
      refine List.pairwise_cons.mpr ⟨fun x hx => ?_, ins_sorted h2⟩
      rcases ins_mem.mp hx with hx | rfl
      · exact h1 x hx
      · exact hv
    · split
      · exact h
      · rename_i n1 n2
        refine List.pairwise_cons.mpr ⟨fun x hx => ?_, h⟩
        have hva : v < a := by grind
        rcases List.mem_cons.mp hx with rfl | hx
        · exact hva
        · have := h1 x hx
          grind
theorem inord_sorted (l : List Rat) : (inord l).Pairwise (· < ·) := by
  unfold inord
  suffices ∀ (l st : List Rat), st.Pairwise (· < ·) → (l.foldl ins st).Pairwise (· < ·) from this l [] List.Pairwise.nil
  intro l
  induction l with
  | nil => exact fun _ h => h
  | cons a l ih => exact fun st h => ih _ (ins_sorted h)
def tw (l : List Rat) (v : Rat) : Nat := (l.takeWhile fun a => decide (a < v)).length
theorem tw_le (l : List Rat) (v : Rat) : tw l v ≤ l.length := List.Sublist.length_le (List.takeWhile_sublist _)
theorem tw_pos {a : Rat} {r : List Rat} {v : Rat} (h : a < v) : tw (a :: r) v = tw r v + 1 := by
  unfold tw
  simp [List.takeWhile_cons, h]
theorem tw_neg {a : Rat} {r : List Rat} {v : Rat} (h : ¬ a < v) : tw (a :: r) v = 0 := by
  unfold tw
  simp [List.takeWhile_cons, h]
theorem ins_tw : ∀ (l : List Rat) (v : Rat), (l[tw l v]? = some v ∧ ins l v = l) ∨ (l[tw l v]? ≠ some v ∧ ins l v = l.take (tw l v) ++ [v] ++ l.drop (tw l v))
  | [], v => .inr ⟨by simp, rfl⟩
  | a :: r, v => by
    unfold ins
    by_cases h : a < v
    · have e : tw (a :: r) v = tw r v + 1 := tw_pos h
      rw [if_pos h, e]
      rcases ins_tw r v with ⟨h1, h2⟩ | ⟨h1, h2⟩
      · exact .inl ⟨by rw [List.getElem?_cons_succ]; exact h1, by rw [h2]⟩
      · refine .inr ⟨by rw [List.getElem?_cons_succ]; exact h1, ?_⟩
        rw [h2]
        rfl
    · have e : tw (a :: r) v = 0 := tw_neg h
      rw [if_neg h, e]
      by_cases h2 : a = v
      · rw [if_pos h2]
        exact .inl ⟨by rw [h2]; rfl, rfl⟩
      · rw [if_neg h2]
        exact .inr ⟨fun e => h2 (Option.some.inj e), rfl⟩
theorem walk_loop {N : Nat} (hN : N ≤ 3000) (v : Rat) (hv : Bd N v) (a : SD) (s : S) : ∀ (n : Nat) (r pre : List Rat), r.length < n → (∀ x, x ∈ pre ++ r → Bd N x) → loopW t_in_order_1 l_in_order_1 n [a, .own (.lst ((pre ++ r).map fr)), .v (fr v), .v (.int (pre.length : Nat))] s = .nx [a, .own (.lst ((pre ++ r).map fr)), .v (fr v), .v (.int ((pre.length + tw r v : Nat) : Int))] s
  | 0, _, _, h, _ => absurd h (Nat.not_lt_zero _)
  | n + 1, [], pre, _, _ => by
    rw [List.append_nil]
    have c : ¬ (((pre.length : Nat) : Int) < (((pre.map fr).length : Nat) : Int)) := by
      rw [List.length_map]
      omega
    have c := decide_eq_false c
    have e : t_in_order_1 [a, .own (.lst (pre.map fr)), .v (fr v), .v (.int (pre.length : Nat))] s = .ok false s := by
      unfold t_in_order_1
      decreasing_trivial
    rw [v_loopW, e]
    rfl
  | n + 1, x :: r, pre, hn, hB => by
    have hx : Bd N x := hB x (by simp)
    have c : (((pre.length : Nat) : Int) < ((((pre ++ x :: r).map fr).length : Nat) : Int)) := by
      rw [List.length_map, List.length_append, List.length_cons]
      omega
    have c := decide_eq_true c
    have e1 := fun s => t_is_less (s := s) hx hv
    have e2 : ∀ s, gIx (.lst ((pre ++ x :: r).map fr)) (.int (pre.length : Nat)) s = .ok (fr x) s := fun s => ixL (atI_get (by simp))
    have e : t_in_order_1 [a, .own (.lst ((pre ++ x :: r).map fr)), .v (fr v), .v (.int (pre.length : Nat))] s = .ok (decide (x < v)) s := by
      unfold t_in_order_1
      clear hx hB hn hv
      decreasing_trivial
    rw [v_loopW, e]
    by_cases h : x < v
    · rw [decide_eq_true h]
      dsimp only
      have e3 : l_in_order_1 [a, .own (.lst ((pre ++ x :: r).map fr)), .v (fr v), .v (.int (pre.length : Nat))] s = .nx [a, .own (.lst ((pre ++ x :: r).map fr)), .v (fr v), .v (.int (((pre ++ [x]).length : Nat) : Int))] s := by
        have q : (((pre ++ [x]).length : Nat) : Int) = ((pre.length : Nat) : Int) + 1 := by simp
        rw [q]
        unfold l_in_order_1
        clear e1 e2 e hx hB hn hv c h q
        decreasing_trivial
      rw [e3]
      dsimp only
      have ih := walk_loop hN v hv a s n r (pre ++ [x]) (by rw [List.length_cons] at hn; omega) (by simpa using hB)
      have ea : pre ++ [x] ++ r = pre ++ x :: r := by simp
      rw [ea] at ih
      rw [ih]
      have e4 : (pre ++ [x]).length + tw r v = pre.length + tw (x :: r) v := by
        rw [tw_pos h]
        simp
        omega
      rw [e4]
    · rw [decide_eq_false h]
      have e4 : tw (x :: r) v = 0 := tw_neg h
      rw [e4]
      rfl
theorem order_turn {N : Nat} (hN : N ≤ 3000) (v : Rat) (hv : Bd N v) (l : List Rat) (hl : ∀ x, x ∈ l → Bd N x) (hlen : l.length ≤ 1000) (a b : SD) (s : S) : ∃ b', l_in_order_2 [a, .own (.lst (l.map fr)), .v (fr v), b] s = .nx [a, .own (.lst ((ins l v).map fr)), .v (fr v), b'] s := by
  have e1 := walk_loop hN v hv a s (l.length + 1) l [] (by omega) hl
  rw [List.nil_append, List.length_nil, Nat.zero_add] at e1
  have ef : fuel_in_order [a, .own (.lst (l.map fr)), .v (fr v), .v (.int 0)] s = l.length + 1 := by
    show (l.map fr).length + 1 = _
    rw [List.length_map]
  have e1 : loopW t_in_order_1 l_in_order_1 (l.length + 1) [a, .own (.lst (l.map fr)), .v (fr v), .v (.int 0)] s = .nx [a, .own (.lst (l.map fr)), .v (fr v), .v (.int (tw l v : Nat))] s := e1
  have hle := tw_le l v
  refine ⟨.v (.int (tw l v : Nat)), ?_⟩
  rcases ins_tw l v with ⟨h1, h2⟩ | ⟨h1, h2⟩
  · rw [h2]
    have c : ¬ (((tw l v : Nat) : Int) = (((l.map fr).length : Nat) : Int)) := by
      rw [List.length_map]
      intro h
      rw [List.getElem?_eq_none (by omega)] at h1
      cases h1
    have e2 : ∀ s, gIx (.lst (l.map fr)) (.int (tw l v : Nat)) s = .ok (fr v) s := fun s => ixL (atI_get (by rw [List.getElem?_map, h1]; rfl))
    have e3 := fun s => w_neF (p := v) (q := v) (s := s)
    rw [decide_eq_true rfl] at e3
    have c := decide_eq_false c
    unfold l_in_order_2
    clear h1 h2 hle hv hl hlen
    decreasing_trivial
  · have ei : oInsert (l.map fr) [.int (tw l v : Nat), fr v] = some (.non, (ins l v).map fr) := by
      rw [h2]
      show (if _ then _ else _) = _
      have hsz := size_ok (n := l.length + 1) (by omega)
      rw [if_pos ⟨by rw [List.length_map]; omega, by omega, by omega⟩]
      simp
    by_cases hk : tw l v = l.length
    · have c0 : (((tw l v : Nat) : Int) = (((l.map fr).length : Nat) : Int)) := by
        rw [List.length_map]
        omega
      have c := decide_eq_true c0
      unfold l_in_order_2
      clear c0 h1 h2 hle hv hl hlen hk
      decreasing_trivial
    · have c : ¬ (((tw l v : Nat) : Int) = (((l.map fr).length : Nat) : Int)) := by
        rw [List.length_map]
        omega
      have c := decide_eq_false c
      have hlt : tw l v < l.length := by omega
      have hne : l[tw l v] ≠ v := fun h => h1 (by rw [List.getElem?_eq_getElem hlt, h])
      have e2 : ∀ s, gIx (.lst (l.map fr)) (.int (tw l v : Nat)) s = .ok (fr l[tw l v]) s := fun s => ixL (atI_get (by rw [List.getElem?_map, List.getElem?_eq_getElem hlt]; rfl))
      have e3 := fun s => w_neF (p := l[tw l v]) (q := v) (s := s)
      rw [decide_eq_false hne] at e3
      generalize fr l[tw l v] = y at e2 e3
      unfold l_in_order_2
      clear h1 h2 hle hv hl hlen hk hne hlt
      decreasing_trivial
theorem ins_len : ∀ (l : List Rat) (v : Rat), (ins l v).length ≤ l.length + 1
  | [], _ => Nat.le_refl _
  | a :: r, v => by
    have := ins_len r v
    unfold ins
    split
    · simp; omega
    · split
      · simp
      · simp
theorem order_loop {N : Nat} (hN : N ≤ 3000) (a : SD) (s : S) : ∀ (l st : List Rat) (b c : SD), (∀ x, x ∈ l → Bd N x) → (∀ x, x ∈ st → Bd N x) → st.length + l.length ≤ 1000 → ∃ b' c', loopF (.nm 2) l_in_order_2 (l.map fr) [a, .own (.lst (st.map fr)), b, c] s = .nx [a, .own (.lst ((l.foldl ins st).map fr)), b', c'] s
  | [], st, b, c, _, _, _ => ⟨b, c, rfl⟩
  | v :: l, st, b, c, hl, hst, hlen => by
    have hv := hl v List.mem_cons_self
    rw [List.length_cons] at hlen
    have hi := ins_len st v
    obtain ⟨c1, e1⟩ := order_turn hN v hv st hst (by omega) a c s
    obtain ⟨b', c', ih⟩ := order_loop hN a s l (ins st v) (.v (fr v)) c1 (fun x hx => hl x (List.mem_cons_of_mem _ hx)) (fun x hx => by
      rcases ins_mem.mp hx with hx | rfl
      · exact hst x hx
      · exact hv) (by omega)
    refine ⟨b', c', ?_⟩
    rw [List.foldl_cons, List.map_cons, v_loopF]
    show (match l_in_order_2 [a, .own (.lst (st.map fr)), .v (fr v), c] s with | .nx ρ' s' => loopF (.nm 2) l_in_order_2 (l.map fr) ρ' s' | .ct ρ' s' => loopF (.nm 2) l_in_order_2 (l.map fr) ρ' s' | .bk ρ' s' => .nx ρ' s' | .rt d s' => .rt d s' | .er k ds ρ' s' => .er k ds ρ' s' | .no => .no) = _
    rw [e1]
    exact ih
theorem t_in_order {N : Nat} {l : List Rat} {s : S} (hl : ∀ x, x ∈ l → Bd N x) (hlen : l.length ≤ 1000) (hN : N ≤ 3000) : F_in_order [.lst (l.map fr)] s = .ok (.lst ((inord l).map fr)) s := by
  obtain ⟨b', c', e1⟩ := order_loop hN (.v (.lst (l.map fr))) s l [] .un .un hl (fun _ h => by cases h) (by simpa using hlen)
  rw [List.map_nil] at e1
  have e2 : frz 1 [SD.v (D.lst (l.map fr)), .own (.lst ((inord l).map fr)), b', c'] = [.v (.lst (l.map fr)), .v (.lst ((inord l).map fr)), b', c'] := rfl
  unfold F_in_order b_in_order
  unfold inord at *
  clear hl hlen
  decreasing_trivial
end K02

namespace K02
open PySem PySem.Spec L2 Tv
local macro_rules | `(tactic| get_elem_tactic_extensible) => `(tactic| simp only [v_var, v_varB, v_c, v_op, v_un, v_nil, v_cons, v_tup, v_lst, v_test, v_and, v_or, v_not, v_if, v_andV, v_orV, v_notV, v_chain, v_call, v_callF, v_callV, v_isi, v_slice, v_comp, unowned, List.all_cons, List.all_nil, wipeR, and_true, true_and, and_false, false_and, Int.cast_ofNat_Int, v_part, v_noPart, v_fld, v_yes, v_seqI, v_rng1, v_rng2, v_enumI, v_zipI, v_next, v_seq, v_set, v_setO, v_drop, v_ret, v_retN, v_brk, v_cnt, v_ifS, v_frz, v_while, v_for, v_meth, v_setIx, v_cell, v_aug, v_pt, v_par, v_setF, v_fun, v_ne_ok, v_loopF_nil, v_compF_nil,
  w_add, Tv.w_sub, w_lt, w_le, w_gt, w_ge, w_neg, w_eqI, w_neI, w_eqB, w_neB, w_is, w_isNot, w_ix20, w_ix21, w_lenT, w_lenL, w_lenZ, w_abs, w_int, w_min, w_max, w_tupT, w_tupL, w_tupZ, kT_int, kT_bl, kT_non, kT_str, kT_tup, kT_lst, k2, Tv.isNon, Pt.run, Pts.run, setM, ownL, baseOk, seqV,
  List.map_cons, List.map_nil, List.cons_append, List.nil_append, List.append_nil, List.replicate_zero, List.replicate_succ, List.length_cons, List.length_nil, List.getElem?_cons_zero, List.getElem?_cons_succ, List.getElem?_nil, List.set_cons_zero, List.set_cons_succ, List.set_nil, Option.some.injEq, ↓reduceIte, reduceCtorEq, decide_true, decide_false, decide_eq_true_eq, Bool.not_true, Bool.not_false, Bool.false_eq_true, Bool.and_true, Bool.true_and, Bool.or_false, Bool.false_or, Bool.or_true, Bool.true_or, Bool.and_false, Bool.false_and, if_true, if_false, String.reduceEq, or_false, or_true, false_or, true_or, Int.reduceLE, Int.reduceLT, Int.reduceNeg, Int.reduceToNat, Int.reduceAdd, Nat.reduceAdd, Nat.reduceLT, Int.reduceSub, Int.reduceMul, Int.reduceEq, Nat.reduceEqDiff, Int.zero_sub, BEq.rfl])
local macro_rules | `(tactic| decreasing_trivial) => `(tactic| simp only [v_var, v_varB, v_c, v_op, v_un, v_nil, v_cons, v_tup, v_lst, v_test, v_and, v_or, v_not, v_if, v_andV, v_orV, v_notV, v_chain, v_call, v_callF, v_callV, v_isi, v_slice, v_comp, unowned, List.all_cons, List.all_nil, wipeR, and_true, true_and, and_false, false_and, Int.cast_ofNat_Int, v_part, v_noPart, v_fld, v_yes, v_seqI, v_rng1, v_rng2, v_enumI, v_zipI, v_next, v_seq, v_set, v_setO, v_drop, v_ret, v_retN, v_brk, v_cnt, v_ifS, v_frz, v_while, v_for, v_meth, v_setIx, v_cell, v_aug, v_pt, v_par, v_setF, v_fun, v_ne_ok, v_loopF_nil, v_compF_nil,
  w_add, Tv.w_sub, w_lt, w_le, w_gt, w_ge, w_neg, w_eqI, w_neI, w_eqB, w_neB, w_is, w_isNot, w_ix20, w_ix21, w_lenT, w_lenL, w_lenZ, w_abs, w_int, w_min, w_max, w_tupT, w_tupL, w_tupZ, kT_int, kT_bl, kT_non, kT_str, kT_tup, kT_lst, k2, Tv.isNon, Pt.run, Pts.run, setM, ownL, baseOk, seqV,
  List.map_cons, List.map_nil, List.cons_append, List.nil_append, List.append_nil, List.replicate_zero, List.replicate_succ, List.length_cons, List.length_nil, List.getElem?_cons_zero, List.getElem?_cons_succ, List.getElem?_nil, List.set_cons_zero, List.set_cons_succ, List.set_nil, Option.some.injEq, ↓reduceIte, reduceCtorEq, decide_true, decide_false, decide_eq_true_eq, Bool.not_true, Bool.not_false, Bool.false_eq_true, Bool.and_true, Bool.true_and, Bool.or_false, Bool.false_or, Bool.or_true, Bool.true_or, Bool.and_false, Bool.false_and, if_true, if_false, String.reduceEq, or_false, or_true, false_or, true_or, Int.reduceLE, Int.reduceLT, Int.reduceNeg, Int.reduceToNat, Int.reduceAdd, Nat.reduceAdd, Nat.reduceLT, Int.reduceSub, Int.reduceMul, Int.reduceEq, Nat.reduceEqDiff, Int.zero_sub, BEq.rfl, *])

def ab (q : Rat) : Rat := if 0 ≤ q.num then q else -q
theorem Bd_neg {n : Nat} {q : Rat} (h : Bd n q) : Bd n (-q) := ⟨by rw [Rat.neg_num]; exact bd_neg h.num, h.den⟩
theorem Bd_ab {n : Nat} {q : Rat} (h : Bd n q) : Bd n (ab q) := by
  unfold ab
  split
  · exact h
  · exact Bd_neg h
theorem fr_neg (q : Rat) : D.tup [.int (0 - q.num), .int (q.den : Int)] = fr (-q) := by
  unfold fr
  rw [Rat.neg_num, Rat.neg_den, Int.zero_sub]
def gp (f g : Kn) (x : Rat) : Rat := ab (at_ f x - at_ g x)
theorem vne {ks : Kn} (v : Val ks) : ks ≠ [] := by
  intro e
  have := v.two
  rw [e] at this
  simp at this
theorem gap_turn {f g : Kn} {x q : Rat} {d : SD} {e : SD} {s : S} (vf : Val f) (vg : Val g) (hx : Bd 8 x) (h0 : 0 ≤ x) (h1 : x ≤ 255) (hq : Bd 97 q) : ∃ d', l_greatest_gap_1 [.v (cD f), .v (cD g), .v (fr q), .v (fr x), d, e] s = .nx [.v (cD f), .v (cD g), .v (fr (mx q (gp f g x))), .v (fr x), d', e] s := by
  have e1 := fun s => t_value_at (s := s) vf hx (by omega) h0 h1
  have e2 := fun s => t_value_at (s := s) vg hx (by omega) h0 h1
  have b1 := at_Bd f x vf.chn vf.rg (vne vf) hx
  have b2 := at_Bd g x vg.chn vg.rg (vne vg) hx
  have e3 := fun s => t_minus (s := s) b1 b2
  have b3 : Bd 97 (at_ f x - at_ g x) := (Bd_sub b1 b2).mono
  have e4 := fun s => t_is_less (s := s) hq (Bd_ab b3)
  have i0 : ∀ (q : Rat) s, gIx (fr q) (.int 0) s = .ok (.int q.num) s := fun _ _ => rfl
  have i1 : ∀ (q : Rat) s, gIx (fr q) (.int 1) s = .ok (.int (q.den : Int)) s := fun _ _ => rfl
  have i2 := fr_neg (at_ f x - at_ g x)
  rw [Int.zero_sub] at i2
  refine ⟨.v (fr (gp f g x)), ?_⟩
  unfold l_greatest_gap_1
  unfold gp mx
  unfold ab at *
  clear hx h0 h1 hq b1 b2 b3 vf vg
  by_cases hn : 0 ≤ (at_ f x - at_ g x).num
  · have c := decide_eq_true hn
    rw [if_pos hn] at *
    by_cases hl : q < at_ f x - at_ g x
    · have c2 := decide_eq_true hl
      rw [if_pos hl]
      clear hn hl i2
      decreasing_trivial
    · have c2 := decide_eq_false hl
      rw [if_neg hl]
      clear hn hl i2
      decreasing_trivial
  · have c := decide_eq_false hn
    rw [if_neg hn] at *
    by_cases hl : q < -(at_ f x - at_ g x)
    · have c2 := decide_eq_true hl
      rw [if_pos hl]
      clear hn hl
      decreasing_trivial
    · have c2 := decide_eq_false hl
      rw [if_neg hl]
      clear hn hl
      decreasing_trivial
theorem gap_loop {f g : Kn} (vf : Val f) (vg : Val g) (s : S) : ∀ (l : List Rat) (q : Rat) (c d e : SD), (∀ x, x ∈ l → Bd 8 x ∧ 0 ≤ x ∧ x ≤ 255) → Bd 97 q → ∃ c' d', loopF (.nm 3) l_greatest_gap_1 (l.map fr) [.v (cD f), .v (cD g), .v (fr q), c, d, e] s = .nx [.v (cD f), .v (cD g), .v (fr (l.foldl (fun q x => mx q (gp f g x)) q)), c', d', e] s
  | [], q, c, d, e, _, _ => ⟨c, d, rfl⟩
  | x :: l, q, c, d, e, hl, hq => by
    obtain ⟨hx, h0, h1⟩ := hl x List.mem_cons_self
    obtain ⟨d1, e1⟩ := gap_turn (d := d) (e := e) (s := s) vf vg hx h0 h1 hq
    have b1 := at_Bd f x vf.chn vf.rg (vne vf) hx
    have b2 := at_Bd g x vg.chn vg.rg (vne vg) hx
    have b3 : Bd 97 (gp f g x) := Bd_ab ((Bd_sub b1 b2).mono)
    obtain ⟨c', d', ih⟩ := gap_loop vf vg s l (mx q (gp f g x)) (.v (fr x)) d1 e (fun x hx => hl x (List.mem_cons_of_mem _ hx)) (mx_Bd hq b3)
    refine ⟨c', d', ?_⟩
    rw [List.foldl_cons, List.map_cons, v_loopF]
    show (match l_greatest_gap_1 [.v (cD f), .v (cD g), .v (fr q), .v (fr x), d, e] s with | .nx ρ' s' => loopF (.nm 3) l_greatest_gap_1 (l.map fr) ρ' s' | .ct ρ' s' => loopF (.nm 3) l_greatest_gap_1 (l.map fr) ρ' s' | .bk ρ' s' => .nx ρ' s' | .rt d s' => .rt d s' | .er k ds ρ' s' => .er k ds ρ' s' | .no => .no) = _
    rw [e1]
    exact ih
def gplaces (f g : Kn) : List Rat := inord ((f ++ g).map fun p => (p.1 : Rat))
def ggap (f g : Kn) : Rat := (gplaces f g).foldl (fun q x => mx q (gp f g x)) 0
theorem place_ok {f g : Kn} (vf : Val f) (vg : Val g) : ∀ p, p ∈ f ++ g → R4 p := fun p hp => by
  rcases List.mem_append.mp hp with hp | hp
  · exact vf.rg p hp
  · exact vg.rg p hp
theorem t_gap {f g : Kn} {s : S} (vf : Val f) (vg : Val g) : F_greatest_gap [cD f, cD g] s = .ok (fr (ggap f g)) s := by
  have hok := place_ok vf vg
  have hlen : (f ++ g).length ≤ 24 := by
    rw [List.length_append]
    have := vf.most
    have := vg.most
    omega
  have hz : (((f ++ g).map pD).length ≤ sizeLine) = True := by
    rw [List.length_map]
    exact eq_true (size_ok (by omega))
  have hpl : ∀ x, x ∈ (f ++ g).map (fun p => (p.1 : Rat)) → Bd 8 x ∧ 0 ≤ x ∧ x ≤ 255 := fun x hx => by
    obtain ⟨p, hp, rfl⟩ := List.mem_map.mp hx
    obtain ⟨h1, h2, h3, h4⟩ := hok p hp
    exact ⟨Bd_r h1 h2, by exact_mod_cast h1, by exact_mod_cast h2⟩
  have e1 : compF (.tp (.cons (.nm 3) (.cons (.nm 5) .nil))) mYes e_greatest_gap_1 [.v (cD f), .v (cD g), .v (fr 0), .un, .un, .un] ((f ++ g).map pD) s = .ok (((f ++ g).map fun p => (p.1 : Rat)).map fr) s := by
    rw [compF_mapL pD (fun p => fr (p.1 : Rat)) (f ++ g) fun p hp => ⟨_, rfl, ?_⟩]
    · rw [List.map_map]
      rfl
    · have := frI p.1
      unfold e_greatest_gap_1
      clear hp hz hpl hok vf vg hlen
      decreasing_trivial
  have e2 := fun s => t_in_order (N := 8) (s := s) (fun x hx => (hpl x hx).1) (by rw [List.length_map]; omega) (by omega)
  obtain ⟨c', d', e3⟩ := gap_loop vf vg s (gplaces f g) 0 .un .un .un (fun x hx => hpl x (inord_mem.mp hx)) ((Bd_nat (x := 0) (by omega)).mono)
  have e4 : D.tup [.int 0, .int 1] = fr 0 := rfl
  have e5 : ([(0, 0)] : List (Nat × Nat)).lookup 0 = some 0 := rfl
  have e6 : ∀ s, gAddA (.tup (f.map pD)) (.tup (g.map pD)) s = .ok (.tup ((f ++ g).map pD)) s := fun s => by
    rw [List.map_append]
    show (if _ then _ else _) = _
    rw [if_pos (by rw [List.map_append, List.length_append] at hz; exact of_eq_true hz)]
  unfold F_greatest_gap b_greatest_gap
  unfold ggap gplaces at *
  clear hok hlen hpl vf vg
  unfold cD kD at *
  decreasing_trivial
end K02

namespace K02
open PySem PySem.Spec L2 Tv
local macro_rules | `(tactic| get_elem_tactic_extensible) => `(tactic| simp only [v_var, v_varB, v_c, v_op, v_un, v_nil, v_cons, v_tup, v_lst, v_test, v_and, v_or, v_not, v_if, v_andV, v_orV, v_notV, v_chain, v_call, v_callF, v_callV, v_isi, v_slice, v_comp, unowned, List.all_cons, List.all_nil, wipeR, and_true, true_and, and_false, false_and, Int.cast_ofNat_Int, v_part, v_noPart, v_fld, v_yes, v_seqI, v_rng1, v_rng2, v_enumI, v_zipI, v_next, v_seq, v_set, v_setO, v_drop, v_ret, v_retN, v_brk, v_cnt, v_ifS, v_frz, v_while, v_for, v_meth, v_setIx, v_cell, v_aug, v_pt, v_par, v_setF, v_fun, v_ne_ok, v_loopF_nil, v_compF_nil,
  w_add, Tv.w_sub, w_lt, w_le, w_gt, w_ge, w_neg, w_eqI, w_neI, w_eqB, w_neB, w_is, w_isNot, w_ix20, w_ix21, w_lenT, w_lenL, w_lenZ, w_abs, w_int, w_min, w_max, w_tupT, w_tupL, w_tupZ, kT_int, kT_bl, kT_non, kT_str, kT_tup, kT_lst, k2, Tv.isNon, Pt.run, Pts.run, setM, ownL, baseOk, seqV,
  List.map_cons, List.map_nil, List.cons_append, List.nil_append, List.append_nil, List.replicate_zero, List.replicate_succ, List.length_cons, List.length_nil, List.getElem?_cons_zero, List.getElem?_cons_succ, List.getElem?_nil, List.set_cons_zero, List.set_cons_succ, List.set_nil, Option.some.injEq, ↓reduceIte, reduceCtorEq, decide_true, decide_false, decide_eq_true_eq, Bool.not_true, Bool.not_false, Bool.false_eq_true, Bool.and_true, Bool.true_and, Bool.or_false, Bool.false_or, Bool.or_true, Bool.true_or, Bool.and_false, Bool.false_and, if_true, if_false, String.reduceEq, or_false, or_true, false_or, true_or, Int.reduceLE, Int.reduceLT, Int.reduceNeg, Int.reduceToNat, Int.reduceAdd, Nat.reduceAdd, Nat.reduceLT, Int.reduceSub, Int.reduceMul, Int.reduceEq, Nat.reduceEqDiff, Int.zero_sub, BEq.rfl])
local macro_rules | `(tactic| decreasing_trivial) => `(tactic| simp only [v_var, v_varB, v_c, v_op, v_un, v_nil, v_cons, v_tup, v_lst, v_test, v_and, v_or, v_not, v_if, v_andV, v_orV, v_notV, v_chain, v_call, v_callF, v_callV, v_isi, v_slice, v_comp, unowned, List.all_cons, List.all_nil, wipeR, and_true, true_and, and_false, false_and, Int.cast_ofNat_Int, v_part, v_noPart, v_fld, v_yes, v_seqI, v_rng1, v_rng2, v_enumI, v_zipI, v_next, v_seq, v_set, v_setO, v_drop, v_ret, v_retN, v_brk, v_cnt, v_ifS, v_frz, v_while, v_for, v_meth, v_setIx, v_cell, v_aug, v_pt, v_par, v_setF, v_fun, v_ne_ok, v_loopF_nil, v_compF_nil,
  w_add, Tv.w_sub, w_lt, w_le, w_gt, w_ge, w_neg, w_eqI, w_neI, w_eqB, w_neB, w_is, w_isNot, w_ix20, w_ix21, w_lenT, w_lenL, w_lenZ, w_abs, w_int, w_min, w_max, w_tupT, w_tupL, w_tupZ, kT_int, kT_bl, kT_non, kT_str, kT_tup, kT_lst, k2, Tv.isNon, Pt.run, Pts.run, setM, ownL, baseOk, seqV,
  List.map_cons, List.map_nil, List.cons_append, List.nil_append, List.append_nil, List.replicate_zero, List.replicate_succ, List.length_cons, List.length_nil, List.getElem?_cons_zero, List.getElem?_cons_succ, List.getElem?_nil, List.set_cons_zero, List.set_cons_succ, List.set_nil, Option.some.injEq, ↓reduceIte, reduceCtorEq, decide_true, decide_false, decide_eq_true_eq, Bool.not_true, Bool.not_false, Bool.false_eq_true, Bool.and_true, Bool.true_and, Bool.or_false, Bool.false_or, Bool.or_true, Bool.true_or, Bool.and_false, Bool.false_and, if_true, if_false, String.reduceEq, or_false, or_true, false_or, true_or, Int.reduceLE, Int.reduceLT, Int.reduceNeg, Int.reduceToNat, Int.reduceAdd, Nat.reduceAdd, Nat.reduceLT, Int.reduceSub, Int.reduceMul, Int.reduceEq, Nat.reduceEqDiff, Int.zero_sub, BEq.rfl, *])

def crs (t : Rat) (a : PP) : Rat := (a.1.1 : Rat) + (t - (a.1.2 : Rat)) / ((a.2.2 : Rat) - (a.1.2 : Rat)) * ((a.2.1 : Rat) - (a.1.1 : Rat))
def isC (t : Rat) (a : PP) : Bool := decide ((a.1.2 : Rat) < t) && decide (t < (a.2.2 : Rat))
def preL (f : Kn) (t : Rat) : List Rat := (f.filter fun p => decide ((p.2 : Rat) = t)).map (fun p => (p.1 : Rat)) ++ ((prs f).filter (isC t)).map (crs t)
theorem Bd_crs {n : Nat} {t : Rat} {a : PP} (ht : Bd n t) (h : Pr a) (hc : isC t a = true) : Bd (n + 36) (crs t a) := by
  obtain ⟨a1, a2, a3, a4, b1, b2, b3, b4, lt, le⟩ := h
  unfold isC at hc
  rw [Bool.and_eq_true, decide_eq_true_eq, decide_eq_true_eq] at hc
  have c1 := Bd_sub ht (Bd_r a3 a4)
  have c2 := Bd_d b3 b4 a3 a4
  have c3 := Bd_d b1 b2 a1 a2
  have pos : 0 < (a.2.2 : Rat) - (a.1.2 : Rat) := by grind
  exact (Bd_add (Bd_r a1 a2) (Bd_mul (Bd_div c1 c2 pos) c3)).mono
theorem pre_turn {n : Nat} {t : Rat} {a : PP} {l : List Rat} {C P x y u v e : SD} {s : S} (ht : Bd n t) (hn : n ≤ 1000) (h : Pr a) (hl : l.length ≤ 1000) :
    ∃ e', l_preimage_1 [C, .v (fr t), P, .own (.lst (l.map fr)), .v (fr (a.1.1 : Rat)), .v (fr (a.1.2 : Rat)), .v (fr (a.2.1 : Rat)), .v (fr (a.2.2 : Rat)), e] s = .nx [C, .v (fr t), P, .own (.lst ((if isC t a then l ++ [crs t a] else l).map fr)), .v (fr (a.1.1 : Rat)), .v (fr (a.1.2 : Rat)), .v (fr (a.2.1 : Rat)), .v (fr (a.2.2 : Rat)), e'] s := by
  obtain ⟨a1, a2, a3, a4, b1, b2, b3, b4, lt, le⟩ := h
  have e1 := fun s => t_is_less (s := s) (Bd_r a3 a4) ht
  have e2 := fun s => t_is_less (s := s) ht (Bd_r b3 b4)
  unfold isC
  by_cases h1 : (a.1.2 : Rat) < t
  · by_cases h2 : t < (a.2.2 : Rat)
    · have c1 := Bd_sub ht (Bd_r a3 a4)
      have c2 := Bd_d b3 b4 a3 a4
      have c3 := Bd_d b1 b2 a1 a2
      have pos : 0 < (a.2.2 : Rat) - (a.1.2 : Rat) := by grind
      have e3 := fun s => t_minus (s := s) ht (Bd_r a3 a4)
      have e4 := fun s => t_minus (s := s) (Bd_r b3 b4) (Bd_r a3 a4)
      have e5 := fun s => t_minus (s := s) (Bd_r b1 b2) (Bd_r a1 a2)
      have e6 := fun s => t_by (s := s) c1 c2 pos
      have e7 := fun s => t_times (s := s) (Bd_div c1 c2 pos) c3
      have e8 := fun s => t_plus (s := s) (Bd_r a1 a2) (Bd_mul (Bd_div c1 c2 pos) c3)
      have e9 : oAppend (l.map fr) [fr ((a.1.1 : Rat) + (t - (a.1.2 : Rat)) / ((a.2.2 : Rat) - (a.1.2 : Rat)) * ((a.2.1 : Rat) - (a.1.1 : Rat)))] = some (.non, (l ++ [crs t a]).map fr) := by
        show (if _ then _ else _) = _
        rw [if_pos (by rw [List.length_map]; have := size_ok (n := l.length + 1) (by omega); omega), List.map_append]
        rfl
      refine ⟨.v (fr ((t - (a.1.2 : Rat)) / ((a.2.2 : Rat) - (a.1.2 : Rat)))), ?_⟩
      rw [decide_eq_true h1] at e1 ⊢
      rw [decide_eq_true h2] at e2 ⊢
      unfold l_preimage_1
      clear h1 h2 c1 c2 c3 pos ht lt le a1 a2 a3 a4 b1 b2 b3 b4 hl
      decreasing_trivial
    · refine ⟨e, ?_⟩
      rw [decide_eq_true h1] at e1 ⊢
      rw [decide_eq_false h2] at e2 ⊢
      unfold l_preimage_1
      clear h1 h2 ht lt le a1 a2 a3 a4 b1 b2 b3 b4 hl
      decreasing_trivial
  · refine ⟨e, ?_⟩
    rw [decide_eq_false h1] at e1 ⊢
    unfold l_preimage_1
    clear h1 e2 ht lt le a1 a2 a3 a4 b1 b2 b3 b4 hl
    decreasing_trivial
theorem pt_run3 {p q : K2} {C t P l a b c d e : SD} : (Pt.tp (.cons (.tp (.cons (.nm 4) (.cons (.nm 5) .nil))) (.cons (.tp (.cons (.nm 6) (.cons (.nm 7) .nil))) .nil))).run (.tup [ptD p, ptD q]) [C, t, P, l, a, b, c, d, e] = some [C, t, P, l, .v (fr (p.1 : Rat)), .v (fr (p.2 : Rat)), .v (fr (q.1 : Rat)), .v (fr (q.2 : Rat)), e] := by
  unfold ptD
  rw [frI, frI, frI, frI]
  rfl
theorem pre_loop {n : Nat} {t : Rat} (C P : SD) (s : S) (ht : Bd n t) (hn : n ≤ 1000) : ∀ (ps : List PP) (l : List Rat) (a b c d e : SD), (∀ x, x ∈ ps → Pr x) → l.length + ps.length ≤ 1000 → ∃ a' b' c' d' e', loopF (Pt.tp (.cons (.tp (.cons (.nm 4) (.cons (.nm 5) .nil))) (.cons (.tp (.cons (.nm 6) (.cons (.nm 7) .nil))) .nil))) l_preimage_1 (ps.map fun a => .tup [ptD a.1, ptD a.2]) [C, .v (fr t), P, .own (.lst (l.map fr)), a, b, c, d, e] s = .nx [C, .v (fr t), P, .own (.lst ((l ++ (ps.filter (isC t)).map (crs t)).map fr)), a', b', c', d', e'] s
  | [], l, a, b, c, d, e, _, _ => ⟨a, b, c, d, e, by
    rw [show l ++ (([] : List PP).filter (isC t)).map (crs t) = l from List.append_nil l]
    rfl⟩
  | x :: ps, l, a, b, c, d, e, hp, hl => by
    rw [List.length_cons] at hl
    obtain ⟨e1, he⟩ := pre_turn (C := C) (P := P) (x := a) (y := a) (u := a) (v := a) (e := e) (s := s) ht hn (hp x List.mem_cons_self) (l := l) (by omega)
    obtain ⟨a', b', c', d', e', ih⟩ := pre_loop C P s ht hn ps (if isC t x then l ++ [crs t x] else l) (.v (fr (x.1.1 : Rat))) (.v (fr (x.1.2 : Rat))) (.v (fr (x.2.1 : Rat))) (.v (fr (x.2.2 : Rat))) e1 (fun y hy => hp y (List.mem_cons_of_mem _ hy)) (by
      split
      · rw [List.length_append, List.length_singleton]; omega
      · omega)
    refine ⟨a', b', c', d', e', ?_⟩
    rw [List.map_cons, v_loopF, pt_run3]
    dsimp only
    rw [he]
    dsimp only
    rw [ih]
    cases hc : isC t x with
    | true =>
      rw [List.filter_cons_of_pos hc]
      simp
    | false =>
      rw [List.filter_cons_of_neg (by rw [hc]; exact Bool.false_ne_true)]
      simp
theorem knot_pre {f : Kn} {p : K2} {t : Rat} (h : p ∈ f) (e : (p.2 : Rat) = t) : (p.1 : Rat) ∈ preL f t := List.mem_append_left _ (List.mem_map.mpr ⟨p, List.mem_filter.mpr ⟨h, decide_eq_true e⟩, rfl⟩)
theorem pre_cases {f : Kn} {x t : Rat} (h : x ∈ preL f t) : (∃ p, p ∈ f ∧ (p.2 : Rat) = t ∧ x = (p.1 : Rat)) ∨ ∃ a, a ∈ prs f ∧ isC t a = true ∧ x = crs t a := by
  rcases List.mem_append.mp h with h | h
  · obtain ⟨p, hp, rfl⟩ := List.mem_map.mp h
    obtain ⟨h1, h2⟩ := List.mem_filter.mp hp
    exact .inl ⟨p, h1, of_decide_eq_true h2, rfl⟩
  · obtain ⟨p, hp, rfl⟩ := List.mem_map.mp h
    obtain ⟨h1, h2⟩ := List.mem_filter.mp hp
    exact .inr ⟨p, h1, h2, rfl⟩
theorem crs_pre {f : Kn} {a : PP} {t : Rat} (h : a ∈ prs f) (e : isC t a = true) : crs t a ∈ preL f t := List.mem_append_right _ (List.mem_map.mpr ⟨a, List.mem_filter.mpr ⟨h, e⟩, rfl⟩)
theorem preL_ne : ∀ (f : Kn) (p : K2) (t : Rat), (p.2 : Rat) ≤ t → t ≤ ((lastP (p :: f)).2 : Rat) → ∃ x, x ∈ preL (p :: f) t
  | [], p, t, h1, h2 => ⟨(p.1 : Rat), knot_pre List.mem_cons_self (Rat.le_antisymm h1 h2)⟩
  | q :: f, p, t, h1, h2 => by
    by_cases e1 : (p.2 : Rat) = t
    · exact ⟨(p.1 : Rat), knot_pre List.mem_cons_self e1⟩
    · by_cases e2 : (q.2 : Rat) ≤ t
      · obtain ⟨x, hx⟩ := preL_ne f q t e2 h2
        refine ⟨x, ?_⟩
        rcases pre_cases hx with ⟨y, hy, h, rfl⟩ | ⟨y, hy, h, rfl⟩
        · exact knot_pre (List.mem_cons_of_mem _ hy) h
        · exact crs_pre (List.mem_cons_of_mem _ hy) h
      · refine ⟨crs t (p, q), ?_⟩
        refine crs_pre List.mem_cons_self ?_
        unfold isC
        rw [Bool.and_eq_true, decide_eq_true_eq, decide_eq_true_eq]
        constructor
        · show (p.2 : Rat) < t
          grind
        · show t < (q.2 : Rat)
          grind
theorem sorted_ends : ∀ {l : List Rat}, l ≠ [] → l.Pairwise (· < ·) → ∃ lo hi, l[0]? = some lo ∧ l[l.length - 1]? = some hi ∧ ∀ x, x ∈ l → lo ≤ x ∧ x ≤ hi
  | [], h, _ => absurd rfl h
  | [a], _, _ => ⟨a, a, rfl, rfl, fun x hx => by rw [List.mem_singleton.mp hx]; exact ⟨Rat.le_refl, Rat.le_refl⟩⟩
  | a :: b :: l, _, h => by
    obtain ⟨h1, h2⟩ := List.pairwise_cons.mp h
    obtain ⟨lo, hi, e1, e2, e3⟩ := sorted_ends (l := b :: l) (by simp) h2
    refine ⟨a, hi, rfl, by simpa using e2, fun x hx => ?_⟩
    have hb := h1 b List.mem_cons_self
    have hb2 := (e3 b List.mem_cons_self).2
    rcases List.mem_cons.mp hx with rfl | hx
    · exact ⟨Rat.le_refl, by grind⟩
    · have := h1 x hx
      exact ⟨by grind, (e3 x hx).2⟩
theorem t_preimage {f : Kn} {t : Rat} {n : Nat} {s : S} (v : Val f) (ht : Bd n t) (hn : n ≤ 60) (h0 : 0 ≤ t) (h1 : t ≤ 255) :
    (((f.headD (0, 0)).2 : Rat) ≤ t ∧ t ≤ ((lastP f).2 : Rat) ∧ ∃ lo hi, lo ∈ preL f t ∧ hi ∈ preL f t ∧ (∀ x, x ∈ preL f t → lo ≤ x ∧ x ≤ hi) ∧ F_preimage [cD f, fr t] s = .ok (.tup [fr lo, fr hi]) s) ∨ (¬ (((f.headD (0, 0)).2 : Rat) ≤ t ∧ t ≤ ((lastP f).2 : Rat)) ∧ F_preimage [cD f, fr t] s = .ok .non s) := by
  have hp := v.pr
  have hm := v.most
  have hne := vne v
  have e0 := fun s => t_require_level (s := s) ht (by omega) h0 h1
  have e1 := fun s => t_points (ks := f) (s := s) (by omega)
  obtain ⟨p, r, hf⟩ : ∃ p r, f = p :: r := by
    cases f with
    | nil => exact absurd rfl hne
    | cons p r => exact ⟨p, r, rfl⟩
  have hpR := v.rg p (by rw [hf]; exact List.mem_cons_self)
  have hlR := v.rg _ (lastP_mem hne)
  have i1 : ∀ s, gIx (.lst (f.map ptD)) (.int 0) s = .ok (ptD p) s := fun s => ixL (atI_get (i := 0) (by rw [hf]; rfl))
  have i2 : ∀ s, gIx (.lst (f.map ptD)) (.int (-1)) s = .ok (ptD (lastP f)) s := fun s => ixL (by
    have := atI_neg (f.map ptD) 0 (by rw [hf]; simp)
    rw [show (-((0 : Nat) + 1 : Int)) = -1 by omega] at this
    rw [this, List.getElem?_map, List.length_map, Nat.sub_zero, lastP_get hne]
    rfl)
  have j1 : ∀ (p : K2) s, gIx (ptD p) (.int 1) s = .ok (fr (p.2 : Rat)) s := fun p s => by
    rw [← frI]
    rfl
  have e2 := fun s => t_is_less (s := s) ht (Bd_r hpR.2.2.1 hpR.2.2.2)
  have e3 := fun s => t_is_less (s := s) (Bd_r hlR.2.2.1 hlR.2.2.2) ht
  have hh : f.headD (0, 0) = p := by rw [hf]; rfl
  rw [hh]
  by_cases c1 : t < (p.2 : Rat)
  · refine .inr ⟨fun h => by have := h.1; grind, ?_⟩
    rw [decide_eq_true c1] at e2
    clear hf hh ht h0 h1 c1 v hp hm hne hpR hlR e3 i2
    unfold F_preimage b_preimage
    decreasing_trivial
  · by_cases c2 : ((lastP f).2 : Rat) < t
    · refine .inr ⟨fun h => by have := h.2; grind, ?_⟩
      rw [decide_eq_false c1] at e2
      rw [decide_eq_true c2] at e3
      clear hf hh ht h0 h1 c1 c2 v hp hm hne hpR hlR
      unfold F_preimage b_preimage
      decreasing_trivial
    · rw [decide_eq_false c1] at e2
      rw [decide_eq_false c2] at e3
      have g1 : (p.2 : Rat) ≤ t := by grind
      have g2 : t ≤ ((lastP f).2 : Rat) := by grind
      obtain ⟨x0, hx0⟩ := preL_ne r p t g1 (by rw [← hf]; exact g2)
      rw [← hf] at hx0
      have hB : ∀ x, x ∈ preL f t → Bd (n + 36) x := fun x hx => by
        rcases pre_cases hx with ⟨y, hy, h, rfl⟩ | ⟨y, hy, h, rfl⟩
        · have := v.rg y hy
          exact (Bd_r this.1 this.2.1).mono
        · exact Bd_crs ht (hp y hy) h
      have hL1 : (f.filter fun p => decide ((p.2 : Rat) = t)).length ≤ 12 := Nat.le_trans (List.length_filter_le _ _) hm
      have hL2 : ((prs f).filter (isC t)).length ≤ 12 := Nat.le_trans (List.length_filter_le _ _) (by rw [prs_len]; omega)
      have hlen : (preL f t).length ≤ 1000 := by
        unfold preL
        rw [List.length_append, List.length_map, List.length_map]
        omega
      have hne2 : inord (preL f t) ≠ [] := fun h => by
        have := inord_mem.mpr hx0
        rw [h] at this
        cases this
      obtain ⟨lo, hi, k1, k2, k3⟩ := sorted_ends hne2 (inord_sorted _)
      refine .inl ⟨g1, g2, lo, hi, inord_mem.mp (List.mem_of_getElem? k1), inord_mem.mp (List.mem_of_getElem? k2), fun x hx => k3 x (inord_mem.mpr hx), ?_⟩
      have f1 : compF (.tp (.cons (.nm 4) (.cons (.nm 5) .nil))) t_preimage_1 (mVar 4) [.v (cD f), .v (fr t), .v (.lst (f.map ptD)), .un, .un, .un, .un, .un, .un] (f.map ptD) s = .ok (((f.filter fun p => decide ((p.2 : Rat) = t)).map fun p => (p.1 : Rat)).map fr) s := by
        rw [compF_filL ptD (fun p => decide ((p.2 : Rat) = t)) (fun p => fr (p.1 : Rat)) f fun y hy => ⟨[.v (cD f), .v (fr t), .v (.lst (f.map ptD)), .un, .v (fr (y.1 : Rat)), .v (fr (y.2 : Rat)), .un, .un, .un], ?_, ?_, fun _ => rfl⟩]
        · rw [List.map_map]
          rfl
        · unfold ptD
          rw [frI, frI]
          rfl
        · have := fun s => w_eqF (p := (y.2 : Rat)) (q := t) (s := s)
          unfold t_preimage_1
          clear hf hh ht h0 h1 c1 c2 v hp hm hne hpR hlR e0 e1 e2 e3 i1 i2 j1 g1 g2 hB hL1 hL2 hlen hne2 k1 k2 k3 hy hx0
          decreasing_trivial
      have hz : ((f.map ptD).length ≤ sizeLine) = True := by
        rw [List.length_map]
        exact eq_true (size_ok (by omega))
      have e5 := fun s => w_cut1L (ds := f.map ptD) (s := s)
      have e6 : zipD (f.map ptD) ((f.map ptD).drop 1) = zz ptD f := rfl
      obtain ⟨a', b', c', d', e', f2⟩ := pre_loop (.v (cD f)) (.v (.lst (f.map ptD))) s ht (by omega) (prs f) ((f.filter fun p => decide ((p.2 : Rat) = t)).map fun p => (p.1 : Rat)) .un .un .un .un .un hp (by rw [List.length_map, prs_len]; omega)
      rw [← zz_prs] at f2
      have f3 := fun s => t_in_order (s := s) hB hlen (by omega)
      have f4 : ∀ s, gIx (.lst ((inord (preL f t)).map fr)) (.int 0) s = .ok (fr lo) s := fun s => ixL (atI_get (i := 0) (by rw [List.getElem?_map, k1]; rfl))
      have f5 : ∀ s, gIx (.lst ((inord (preL f t)).map fr)) (.int (-1)) s = .ok (fr hi) s := fun s => ixL (by
        have := atI_neg ((inord (preL f t)).map fr) 0 (by rw [List.length_map]; exact List.length_pos_iff.mpr hne2)
        rw [show (-((0 : Nat) + 1 : Int)) = -1 by omega] at this
        rw [this, List.getElem?_map, List.length_map, Nat.sub_zero, k2]
        rfl)
      have f6 : ∀ (d a b c e g : SD), frz 3 [.v (cD f), .v (fr t), d, .own (.lst ((preL f t).map fr)), a, b, c, e, g] = [.v (cD f), .v (fr t), d, .v (.lst ((preL f t).map fr)), a, b, c, e, g] := fun _ _ _ _ _ _ => rfl
      unfold F_preimage b_preimage
      unfold preL at *
      clear hf hh ht h0 h1 c1 c2 v hp hm hne hpR hlR g1 g2 hB hL1 hL2 hlen hne2 k1 k2 k3 hx0
      decreasing_trivial
end K02

namespace K02
open PySem PySem.Spec L2 Tv
local macro_rules | `(tactic| get_elem_tactic_extensible) => `(tactic| simp only [v_var, v_varB, v_c, v_op, v_un, v_nil, v_cons, v_tup, v_lst, v_test, v_and, v_or, v_not, v_if, v_andV, v_orV, v_notV, v_chain, v_call, v_callF, v_callV, v_isi, v_slice, v_comp, unowned, List.all_cons, List.all_nil, wipeR, and_true, true_and, and_false, false_and, Int.cast_ofNat_Int, v_part, v_noPart, v_fld, v_yes, v_seqI, v_rng1, v_rng2, v_enumI, v_zipI, v_next, v_seq, v_set, v_setO, v_drop, v_ret, v_retN, v_brk, v_cnt, v_ifS, v_frz, v_while, v_for, v_meth, v_setIx, v_cell, v_aug, v_pt, v_par, v_setF, v_fun, v_ne_ok, v_loopF_nil, v_compF_nil,
  w_add, Tv.w_sub, w_lt, w_le, w_gt, w_ge, w_neg, w_eqI, w_neI, w_eqB, w_neB, w_is, w_isNot, w_ix20, w_ix21, w_lenT, w_lenL, w_lenZ, w_abs, w_int, w_min, w_max, w_tupT, w_tupL, w_tupZ, kT_int, kT_bl, kT_non, kT_str, kT_tup, kT_lst, k2, Tv.isNon, Pt.run, Pts.run, setM, ownL, baseOk, seqV,
  List.map_cons, List.map_nil, List.cons_append, List.nil_append, List.append_nil, List.replicate_zero, List.replicate_succ, List.length_cons, List.length_nil, List.getElem?_cons_zero, List.getElem?_cons_succ, List.getElem?_nil, List.set_cons_zero, List.set_cons_succ, List.set_nil, Option.some.injEq, ↓reduceIte, reduceCtorEq, decide_true, decide_false, decide_eq_true_eq, Bool.not_true, Bool.not_false, Bool.false_eq_true, Bool.and_true, Bool.true_and, Bool.or_false, Bool.false_or, Bool.or_true, Bool.true_or, Bool.and_false, Bool.false_and, if_true, if_false, String.reduceEq, or_false, or_true, false_or, true_or, Int.reduceLE, Int.reduceLT, Int.reduceNeg, Int.reduceToNat, Int.reduceAdd, Nat.reduceAdd, Nat.reduceLT, Int.reduceSub, Int.reduceMul, Int.reduceEq, Nat.reduceEqDiff, Int.zero_sub, BEq.rfl])
local macro_rules | `(tactic| decreasing_trivial) => `(tactic| simp only [v_var, v_varB, v_c, v_op, v_un, v_nil, v_cons, v_tup, v_lst, v_test, v_and, v_or, v_not, v_if, v_andV, v_orV, v_notV, v_chain, v_call, v_callF, v_callV, v_isi, v_slice, v_comp, unowned, List.all_cons, List.all_nil, wipeR, and_true, true_and, and_false, false_and, Int.cast_ofNat_Int, v_part, v_noPart, v_fld, v_yes, v_seqI, v_rng1, v_rng2, v_enumI, v_zipI, v_next, v_seq, v_set, v_setO, v_drop, v_ret, v_retN, v_brk, v_cnt, v_ifS, v_frz, v_while, v_for, v_meth, v_setIx, v_cell, v_aug, v_pt, v_par, v_setF, v_fun, v_ne_ok, v_loopF_nil, v_compF_nil,
  w_add, Tv.w_sub, w_lt, w_le, w_gt, w_ge, w_neg, w_eqI, w_neI, w_eqB, w_neB, w_is, w_isNot, w_ix20, w_ix21, w_lenT, w_lenL, w_lenZ, w_abs, w_int, w_min, w_max, w_tupT, w_tupL, w_tupZ, kT_int, kT_bl, kT_non, kT_str, kT_tup, kT_lst, k2, Tv.isNon, Pt.run, Pts.run, setM, ownL, baseOk, seqV,
  List.map_cons, List.map_nil, List.cons_append, List.nil_append, List.append_nil, List.replicate_zero, List.replicate_succ, List.length_cons, List.length_nil, List.getElem?_cons_zero, List.getElem?_cons_succ, List.getElem?_nil, List.set_cons_zero, List.set_cons_succ, List.set_nil, Option.some.injEq, ↓reduceIte, reduceCtorEq, decide_true, decide_false, decide_eq_true_eq, Bool.not_true, Bool.not_false, Bool.false_eq_true, Bool.and_true, Bool.true_and, Bool.or_false, Bool.false_or, Bool.or_true, Bool.true_or, Bool.and_false, Bool.false_and, if_true, if_false, String.reduceEq, or_false, or_true, false_or, true_or, Int.reduceLE, Int.reduceLT, Int.reduceNeg, Int.reduceToNat, Int.reduceAdd, Nat.reduceAdd, Nat.reduceLT, Int.reduceSub, Int.reduceMul, Int.reduceEq, Nat.reduceEqDiff, Int.zero_sub, BEq.rfl, *])

theorem t_lis_frac {q : Rat} {s : S} (h : bd 199 (q.den : Int)) : F__law_is_frac [fr q] s = .ok (.bl true) s := by
  have e1 : ∀ s, F__law_gcd [.int (q.num.natAbs : Nat), .int (q.den : Int)] s = .ok (.int 1) s := fun s => by
    have := t_lgcd (a := (q.num.natAbs : Nat)) (s := s) h
    rw [Int.natAbs_natCast, Int.natAbs_natCast] at this
    rw [this]
    have := q.reduced
    unfold Nat.Coprime at this
    rw [this]
    rfl
  have e2 : decide ((1 : Int) ≤ (q.den : Int)) = true := decide_eq_true (by have := den_pos q; omega)
  have e3 : compF (.nm 1) t__law_is_frac_1 (mVar 1) [.v (.tup [.int q.num, .int (q.den : Int)]), .un] [.int q.num, .int (q.den : Int)] s = .ok [] s := compF_none fun d hd => by
    rcases List.mem_cons.mp hd with rfl | hd
    · refine ⟨_, rfl, ?_⟩
      unfold t__law_is_frac_1
      get_elem_tactic_extensible
    · rcases List.mem_cons.mp hd with rfl | hd
      · refine ⟨_, rfl, ?_⟩
        unfold t__law_is_frac_1
        get_elem_tactic_extensible
      · cases hd
  have hz : (2 ≤ sizeLine) = True := eq_true (size_ok (by omega))
  have e4 := fun s => w_ne (s := s) eqD_nil
  unfold F__law_is_frac b__law_is_frac fr
  clear h
  decreasing_trivial
theorem lvl_mk {k : Int} {d : Nat} (hd : 1 ≤ d) (h0 : 0 ≤ k) (h1 : k ≤ 255 * (d : Int)) : 0 ≤ mkRat k d ∧ mkRat k d ≤ 255 := by
  rw [← lvl_iff, (mk_nd k d (by omega)).1, (mk_nd k d (by omega)).2]
  have hg : 0 < ((Nat.gcd k.natAbs d : Nat) : Int) := by
    have := Nat.gcd_pos_of_pos_right k.natAbs (show 0 < d by omega)
    omega
  constructor
  · exact Int.ediv_nonneg h0 (by omega)
  · rw [← Int.mul_ediv_assoc _ (Int.natCast_dvd_natCast.mpr (Nat.gcd_dvd_right _ _))]
    exact Int.ediv_le_ediv hg h1
theorem t_level {ns : List Int} {s : S} (h : Rw ns s) : ∃ (t : Rat) (s' : S), F__law_level [.cell 0] s = .ok (fr t) s' ∧ Bd 14 t ∧ 0 ≤ t ∧ t ≤ 255 ∧ Rw ns s' := by
  obtain ⟨d1, s1, e1, m1, r1⟩ := t_pick (ds := [.int 1, .int 4, .int 30]) h (by simp) (by simp)
  obtain ⟨m, rfl, hm⟩ : ∃ m : Int, d1 = .int m ∧ 1 ≤ m ∧ m ≤ 30 := by
    simp only [List.mem_cons, List.not_mem_nil, or_false] at m1
    rcases m1 with rfl | rfl | rfl
    · exact ⟨_, rfl, by omega⟩
    · exact ⟨_, rfl, by omega⟩
    · exact ⟨_, rfl, by omega⟩
  obtain ⟨v, s2, e2, v0, v1, r2⟩ := t_taken (m := m) (k := 10) r1 (by omega) (bd_small (by omega))
  obtain ⟨n, hn⟩ : ∃ n : Nat, (n : Int) = 1 + v := ⟨(1 + v).toNat, by omega⟩
  have c14 : (2 : Nat) ^ 14 = 16384 := by decide
  have b1 : bd 14 (255 * (n : Int) + 1) := by
    show Int.natAbs _ < 2 ^ 14
    omega
  obtain ⟨k1, s3, e3, k10, k11, r3⟩ := t_taken (m := 255 * (n : Int) + 1) (k := 14) r2 (by omega) b1
  obtain ⟨k2, s4, e4, k20, k21, r4⟩ := t_taken (m := 255 * (n : Int) + 1) (k := 14) r3 (by omega) b1
  have e5 : ∀ s, gMul (.int 255) (.int (n : Int)) s = .ok (.int (255 * (n : Int))) s := fun s => mulI (a := 10) (b := 10) bd_small (bd_small (by omega))
  have bn : bd 14 (n : Int) := by
    show Int.natAbs _ < 2 ^ 14
    omega
  have e6 := fun k s => t_lfrac (n := k) (d := n) (s := s) (by omega) (bd_mono bn)
  have lv : ∀ k : Int, 0 ≤ k → k < 255 * (n : Int) + 1 → Bd 14 (mkRat k n) ∧ 0 ≤ mkRat k n ∧ mkRat k n ≤ 255 := fun k g0 g1 => by
    refine ⟨Bd_mk (by omega) ?_ bn, lvl_mk (by omega) g0 (by omega)⟩
    show Int.natAbs _ < 2 ^ 14
    omega
  obtain ⟨d, s5, e7, m7, r5⟩ := t_pick (ds := [.tup [.int 0, .int 1], .tup [.int 255, .int 1], fr (mkRat k1 n), fr (mkRat k2 n)]) r4 (by simp) (by simp)
  obtain ⟨t, rfl, ht⟩ : ∃ t : Rat, d = fr t ∧ Bd 14 t ∧ 0 ≤ t ∧ t ≤ 255 := by
    simp only [List.mem_cons, List.not_mem_nil, or_false] at m7
    rcases m7 with rfl | rfl | rfl | rfl
    · exact ⟨((0 : Nat) : Rat), frN 0, (Bd_nat (by omega)).mono, by decide, by decide⟩
    · exact ⟨((255 : Nat) : Rat), frN 255, (Bd_nat (by omega)).mono, by decide, by decide⟩
    · exact ⟨_, rfl, lv k1 k10 k11⟩
    · exact ⟨_, rfl, lv k2 k20 k21⟩
  refine ⟨t, s5, ?_, ht.1, ht.2.1, ht.2.2, r5⟩
  have hn' := hn.symm
  clear hn
  unfold F__law_level b__law_level
  clear lv bn b1 c14 ht m7 m1 hm h r1 r2 r3 r4 r5 v0 v1 k10 k11 k20 k21
  decreasing_trivial
/-! drawn knots -/
structure Inc (l : List Int) : Prop where
  pw : l.Pairwise (· < ·)
  rg : ∀ z, z ∈ l → 0 ≤ z ∧ z < 255
  hd : ∃ r, l = 0 :: r
theorem Inc.app {l : List Int} {x0 x : Int} (h : Inc (l ++ [x0])) (h1 : x0 < x) (h2 : x < 255) : Inc (l ++ [x0] ++ [x]) := by
  obtain ⟨pw, rg, r, hr⟩ := h
  have hx := rg x0 (by simp)
  refine ⟨?_, ?_, r ++ [x], by rw [hr]; rfl⟩
  · refine List.pairwise_append.mpr ⟨pw, by simp, fun a ha b hb => ?_⟩
    rw [List.mem_singleton.mp hb]
    rcases List.mem_append.mp ha with ha | ha
    · have := (List.pairwise_append.mp pw).2.2 a ha x0 (by simp)
      omega
    · rw [List.mem_singleton.mp ha]
      exact h1
  · intro z hz
    rcases List.mem_append.mp hz with hz | hz
    · exact rg z hz
    · rw [List.mem_singleton.mp hz]
      omega
theorem k1_loop {ns : List Int} {st : Int} (h1 : 1 ≤ st) (h2 : st ≤ 250) : ∀ (ds : List D) (l : List Int) (x0 : Int) (a b c d : SD) (s : S), Inc (l ++ [x0]) → l.length + ds.length ≤ 1000 → Rw ns s →
    ∃ (l' : List Int) (a' b' : SD) (s' : S), loopF (.nm 3) l__law_knots_1 ds [.v (.cell 0), .own (.lst ((l ++ [x0]).map D.int)), .v (.int st), a, b, c, d] s = .nx [.v (.cell 0), .own (.lst (l'.map D.int)), .v (.int st), a', b', c, d] s' ∧ Inc l' ∧ l'.length ≤ l.length + 1 + ds.length ∧ Rw ns s'
  | [], l, x0, a, b, c, d, s, hi, hl, r => ⟨l ++ [x0], a, b, s, rfl, hi, by simp, r⟩
  | e :: ds, l, x0, a, b, c, d, s, hi, hl, r => by
    rw [List.length_cons] at hl
    obtain ⟨v, s1, e1, v0, v1, r1⟩ := t_taken (m := st) (k := 10) r (by omega) (bd_small (by omega))
    have i1 : ∀ s, gIx (.lst ((l ++ [x0]).map D.int)) (.int (-1)) s = .ok (.int x0) s := fun s => by
      rw [List.map_append]
      exact ix_m1
    rw [v_loopF]
    by_cases hx : x0 + 1 + v < 255
    · obtain ⟨l', a', b', s', g1, g2, g3, g4⟩ := k1_loop h1 h2 ds (l ++ [x0]) (x0 + 1 + v) (.v e) (.v (.int (x0 + 1 + v))) c d s1 (hi.app (by omega) hx) (by rw [List.length_append, List.length_singleton]; omega) r1
      rw [List.length_append, List.length_singleton] at g3
      refine ⟨l', a', b', s', ?_, g2, by rw [List.length_cons]; omega, g4⟩
      have ea : oAppend ((l ++ [x0]).map D.int) [.int (x0 + 1 + v)] = some (.non, (l ++ [x0] ++ [x0 + 1 + v]).map D.int) := by
        show (if _ then _ else _) = _
        rw [if_pos (by rw [List.length_map, List.length_append, List.length_singleton]; have := size_ok (n := l.length + 1 + 1) (by omega); omega), List.map_append (l₁ := l ++ [x0])]
        rfl
      have et : l__law_knots_1 [.v (.cell 0), .own (.lst ((l ++ [x0]).map D.int)), .v (.int st), .v e, b, c, d] s = .nx [.v (.cell 0), .own (.lst ((l ++ [x0] ++ [x0 + 1 + v]).map D.int)), .v (.int st), .v e, .v (.int (x0 + 1 + v)), c, d] s1 := by
        have hx := decide_eq_true hx
        generalize (l ++ [x0] ++ [x0 + 1 + v]).map D.int = L2 at *
        generalize (l ++ [x0]).map D.int = L1 at *
        unfold l__law_knots_1
        clear g1 g2 g3 g4 hi hl r r1 v0 v1 h1 h2
        decreasing_trivial
      show (match l__law_knots_1 [.v (.cell 0), .own (.lst ((l ++ [x0]).map D.int)), .v (.int st), .v e, b, c, d] s with | .nx ρ' s' => loopF (.nm 3) l__law_knots_1 ds ρ' s' | .ct ρ' s' => loopF (.nm 3) l__law_knots_1 ds ρ' s' | .bk ρ' s' => .nx ρ' s' | .rt d s' => .rt d s' | .er k ds ρ' s' => .er k ds ρ' s' | .no => .no) = _
      rw [et]
      exact g1
    · obtain ⟨l', a', b', s', g1, g2, g3, g4⟩ := k1_loop h1 h2 ds l x0 (.v e) (.v (.int (x0 + 1 + v))) c d s1 hi (by omega) r1
      refine ⟨l', a', b', s', ?_, g2, by rw [List.length_cons]; omega, g4⟩
      have et : l__law_knots_1 [.v (.cell 0), .own (.lst ((l ++ [x0]).map D.int)), .v (.int st), .v e, b, c, d] s = .nx [.v (.cell 0), .own (.lst ((l ++ [x0]).map D.int)), .v (.int st), .v e, .v (.int (x0 + 1 + v)), c, d] s1 := by
        have hx := decide_eq_false hx
        generalize (l ++ [x0]).map D.int = L1 at *
        unfold l__law_knots_1
        clear g1 g2 g3 g4 hi hl r r1 v0 v1 h1 h2
        decreasing_trivial
      show (match l__law_knots_1 [.v (.cell 0), .own (.lst ((l ++ [x0]).map D.int)), .v (.int st), .v e, b, c, d] s with | .nx ρ' s' => loopF (.nm 3) l__law_knots_1 ds ρ' s' | .ct ρ' s' => loopF (.nm 3) l__law_knots_1 ds ρ' s' | .bk ρ' s' => .nx ρ' s' | .rt d s' => .rt d s' | .er k ds ρ' s' => .er k ds ρ' s' | .no => .no) = _
      rw [et]
      exact g1
end K02

namespace K02
open PySem PySem.Spec L2 Tv
local macro_rules | `(tactic| get_elem_tactic_extensible) => `(tactic| simp only [v_var, v_varB, v_c, v_op, v_un, v_nil, v_cons, v_tup, v_lst, v_test, v_and, v_or, v_not, v_if, v_andV, v_orV, v_notV, v_chain, v_call, v_callF, v_callV, v_isi, v_slice, v_comp, unowned, List.all_cons, List.all_nil, wipeR, and_true, true_and, and_false, false_and, Int.cast_ofNat_Int, v_part, v_noPart, v_fld, v_yes, v_seqI, v_rng1, v_rng2, v_enumI, v_zipI, v_next, v_seq, v_set, v_setO, v_drop, v_ret, v_retN, v_brk, v_cnt, v_ifS, v_frz, v_while, v_for, v_meth, v_setIx, v_cell, v_aug, v_pt, v_par, v_setF, v_fun, v_ne_ok, v_loopF_nil, v_compF_nil,
  w_add, Tv.w_sub, w_lt, w_le, w_gt, w_ge, w_neg, w_eqI, w_neI, w_eqB, w_neB, w_is, w_isNot, w_ix20, w_ix21, w_lenT, w_lenL, w_lenZ, w_abs, w_int, w_min, w_max, w_tupT, w_tupL, w_tupZ, kT_int, kT_bl, kT_non, kT_str, kT_tup, kT_lst, k2, Tv.isNon, Pt.run, Pts.run, setM, ownL, baseOk, seqV,
  List.map_cons, List.map_nil, List.cons_append, List.nil_append, List.append_nil, List.replicate_zero, List.replicate_succ, List.length_cons, List.length_nil, List.getElem?_cons_zero, List.getElem?_cons_succ, List.getElem?_nil, List.set_cons_zero, List.set_cons_succ, List.set_nil, Option.some.injEq, ↓reduceIte, reduceCtorEq, decide_true, decide_false, decide_eq_true_eq, Bool.not_true, Bool.not_false, Bool.false_eq_true, Bool.and_true, Bool.true_and, Bool.or_false, Bool.false_or, Bool.or_true, Bool.true_or, Bool.and_false, Bool.false_and, if_true, if_false, String.reduceEq, or_false, or_true, false_or, true_or, Int.reduceLE, Int.reduceLT, Int.reduceNeg, Int.reduceToNat, Int.reduceAdd, Nat.reduceAdd, Nat.reduceLT, Int.reduceSub, Int.reduceMul, Int.reduceEq, Nat.reduceEqDiff, Int.zero_sub, BEq.rfl])
local macro_rules | `(tactic| decreasing_trivial) => `(tactic| simp only [v_var, v_varB, v_c, v_op, v_un, v_nil, v_cons, v_tup, v_lst, v_test, v_and, v_or, v_not, v_if, v_andV, v_orV, v_notV, v_chain, v_call, v_callF, v_callV, v_isi, v_slice, v_comp, unowned, List.all_cons, List.all_nil, wipeR, and_true, true_and, and_false, false_and, Int.cast_ofNat_Int, v_part, v_noPart, v_fld, v_yes, v_seqI, v_rng1, v_rng2, v_enumI, v_zipI, v_next, v_seq, v_set, v_setO, v_drop, v_ret, v_retN, v_brk, v_cnt, v_ifS, v_frz, v_while, v_for, v_meth, v_setIx, v_cell, v_aug, v_pt, v_par, v_setF, v_fun, v_ne_ok, v_loopF_nil, v_compF_nil,
  w_add, Tv.w_sub, w_lt, w_le, w_gt, w_ge, w_neg, w_eqI, w_neI, w_eqB, w_neB, w_is, w_isNot, w_ix20, w_ix21, w_lenT, w_lenL, w_lenZ, w_abs, w_int, w_min, w_max, w_tupT, w_tupL, w_tupZ, kT_int, kT_bl, kT_non, kT_str, kT_tup, kT_lst, k2, Tv.isNon, Pt.run, Pts.run, setM, ownL, baseOk, seqV,
  List.map_cons, List.map_nil, List.cons_append, List.nil_append, List.append_nil, List.replicate_zero, List.replicate_succ, List.length_cons, List.length_nil, List.getElem?_cons_zero, List.getElem?_cons_succ, List.getElem?_nil, List.set_cons_zero, List.set_cons_succ, List.set_nil, Option.some.injEq, ↓reduceIte, reduceCtorEq, decide_true, decide_false, decide_eq_true_eq, Bool.not_true, Bool.not_false, Bool.false_eq_true, Bool.and_true, Bool.true_and, Bool.or_false, Bool.false_or, Bool.or_true, Bool.true_or, Bool.and_false, Bool.false_and, if_true, if_false, String.reduceEq, or_false, or_true, false_or, true_or, Int.reduceLE, Int.reduceLT, Int.reduceNeg, Int.reduceToNat, Int.reduceAdd, Nat.reduceAdd, Nat.reduceLT, Int.reduceSub, Int.reduceMul, Int.reduceEq, Nat.reduceEqDiff, Int.zero_sub, BEq.rfl, *])

theorem k2_turn {ns : List Int} {s : S} {x y : Int} {X st a : SD} {ks : Kn} (r : Rw ns s) (h0 : 0 ≤ y) (h1 : y ≤ 255) (hl : ks.length ≤ 1000) : ∃ (y' : Int) (s' : S), l__law_knots_2 [.v (.cell 0), X, st, a, .v (.int x), .own (.lst (ks.map pD)), .v (.int y)] s = .nx [.v (.cell 0), X, st, a, .v (.int x), .own (.lst ((ks ++ [(x, y)]).map pD)), .v (.int y')] s' ∧ y ≤ y' ∧ y' ≤ 255 ∧ Rw ns s' := by
  obtain ⟨v1, s1, e1, a1, b1, r1⟩ := t_taken (m := 40) (k := 10) r (by omega) (bd_small (by omega))
  obtain ⟨v2, s2, e2, a2, b2, r2⟩ := t_taken (m := 160) (k := 10) r1 (by omega) (bd_small (by omega))
  obtain ⟨d, s3, e3, m3, r3⟩ := t_pick (ds := [.int 0, .int 1, .int v1, .int v2]) r2 (by simp) (by simp)
  obtain ⟨w, rfl, hw⟩ : ∃ w : Int, d = .int w ∧ 0 ≤ w := by
    simp only [List.mem_cons, List.not_mem_nil, or_false] at m3
    rcases m3 with rfl | rfl | rfl | rfl
    · exact ⟨_, rfl, by omega⟩
    · exact ⟨_, rfl, by omega⟩
    · exact ⟨_, rfl, by omega⟩
    · exact ⟨_, rfl, by omega⟩
  have ea : oAppend (ks.map pD) [.tup [.int x, .int y]] = some (.non, (ks ++ [(x, y)]).map pD) := by
    show (if _ then _ else _) = _
    rw [if_pos (by rw [List.length_map]; have := size_ok (n := ks.length + 1) (by omega); omega), List.map_append]
    rfl
  refine ⟨min 255 (y + w), s3, ?_, by omega, by omega, r3⟩
  unfold l__law_knots_2
  clear a1 b1 a2 b2 m3 hw r r1 r2 r3 h0 h1 hl
  generalize (ks ++ [(x, y)]).map pD = L2 at *
  generalize ks.map pD = L1 at *
  decreasing_trivial
theorem k2_loop {ns : List Int} {X st a : SD} : ∀ (l : List Int) (ks : Kn) (y : Int) (x : SD) (s : S), Rw ns s → 0 ≤ y → y ≤ 255 → ks.length + l.length ≤ 1000 → ∃ (ks' : Kn) (y' : Int) (x' : SD) (s' : S), loopF (.nm 4) l__law_knots_2 (l.map D.int) [.v (.cell 0), X, st, a, x, .own (.lst (ks.map pD)), .v (.int y)] s = .nx [.v (.cell 0), X, st, a, x', .own (.lst ((ks ++ ks').map pD)), .v (.int y')] s' ∧ ks'.map (·.1) = l ∧ (ks'.map (·.2)).Pairwise (· ≤ ·) ∧ (∀ p, p ∈ ks' → y ≤ p.2 ∧ p.2 ≤ 255) ∧ Rw ns s'
  | [], ks, y, x, s, r, h0, h1, hl => ⟨[], y, x, s, by rw [List.append_nil]; rfl, rfl, List.Pairwise.nil, (fun _ h => by cases h), r⟩
  | z :: l, ks, y, x, s, r, h0, h1, hl => by
    rw [List.length_cons] at hl
    obtain ⟨y1, s1, e1, g1, g2, r1⟩ := k2_turn (x := z) (X := X) (st := st) (a := a) (ks := ks) r h0 h1 (by omega)
    obtain ⟨ks', y', x', s', e2, m1, m2, m3, r2⟩ := k2_loop (X := X) (st := st) (a := a) l (ks ++ [(z, y)]) y1 (.v (.int z)) s1 r1 (by omega) g2 (by rw [List.length_append, List.length_singleton]; omega)
    refine ⟨(z, y) :: ks', y', x', s', ?_, by rw [List.map_cons, m1], ?_, ?_, r2⟩
    · rw [List.map_cons, v_loopF]
      show (match l__law_knots_2 [.v (.cell 0), X, st, a, .v (.int z), .own (.lst (ks.map pD)), .v (.int y)] s with | .nx ρ' s' => loopF (.nm 4) l__law_knots_2 (l.map D.int) ρ' s' | .ct ρ' s' => loopF (.nm 4) l__law_knots_2 (l.map D.int) ρ' s' | .bk ρ' s' => .nx ρ' s' | .rt d s' => .rt d s' | .er k ds ρ' s' => .er k ds ρ' s' | .no => .no) = _
      rw [e1]
      dsimp only
      rw [e2, List.append_assoc]
      rfl
    · rw [List.map_cons, List.pairwise_cons]
      refine ⟨fun w hw => ?_, m2⟩
      obtain ⟨p, hp, rfl⟩ := List.mem_map.mp hw
      have := (m3 p hp).1
      show y ≤ p.2
      omega
    · intro p hp
      rcases List.mem_cons.mp hp with rfl | hp
      · exact ⟨Int.le_refl _, h1⟩
      · have := m3 p hp
        omega
theorem chn_of : ∀ {ks : Kn}, (ks.map (·.1)).Pairwise (· < ·) → (ks.map (·.2)).Pairwise (· ≤ ·) → Chn ks
  | [], _, _ => trivial
  | [_], _, _ => trivial
  | p :: q :: r, h1, h2 => by
    rw [List.map_cons, List.pairwise_cons] at h1 h2
    exact ⟨h1.1 _ (by simp), h2.1 _ (by simp), chn_of h1.2 h2.2⟩
theorem val_of {l : List Int} {ks : Kn} (h : Inc l) (hl : l.length ≤ 11) (e : ks.map (·.1) = l ++ [255]) (h2 : (ks.map (·.2)).Pairwise (· ≤ ·)) (h3 : ∀ p, p ∈ ks → 0 ≤ p.2 ∧ p.2 ≤ 255) : Val ks := by
  obtain ⟨pw, rg, r, rfl⟩ := h
  have hlen : ks.length = (0 :: r).length + 1 := by
    have := congrArg List.length e
    simpa using this
  rw [List.length_cons] at hlen hl
  have e' := e
  obtain ⟨ka, kb, rfl, ea, eb⟩ := List.map_eq_append_iff.mp e
  obtain ⟨p, rfl, ep⟩ : ∃ p, kb = [p] ∧ p.1 = 255 := by
    cases kb with
    | nil => cases eb
    | cons p t =>
      cases t with
      | nil => exact ⟨p, rfl, by simpa using eb⟩
      | cons q t => simp at eb
  refine ⟨by omega, by omega, chn_of ?_ h2, fun q hq => ?_, ?_, by rw [lastP_app]; exact ep⟩
  · rw [e]
    refine List.pairwise_append.mpr ⟨pw, by simp, fun a ha b hb => ?_⟩
    rw [List.mem_singleton.mp hb]
    exact (rg a ha).2
  · have h4 := h3 q hq
    have : q.1 ∈ (0 :: r) ++ [255] := by
      rw [← e]
      exact List.mem_map.mpr ⟨q, hq, rfl⟩
    rcases List.mem_append.mp this with h5 | h5
    · have := rg _ h5
      exact ⟨by omega, by omega, h4.1, h4.2⟩
    · have := List.mem_singleton.mp h5
      exact ⟨by omega, by omega, h4.1, h4.2⟩
  · cases ka with
    | nil => cases ea
    | cons q t =>
      rw [List.map_cons] at ea
      have : q.1 = 0 := (List.cons.inj ea).1
      exact ⟨q.2, t ++ [p], by rw [← this]; rfl⟩
theorem val_last {l : List Int} {ks : Kn} (h : Inc l) (hl : l.length ≤ 11) (e : ks.map (·.1) = l ++ [255]) (h2 : (ks.map (·.2)).Pairwise (· ≤ ·)) (h3 : ∀ p, p ∈ ks → 0 ≤ p.2 ∧ p.2 ≤ 255) : ∃ (k1 : Kn) (p : K2), ks = k1 ++ [p] ∧ Val (k1 ++ [(255, 255)]) ∧ k1 ≠ [] := by
  obtain ⟨ka, kb, rfl, ea, eb⟩ := List.map_eq_append_iff.mp e
  obtain ⟨p, rfl, ep⟩ : ∃ p, kb = [p] ∧ p.1 = 255 := by
    cases kb with
    | nil => cases eb
    | cons p t =>
      cases t with
      | nil => exact ⟨p, rfl, by simpa using eb⟩
      | cons q t => simp at eb
  refine ⟨ka, p, rfl, val_of h hl ?_ ?_ ?_, ?_⟩
  · rw [List.map_append, ea]
    rfl
  · rw [List.map_append] at h2 ⊢
    refine List.pairwise_append.mpr ⟨(List.pairwise_append.mp h2).1, by simp, fun a ha b hb => ?_⟩
    obtain ⟨q, hq, rfl⟩ := List.mem_map.mp ha
    simp at hb
    subst hb
    exact (h3 q (List.mem_append_left _ hq)).2
  · intro q hq
    rcases List.mem_append.mp hq with hq | hq
    · exact h3 q (List.mem_append_left _ hq)
    · rw [List.mem_singleton.mp hq]
      exact ⟨by decide, by decide⟩
  · rintro rfl
    obtain ⟨r, hr⟩ := h.hd
    rw [hr] at ea
    cases ea
theorem t_knots {ns : List Int} {s : S} (h : Rw ns s) : ∃ (ks : Kn) (s' : S), F__law_knots [.cell 0] s = .ok (kD ks) s' ∧ Val ks ∧ Rw ns s' := by
  obtain ⟨d1, s1, e1, m1, r1⟩ := t_pick (ds := [.int 60, .int 130, .int 250]) h (by simp) (by simp)
  obtain ⟨st, rfl, hs⟩ : ∃ m : Int, d1 = .int m ∧ 1 ≤ m ∧ m ≤ 250 := by
    simp only [List.mem_cons, List.not_mem_nil, or_false] at m1
    rcases m1 with rfl | rfl | rfl
    · exact ⟨_, rfl, by omega⟩
    · exact ⟨_, rfl, by omega⟩
    · exact ⟨_, rfl, by omega⟩
  obtain ⟨n, s2, e2, n0, n1, r2⟩ := t_taken (m := 11) (k := 10) r1 (by omega) (bd_small (by omega))
  have hro : rngOk n = true := rng_ok (by omega) (by omega)
  obtain ⟨l, a1, b1, s3, e3, hi, hl, r3⟩ := k1_loop (ns := ns) hs.1 hs.2 (rngD 0 n.toNat) [] 0 .un .un .un .un s2 ⟨by simp, by simp, [], rfl⟩ (by rw [rngD_len, List.length_nil]; omega) r2
  rw [rngD_len, List.length_nil] at hl
  have e3 : loopF (.nm 3) l__law_knots_1 (rngD 0 n.toNat) [.v (.cell 0), .own (.lst [.int 0]), .v (.int st), .un, .un, .un, .un] s2 = .nx [.v (.cell 0), .own (.lst (l.map D.int)), .v (.int st), a1, b1, .un, .un] s3 := e3
  obtain ⟨v1, s4, e4, a2, b2, r4⟩ := t_taken (m := 100) (k := 10) r3 (by omega) (bd_small (by omega))
  obtain ⟨d2, s5, e5, m2, r5⟩ := t_pick (ds := [.int 0, .int 0, .int v1]) r4 (by simp) (by simp)
  obtain ⟨y, rfl, hy⟩ : ∃ m : Int, d2 = .int m ∧ 0 ≤ m ∧ m ≤ 255 := by
    simp only [List.mem_cons, List.not_mem_nil, or_false] at m2
    rcases m2 with rfl | rfl | rfl
    · exact ⟨_, rfl, by omega⟩
    · exact ⟨_, rfl, by omega⟩
    · exact ⟨_, rfl, by omega⟩
  have ec : ∀ s, gCat (.lst (l.map D.int)) (.lst [.int 255]) s = .ok (.lst ((l ++ [255]).map D.int)) s := fun s => by
    rw [List.map_append]
    show (if _ then _ else _) = _
    rw [if_pos (by
      rw [List.length_map]
      have := size_ok (n := l.length + 1) (by omega)
      simp
      omega)]
    rfl
  obtain ⟨ks, y', x', s6, e6, k1, k2, k3, r6⟩ := k2_loop (X := .v (.lst ((l ++ [255]).map D.int))) (st := .v (.int st)) (a := a1) (l ++ [255]) [] y b1 s5 r5 hy.1 hy.2 (by simp; omega)
  rw [List.nil_append, List.map_nil] at e6
  have k3' : ∀ p, p ∈ ks → 0 ≤ p.2 ∧ p.2 ≤ 255 := fun p hp => by have := k3 p hp; omega
  have hv := val_of hi (by omega) k1 k2 k3'
  obtain ⟨pre, p, hks, hv2, hpre⟩ := val_last hi (by omega) k1 k2 k3'
  obtain ⟨v3, s7, e7, a3, b3, r7⟩ := t_taken (m := 3) (k := 10) r6 (by omega) (bd_small (by omega))
  by_cases hc : v3 = 0
  · refine ⟨pre ++ [(255, 255)], s7, ?_, hv2, r7⟩
    have c1 := decide_eq_true hc
    obtain ⟨pr, q, hq⟩ : ∃ pr q, pre = pr ++ [q] := by
      rcases List.eq_nil_or_concat pre with h | ⟨pr, q, h⟩
      · exact absurd h hpre
      · exact ⟨pr, q, by rw [h, List.concat_eq_append]⟩
    have hlen : ks.length = pr.length + 2 := by rw [hks, hq]; simp
    have c2 : decide ((((ks.map pD).length : Nat) : Int) < 2) = false := decide_eq_false (by rw [List.length_map]; omega)
    have i1 : ∀ s, gIx (.lst (ks.map pD)) (.int (-2)) s = .ok (pD q) s := fun s => by
      rw [hks, hq, List.map_append, List.map_append]
      exact ix_m2
    have i2 : ∀ s, gIx (pD q) (.int 1) s = .ok (.int q.2) s := fun _ => rfl
    have c3 : decide (q.2 ≤ 255) = true := decide_eq_true (k3' q (by rw [hks, hq]; simp)).2
    have es : ∀ (X Y Z u v w : SD) s, setIx 5 (-1) (.tup [.int 255, .int 255]) [X, Y, Z, u, v, .own (.lst (ks.map pD)), w] s = .nx [X, Y, Z, u, v, .own (.lst ((pre ++ [(255, 255)]).map pD)), w] s := fun X Y Z u v w s => by
      have ei : ixN (ks.map pD).length (-1) = some pre.length := by
        rw [hks, List.length_map, List.length_append, List.length_singleton]
        unfold ixN
        simp
        try omega
      show (match ixN (ks.map pD).length (-1) with | some j => SR.nx [X, Y, Z, u, v, .own (.lst ((ks.map pD).set j (.tup [.int 255, .int 255]))), w] s | none => .no) = _
      rw [ei]
      have : (ks.map pD).set pre.length (.tup [.int 255, .int 255]) = (pre ++ [(255, 255)]).map pD := by
        rw [hks, List.map_append, List.map_append, List.set_append_right _ _ (by simp), List.length_map, Nat.sub_self]
        rfl
      dsimp only
      rw [this]
    have ef : ∀ (X u v w x z : SD), frz 1 [X, .own (.lst ((l ++ [255]).map D.int)), u, v, w, x, z] = [X, .v (.lst ((l ++ [255]).map D.int)), u, v, w, x, z] := fun _ _ _ _ _ _ => rfl
    have eb : ∀ (X Y Z u v w : SD), baseOk 5 [X, Y, Z, u, v, .own (.lst (ks.map pD)), w] = true := fun _ _ _ _ _ _ => rfl
    unfold F__law_knots b__law_knots kD
    clear hc a3 b3 hv hv2 k1 k2 k3 k3' hi hl hy hs n0 n1 m1 m2 a2 b2 r1 r2 r3 r4 r5 r6 r7 hks hq hpre hlen h
    generalize ks.map pD = L1 at *
    generalize (pre ++ [(255, 255)]).map pD = L2 at *
    generalize (l ++ [255]).map D.int = L3 at *
    generalize l.map D.int = L4 at *
    decreasing_trivial
  · refine ⟨ks, s7, ?_, hv, r7⟩
    have c1 := decide_eq_false hc
    have ef : ∀ (X u v w x z : SD), frz 1 [X, .own (.lst ((l ++ [255]).map D.int)), u, v, w, x, z] = [X, .v (.lst ((l ++ [255]).map D.int)), u, v, w, x, z] := fun _ _ _ _ _ _ => rfl
    unfold F__law_knots b__law_knots kD
    clear hc a3 b3 hv hv2 k1 k2 k3 k3' hi hl hy hs n0 n1 m1 m2 a2 b2 r1 r2 r3 r4 r5 r6 r7 hks hpre h
    generalize ks.map pD = L1 at *
    generalize (l ++ [255]).map D.int = L3 at *
    generalize l.map D.int = L4 at *
    decreasing_trivial
end K02

namespace K02
open PySem PySem.Spec L2 Tv
/-! ### plain: what does not change when a knot on a straight line goes -/
def L (p q : K2) (t : Rat) : Rat := (p.2 : Rat) + (t - (p.1 : Rat)) / ((q.1 : Rat) - (p.1 : Rat)) * ((q.2 : Rat) - (p.2 : Rat))
theorem at_cons (p q : K2) (r : Kn) (t : Rat) : at_ (p :: q :: r) t = if t ≤ (q.1 : Rat) then L p q t else at_ (q :: r) t := rfl
theorem ln_rat {p q r : K2} (h : ln p q r) : ((q.2 : Rat) - p.2) * ((r.1 : Rat) - q.1) = ((r.2 : Rat) - q.2) * ((q.1 : Rat) - p.1) := by
  unfold ln at h
  exact_mod_cast h
theorem L_left {p q r : K2} (h1 : p.1 < q.1) (h2 : q.1 < r.1) (h : ln p q r) (t : Rat) : L p r t = L p q t := by
  have e := ln_rat h
  have l1 := cast_lt h1
  have l2 := cast_lt h2
  unfold L
  have n1 : (q.1 : Rat) - p.1 ≠ 0 := by grind
  have n2 : (r.1 : Rat) - p.1 ≠ 0 := by grind
  grind
theorem L_right {p q r : K2} (h1 : p.1 < q.1) (h2 : q.1 < r.1) (h : ln p q r) (t : Rat) : L p r t = L q r t := by
  have e := ln_rat h
  have l1 := cast_lt h1
  have l2 := cast_lt h2
  unfold L
  have n1 : (r.1 : Rat) - q.1 ≠ 0 := by grind
  have n2 : (r.1 : Rat) - p.1 ≠ 0 := by grind
  grind
theorem at_drop {p q r : K2} {k : Kn} (h1 : p.1 < q.1) (h2 : q.1 < r.1) (h : ln p q r) (t : Rat) : at_ (p :: r :: k) t = at_ (p :: q :: r :: k) t := by
  have l1 := cast_lt h1
  have l2 := cast_lt h2
  rw [at_cons, at_cons, at_cons]
  by_cases c1 : t ≤ (q.1 : Rat)
  · rw [if_pos c1, if_pos (by grind), L_left h1 h2 h]
  · rw [if_neg c1]
    by_cases c2 : t ≤ (r.1 : Rat)
    · rw [if_pos c2, if_pos c2, L_right h1 h2 h]
    · rw [if_neg c2, if_neg c2]
theorem onl_next {a q r p : K2} (ha : a.1 < q.1) (hp : p.1 < q.1) (h : onl p a q) (hl : ln a q r) : ln p q r := (onl_ln hp ha h).mpr hl
theorem at_inn : ∀ (ks : Kn) (a q p : K2) (t : Rat), Chn (a :: q :: ks) → p.1 < q.1 → onl p a q → at_ (p :: (inn (a :: q :: ks) ++ [lastP (q :: ks)])) t = at_ (p :: q :: ks) t
  | [], a, q, p, t, _, _, _ => rfl
  | r :: ks, a, q, p, t, hc, hp, ho => by
    have haq := hc.1
    have hqr := hc.tail.1
    rw [lastP_cons]
    unfold inn
    cases hs : strI a q r with
    | true =>
      have hl := onl_next haq hp ho ((strI_ln _ _ _).mp hs)
      rw [if_pos rfl, at_inn ks q r p t hc.tail (by omega) (ln_onl hl)]
      exact at_drop hp hqr hl t
    | false =>
      rw [if_neg Bool.false_ne_true, List.cons_append, at_cons, at_cons, at_inn ks q r q t hc.tail hqr rfl]
theorem at_kept {f : Kn} (v : Val f) (t : Rat) : at_ (kept f) t = at_ f t := by
  have h2 := v.two
  have hc := v.chn
  cases f with
  | nil => rfl
  | cons p r =>
    cases r with
    | nil => simp at h2
    | cons q r =>
      exact at_inn r p q p t hc hc.1 rfl
/-! no three in a row on a line -/
def NS : Kn → Prop
  | p :: q :: r :: t => ¬ ln p q r ∧ NS (q :: r :: t)
  | _ => True
theorem ln_far {p q r z : K2} (h1 : p.1 < q.1) (h2 : q.1 < r.1) (hz : q.1 < z.1) (h : (z.2 - q.2) * (r.1 - q.1) = (r.2 - q.2) * (z.1 - q.1)) (e : ln p q z) : ln p q r := by
  unfold ln at *
  refine can (u := z.1 - q.1) (by omega) ?_
  grind
theorem ns_inn : ∀ (ks : Kn) (a q p : K2), Chn (a :: q :: ks) → p.1 < q.1 → onl p a q → ∃ (z : K2) (k : Kn), inn (a :: q :: ks) ++ [lastP (q :: ks)] = z :: k ∧ q.1 ≤ z.1 ∧ (z.2 - p.2) * (q.1 - p.1) = (q.2 - p.2) * (z.1 - p.1) ∧ NS (p :: z :: k)
  | [], a, q, p, _, _, _ => ⟨q, [], rfl, Int.le_refl _, rfl, trivial⟩
  | r :: ks, a, q, p, hc, hp, ho => by
    have haq := hc.1
    have hqr := hc.tail.1
    rw [lastP_cons]
    unfold inn
    cases hs : strI a q r with
    | true =>
      have hl := onl_next haq hp ho ((strI_ln _ _ _).mp hs)
      obtain ⟨z, k, e, h1, h2, h3⟩ := ns_inn ks q r p hc.tail (by omega) (ln_onl hl)
      refine ⟨z, k, by rw [if_pos rfl]; exact e, by omega, ?_, h3⟩
      unfold ln at hl
      refine can (u := r.1 - p.1) (by omega) ?_
      grind
    | false =>
      obtain ⟨z, k, e, h1, h2, h3⟩ := ns_inn ks q r q hc.tail hqr rfl
      refine ⟨q, z :: k, by rw [if_neg Bool.false_ne_true, List.cons_append, e], Int.le_refl _, rfl, ?_, h3⟩
      intro hx
      have := ln_far hp hqr (by omega) h2 hx
      have := (onl_ln hp haq ho).mp this
      rw [← strI_ln, hs] at this
      cases this
theorem ns_kept {f : Kn} (v : Val f) : NS (kept f) := by
  have h2 := v.two
  have hc := v.chn
  cases f with
  | nil => trivial
  | cons p r =>
    cases r with
    | nil => simp at h2
    | cons q r =>
      obtain ⟨z, k, e, _, _, h⟩ := ns_inn r p q p hc hc.1 rfl
      show NS (p :: (inn (p :: q :: r) ++ [lastP (q :: r)]))
      rw [e]
      exact h
end K02

namespace K02
open PySem PySem.Spec L2 Tv
theorem L_head (p q : K2) : L p q (p.1 : Rat) = (p.2 : Rat) := by
  unfold L
  grind
theorem L_end {p q : K2} (h : p.1 < q.1) : L p q (q.1 : Rat) = (q.2 : Rat) := by
  have l := cast_lt h
  unfold L
  have n : (q.1 : Rat) - p.1 ≠ 0 := by grind
  grind
theorem at_head : ∀ (p : K2) (r : Kn), Chn (p :: r) → at_ (p :: r) (p.1 : Rat) = (p.2 : Rat)
  | p, [], _ => rfl
  | p, q :: r, h => by
    have l := cast_lt h.1
    rw [at_cons, if_pos (by grind), L_head]
theorem at_tail {p q : K2} {r : Kn} (h : Chn (p :: q :: r)) {t : Rat} (ht : (q.1 : Rat) ≤ t) : at_ (p :: q :: r) t = at_ (q :: r) t := by
  rw [at_cons]
  by_cases c : t ≤ (q.1 : Rat)
  · have : t = (q.1 : Rat) := Rat.le_antisymm c ht
    rw [if_pos c, this, L_end h.1, at_head q r h.tail]
  · rw [if_neg c]
theorem last_gt : ∀ (r : Kn) (p : K2), Chn (p :: r) → p.1 ≤ (lastP (p :: r)).1
  | [], p, _ => Int.le_refl _
  | q :: r, p, h => by
    have := last_gt r q h.tail
    rw [lastP_cons]
    have := h.1
    omega
theorem last_gt2 {p q : K2} {r : Kn} (h : Chn (p :: q :: r)) : p.1 < (lastP (p :: q :: r)).1 := by
  have := last_gt r q h.tail
  rw [lastP_cons]
  have := h.1
  omega
theorem no_bend {p q r q' : K2} {s s' : Kn} (h1 : Chn (p :: q :: r :: s)) (h2 : Chn (p :: q' :: s')) (hq : q.1 < q'.1) (hn : ¬ ln p q r) (e1 : at_ (p :: q :: r :: s) (q.1 : Rat) = at_ (p :: q' :: s') (q.1 : Rat)) (e2 : at_ (p :: q :: r :: s) ((q.1 + 1 : Int) : Rat) = at_ (p :: q' :: s') ((q.1 + 1 : Int) : Rat)) : False := by
  apply hn
  have hpq := h1.1
  have hqr := h1.tail.1
  have l1 := cast_lt hpq
  have l2 := cast_lt hqr
  have l3 := cast_lt hq
  have a1 : ((q.1 + 1 : Int) : Rat) = (q.1 : Rat) + 1 := by push_cast; rfl
  have b1 : ((q.1 + 1 : Int) : Rat) ≤ (r.1 : Rat) := cast_le (by omega)
  have b2 : ((q.1 + 1 : Int) : Rat) ≤ (q'.1 : Rat) := cast_le (by omega)
  rw [at_cons, if_pos (by grind), L_end hpq, at_cons, if_pos (by grind)] at e1
  rw [at_cons, if_neg (by grind), at_cons, if_pos b1, at_cons, if_pos b2, a1] at e2
  unfold L at e1 e2
  have n1 : (r.1 : Rat) - q.1 ≠ 0 := by grind
  have n2 : (q'.1 : Rat) - p.1 ≠ 0 := by grind
  unfold ln
  have : ((q.2 : Rat) - p.2) * ((r.1 : Rat) - q.1) = ((r.2 : Rat) - q.2) * ((q.1 : Rat) - p.1) := by grind
  exact_mod_cast this
theorem uniq : ∀ (r r' : Kn) (p : K2), Chn (p :: r) → Chn (p :: r') → NS (p :: r) → NS (p :: r') → (lastP (p :: r)).1 = 255 → (lastP (p :: r')).1 = 255 → (∀ x : Int, p.1 ≤ x → x ≤ 255 → at_ (p :: r) (x : Rat) = at_ (p :: r') (x : Rat)) → r = r'
  | [], [], _, _, _, _, _, _, _, _ => rfl
  | [], q :: s, p, h1, h2, _, _, l1, l2, _ => by
    have := last_gt2 h2
    have : p.1 = 255 := l1
    omega
  | q :: s, [], p, h1, h2, _, _, l1, l2, _ => by
    have := last_gt2 h1
    have : p.1 = 255 := l2
    omega
  | q :: s, q' :: s', p, h1, h2, n1, n2, l1, l2, he => by
    have hp := h1.1
    have hp' := h2.1
    have g1 : q.1 ≤ 255 := by have := last_gt s q h1.tail; rw [lastP_cons] at l1; omega
    have g2 : q'.1 ≤ 255 := by have := last_gt s' q' h2.tail; rw [lastP_cons] at l2; omega
    by_cases c1 : q.1 < q'.1
    · cases s with
      | nil => rw [lastP_cons] at l1; have : q.1 = 255 := l1; omega
      | cons r s => exact absurd (no_bend h1 h2 c1 n1.1 (he _ (by omega) (by omega)) (he _ (by omega) (by omega))) id
    · by_cases c2 : q'.1 < q.1
      · cases s' with
        | nil => rw [lastP_cons] at l2; have : q'.1 = 255 := l2; omega
        | cons r s' => exact absurd (no_bend h2 h1 c2 n2.1 (he _ (by omega) (by omega)).symm (he _ (by omega) (by omega)).symm) id
      · have c : q.1 = q'.1 := by omega
        have e := he q.1 (by omega) g1
        rw [at_cons, if_pos Rat.le_refl, L_end hp, c, at_cons, if_pos Rat.le_refl, L_end hp'] at e
        have e2 : q.2 = q'.2 := by exact_mod_cast e
        obtain rfl : q = q' := Prod.ext c e2
        have := uniq s s' q h1.tail h2.tail (by
          cases s with
          | nil => trivial
          | cons r s => exact n1.2) (by
          cases s' with
          | nil => trivial
          | cons r s => exact n2.2) l1 l2 fun x k1 k2 => by
            have := he x (by omega) k2
            rw [at_tail h1 (cast_le k1), at_tail h2 (cast_le k1)] at this
            exact this
        rw [this]
/-- (m1) -/
theorem alike_iff {f g : Kn} (vf : Val f) (vg : Val g) : kept f = kept g ↔ ∀ x, x < 256 → ai f x = ai g x := by
  constructor
  · intro h x _
    unfold ai
    rw [← at_kept vf, ← at_kept vg, h]
  · intro h
    have a := vf.kept
    have b := vg.kept
    have na := ns_kept vf
    have nb := ns_kept vg
    have hx : ∀ x : Int, 0 ≤ x → x ≤ 255 → at_ (kept f) (x : Rat) = at_ (kept g) (x : Rat) := fun x h0 h1 => by
      rw [at_kept vf, at_kept vg]
      have := h x.toNat (by omega)
      unfold ai at this
      have e : ((x.toNat : Nat) : Rat) = (x : Rat) := by
        rw [← natR]
        congr 1
        omega
      rw [e] at this
      exact this
    obtain ⟨y, r, e1⟩ := a.x0
    obtain ⟨y', r', e2⟩ := b.x0
    have ac := a.chn
    have bc := b.chn
    have al := a.xn
    have bl := b.xn
    rw [e1] at ac na al hx ⊢
    rw [e2] at bc nb bl hx ⊢
    have h0 := hx 0 (by omega) (by omega)
    rw [show ((0 : Int) : Rat) = (((0, y) : K2).1 : Rat) from rfl, at_head (0, y) r ac] at h0
    rw [show (((0, y) : K2).1 : Rat) = (((0, y') : K2).1 : Rat) from rfl, at_head (0, y') r' bc] at h0
    have hy : y = y' := by exact_mod_cast h0
    subst hy
    rw [uniq r r' (0, y) ac bc na nb al bl fun x k1 k2 => hx x k1 k2]
/-- (m6) -/
theorem nw_ok (q : Rat) : -(q.den : Int) < 2 * (q.num - nw q * (q.den : Int)) ∧ 2 * (q.num - nw q * (q.den : Int)) ≤ (q.den : Int) := by
  unfold nw
  have hd := den_pos q
  generalize (q.den : Int) = d at *
  generalize q.num = n at *
  have h1 := Int.emod_add_mul_ediv (d - 2 * n) (2 * d)
  have h2 := Int.emod_nonneg (d - 2 * n) (show 2 * d ≠ 0 by omega)
  have h3 := Int.emod_lt_of_pos (d - 2 * n) (show 0 < 2 * d by omega)
  generalize (d - 2 * n) / (2 * d) = k at *
  generalize (d - 2 * n) % (2 * d) = m at *
  have e : 2 * (n - -k * d) = d - m := by
    have : 2 * d * k = 2 * (k * d) := by rw [Int.mul_assoc, Int.mul_comm d k]
    rw [Int.neg_mul]
    omega
  rw [e]
  omega
end K02

namespace K02
open PySem PySem.Spec L2 Tv
/-! cells -/
theorem prs_ge : ∀ {r : Kn} {p : K2} {a : PP}, Chn (p :: r) → a ∈ prs (p :: r) → p.1 ≤ a.1.1
  | [], _, _, _, h => by cases h
  | q :: r, p, a, hc, h => by
    rcases List.mem_cons.mp h with rfl | h
    · exact Int.le_refl _
    · have := prs_ge hc.tail h
      have := hc.1
      omega
theorem at_line : ∀ {r : Kn} {p : K2} {a : PP} {t : Rat}, Chn (p :: r) → a ∈ prs (p :: r) → (a.1.1 : Rat) ≤ t → t ≤ (a.2.1 : Rat) → at_ (p :: r) t = L a.1 a.2 t
  | [], _, _, _, _, h, _, _ => by cases h
  | q :: r, p, a, t, hc, h, h1, h2 => by
    rcases List.mem_cons.mp h with rfl | h
    · rw [at_cons, if_pos h2]
    · have := cast_le (prs_ge hc.tail h)
      rw [at_tail hc (by grind)]
      exact at_line hc.tail h h1 h2
theorem cell : ∀ {r : Kn} {p : K2} {x : Int}, Chn (p :: r) → p.1 ≤ x → x < (lastP (p :: r)).1 → ∃ a, a ∈ prs (p :: r) ∧ a.1.1 ≤ x ∧ x + 1 ≤ a.2.1
  | [], p, x, _, h1, h2 => by
    have : x < p.1 := h2
    omega
  | q :: r, p, x, hc, h1, h2 => by
    by_cases c : x < q.1
    · exact ⟨(p, q), List.mem_cons_self, h1, by show x + 1 ≤ q.1; omega⟩
    · obtain ⟨a, g1, g2, g3⟩ := cell hc.tail (by omega) h2
      exact ⟨a, List.mem_cons_of_mem _ g1, g2, g3⟩
theorem Val.line {f : Kn} (v : Val f) {a : PP} {t : Rat} (h : a ∈ prs f) (h1 : (a.1.1 : Rat) ≤ t) (h2 : t ≤ (a.2.1 : Rat)) : at_ f t = L a.1 a.2 t := by
  obtain ⟨y, r, rfl⟩ := v.x0
  exact at_line v.chn h h1 h2
theorem Val.cell {f : Kn} (v : Val f) {x : Int} (h0 : 0 ≤ x) (h1 : x < 255) : ∃ a, a ∈ prs f ∧ a.1.1 ≤ x ∧ x + 1 ≤ a.2.1 := by
  have hl := v.xn
  have hc := v.chn
  obtain ⟨y, r, rfl⟩ := v.x0
  exact K02.cell hc h0 (by omega)
/-! greatest -/
theorem mx_le {q r m : Rat} : mx q r ≤ m ↔ q ≤ m ∧ r ≤ m := by
  unfold mx
  split
  · constructor
    · intro h; exact ⟨by grind, h⟩
    · exact fun h => h.2
  · constructor
    · intro h; exact ⟨h, by grind⟩
    · exact fun h => h.1
theorem fmx_le {α : Type} (h : α → Rat) : ∀ (l : List α) (q m : Rat), l.foldl (fun q x => mx q (h x)) q ≤ m ↔ q ≤ m ∧ ∀ x, x ∈ l → h x ≤ m
  | [], q, m => by simp
  | a :: l, q, m => by
    rw [List.foldl_cons, fmx_le h l, mx_le]
    simp only [List.mem_cons, forall_eq_or_imp]
    exact and_assoc
theorem ab_le {q m : Rat} : ab q ≤ m ↔ q ≤ m ∧ -q ≤ m := by
  unfold ab
  split
  · rename_i h
    have := Rat.num_nonneg.mp h
    constructor
    · intro h; exact ⟨h, by grind⟩
    · exact fun h => h.1
  · rename_i h
    have : ¬ 0 ≤ q := fun e => h (Rat.num_nonneg.mpr e)
    constructor
    · intro h; exact ⟨by grind, h⟩
    · exact fun h => h.2
def sl (a : PP) : Rat := ((a.2.2 : Rat) - (a.1.2 : Rat)) / ((a.2.1 : Rat) - (a.1.1 : Rat))
theorem L_sl (a : PP) (t : Rat) : L a.1 a.2 t = (a.1.2 : Rat) + (t - (a.1.1 : Rat)) * sl a := by
  unfold L sl
  grind
theorem affine_le {A B lo hi x m : Rat} (h1 : lo ≤ x) (h2 : x ≤ hi) (e1 : A + B * lo ≤ m) (e2 : A + B * hi ≤ m) : A + B * x ≤ m := by
  by_cases h : 0 ≤ B
  · have := Rat.mul_le_mul_of_nonneg_left h2 h
    grind
  · have h : 0 ≤ -B := by grind
    have := Rat.mul_le_mul_of_nonneg_left h1 h
    grind
theorem prs_in : ∀ {r : Kn} {a : PP}, a ∈ prs r → a.1 ∈ r ∧ a.2 ∈ r
  | [], _, h => by cases h
  | [_], _, h => by cases h
  | p :: q :: r, a, h => by
    rcases List.mem_cons.mp h with rfl | h
    · exact ⟨by simp, by simp⟩
    · obtain ⟨h1, h2⟩ := prs_in h
      exact ⟨List.mem_cons_of_mem _ h1, List.mem_cons_of_mem _ h2⟩
theorem place_mem {f g : Kn} {p : K2} (h : p ∈ f ∨ p ∈ g) : (p.1 : Rat) ∈ gplaces f g := inord_mem.mpr (List.mem_map.mpr ⟨p, List.mem_append.mpr h, rfl⟩)
theorem gap_all {f g : Kn} (vf : Val f) (vg : Val g) {m : Rat} (h : ∀ x, x ∈ gplaces f g → gp f g x ≤ m) (x : Nat) (hx : x ≤ 255) : gp f g (x : Rat) ≤ m := by
  by_cases hc : x = 255
  · have hm := lastP_mem (vne vf)
    have := h _ (place_mem (f := f) (g := g) (.inl hm))
    rw [vf.xn] at this
    rw [hc]
    exact this
  · obtain ⟨a, ha, a1, a2⟩ := vf.cell (x := (x : Int)) (by omega) (by omega)
    obtain ⟨b, hb, b1, b2⟩ := vg.cell (x := (x : Int)) (by omega) (by omega)
    -- the nearest places at both sides
    obtain ⟨lo, l1, l2, l3, l4⟩ : ∃ lo : Int, a.1.1 ≤ lo ∧ b.1.1 ≤ lo ∧ lo ≤ (x : Int) ∧ (lo : Rat) ∈ gplaces f g := by
      by_cases c : a.1.1 ≤ b.1.1
      · exact ⟨b.1.1, c, Int.le_refl _, b1, place_mem (.inr (prs_in hb).1)⟩
      · exact ⟨a.1.1, Int.le_refl _, by omega, a1, place_mem (.inl (prs_in ha).1)⟩
    obtain ⟨hi, r1, r2, r3, r4⟩ : ∃ hi : Int, hi ≤ a.2.1 ∧ hi ≤ b.2.1 ∧ (x : Int) ≤ hi ∧ (hi : Rat) ∈ gplaces f g := by
      by_cases c : a.2.1 ≤ b.2.1
      · exact ⟨a.2.1, Int.le_refl _, c, by omega, place_mem (.inl (prs_in ha).2)⟩
      · exact ⟨b.2.1, by omega, Int.le_refl _, by omega, place_mem (.inr (prs_in hb).2)⟩
    have k : ∀ y : Int, lo ≤ y → y ≤ hi → at_ f (y : Rat) - at_ g (y : Rat) = ((a.1.2 : Rat) - (a.1.1 : Rat) * sl a - (b.1.2 : Rat) + (b.1.1 : Rat) * sl b) + (sl a - sl b) * (y : Rat) := fun y y1 y2 => by
      rw [vf.line ha (cast_le (by omega)) (cast_le (by omega)), vg.line hb (cast_le (by omega)) (cast_le (by omega)), L_sl, L_sl]
      grind
    have p1 := h _ l4
    have p2 := h _ r4
    unfold gp at *
    rw [ab_le] at p1 p2 ⊢
    rw [k lo (Int.le_refl _) (by omega)] at p1
    rw [k hi (by omega) (Int.le_refl _)] at p2
    rw [← natR, k x l3 r3]
    have x1 := cast_le l3
    have x2 := cast_le r3
    refine ⟨affine_le x1 x2 p1.1 p2.1, ?_⟩
    have := affine_le (A := -((a.1.2 : Rat) - (a.1.1 : Rat) * sl a - (b.1.2 : Rat) + (b.1.1 : Rat) * sl b)) (B := -(sl a - sl b)) (m := m) x1 x2 (by grind) (by grind)
    grind
/-- (m3) -/
theorem gap_eq {f g : Kn} (vf : Val f) (vg : Val g) : r256.foldl (fun q x => mx q (ab (ai f x - ai g x))) 0 = ggap f g := by
  have e : (fun (q : Rat) (x : Nat) => mx q (ab (ai f x - ai g x))) = fun (q : Rat) (x : Nat) => mx q (gp f g (x : Rat)) := rfl
  rw [e]
  refine Rat.le_antisymm ?_ ?_
  · rw [fmx_le (fun x : Nat => gp f g (x : Rat))]
    have h := (fmx_le (gp f g) (gplaces f g) 0 (ggap f g)).mp Rat.le_refl
    exact ⟨h.1, fun x hx => gap_all vf vg h.2 x (by have := List.mem_range.mp hx; omega)⟩
  · unfold ggap
    rw [fmx_le (gp f g)]
    have h := (fmx_le (fun x : Nat => gp f g (x : Rat)) r256 0 _).mp Rat.le_refl
    refine ⟨h.1, fun x hx => ?_⟩
    obtain ⟨p, hp, rfl⟩ := List.mem_map.mp (inord_mem.mp hx)
    have hr := place_ok vf vg p hp
    have := h.2 p.1.toNat (List.mem_range.mpr (by have := hr.2.1; omega))
    have e : ((p.1.toNat : Nat) : Rat) = (p.1 : Rat) := by
      rw [← natR]
      congr 1
      have := hr.1
      omega
    rw [e] at this
    exact this
end K02

namespace K02
open PySem PySem.Spec L2 Tv
/-! areas -/
theorem ar_rat (a : PP) : ar a = ((a.2.1 : Rat) - a.1.1) * ((a.1.2 : Rat) + a.2.2) / 2 := by
  unfold ar
  rw [Rat.mkRat_eq_div]
  push_cast
  rfl
def T : Kn → Rat → Rat
  | p :: q :: r, x => if x ≤ (q.1 : Rat) then (x - (p.1 : Rat)) * ((p.2 : Rat) + L p q x) / 2 else ar (p, q) + T (q :: r) x
  | _, _ => 0
theorem T_cons (p q : K2) (r : Kn) (x : Rat) : T (p :: q :: r) x = if x ≤ (q.1 : Rat) then (x - (p.1 : Rat)) * ((p.2 : Rat) + L p q x) / 2 else ar (p, q) + T (q :: r) x := rfl
theorem T_head : ∀ {r : Kn} {p : K2}, Chn (p :: r) → T (p :: r) (p.1 : Rat) = 0
  | [], p, _ => rfl
  | q :: r, p, h => by
    have l := cast_lt h.1
    rw [T_cons, if_pos (by grind)]
    grind
theorem T_tail {p q : K2} {r : Kn} (h : Chn (p :: q :: r)) {x : Rat} (hx : (q.1 : Rat) ≤ x) : T (p :: q :: r) x = ar (p, q) + T (q :: r) x := by
  rw [T_cons]
  by_cases c : x ≤ (q.1 : Rat)
  · have e : x = (q.1 : Rat) := Rat.le_antisymm c hx
    rw [if_pos c, e, T_head h.tail, L_end h.1, ar_rat]
    grind
  · rw [if_neg c]
theorem T_step : ∀ {r : Kn} {p : K2} {x : Int}, Chn (p :: r) → p.1 ≤ x → x < (lastP (p :: r)).1 → T (p :: r) ((x : Rat) + 1) = T (p :: r) (x : Rat) + (at_ (p :: r) (x : Rat) + at_ (p :: r) ((x : Rat) + 1)) / 2
  | [], p, x, _, h1, h2 => by
    have : x < p.1 := h2
    omega
  | q :: r, p, x, hc, h1, h2 => by
    have e1 : ((x + 1 : Int) : Rat) = (x : Rat) + 1 := by push_cast; rfl
    by_cases c : x < q.1
    · have b1 := cast_le (show x + 1 ≤ q.1 by omega)
      have b2 := cast_le (show x ≤ q.1 by omega)
      rw [e1] at b1
      rw [T_cons, if_pos b1, T_cons, if_pos b2, at_cons, if_pos b2, at_cons, if_pos b1]
      have s1 := L_sl (p, q) (x : Rat)
      have s2 := L_sl (p, q) ((x : Rat) + 1)
      dsimp only at s1 s2
      rw [s1, s2]
      grind
    · have b := cast_le (show q.1 ≤ x by omega)
      have b2 : (q.1 : Rat) ≤ (x : Rat) + 1 := by grind
      rw [T_tail hc b, T_tail hc b2, at_tail hc b, at_tail hc b2, T_step hc.tail (by omega) h2]
      grind
def Sm : List PP → Rat
  | [] => 0
  | a :: l => ar a + Sm l
theorem fold_sm : ∀ (l : List PP) (q : Rat), l.foldl (fun q a => q + ar a) q = q + Sm l
  | [], q => by
    show q = q + 0
    grind
  | a :: l, q => by
    rw [List.foldl_cons, fold_sm l]
    show _ = q + (ar a + Sm l)
    grind
theorem T_last : ∀ {r : Kn} {p : K2}, Chn (p :: r) → T (p :: r) ((lastP (p :: r)).1 : Rat) = Sm (prs (p :: r))
  | [], p, _ => rfl
  | q :: r, p, hc => by
    rw [lastP_cons, T_tail hc (cast_le (last_gt r q hc.tail)), T_last hc.tail]
    rfl
theorem Bd_sl {a : PP} (h : Pr a) : Bd 18 (sl a) := by
  obtain ⟨a1, a2, a3, a4, b1, b2, b3, b4, lt, le⟩ := h
  have := cast_lt lt
  exact Bd_div (Bd_d b3 b4 a3 a4) (Bd_d b1 b2 a1 a2) (by grind)
theorem Bd_L {a : PP} {x : Int} (h : Pr a) (h0 : 0 ≤ x) (h1 : x ≤ 255) : Bd 36 (L a.1 a.2 (x : Rat)) := by
  rw [L_sl]
  exact (Bd_add (Bd_r h.a3 h.a4) (Bd_mul (Bd_d h0 h1 h.a1 h.a2) (Bd_sl h))).mono
theorem two_half (q : Rat) : q / 2 = q * mkRat 1 2 := by
  rw [Rat.mkRat_eq_div]
  grind
theorem Bd_half {n : Nat} {q : Rat} (h : Bd n q) : Bd (n + 2) (q / 2) := by
  rw [two_half]
  refine Bd_mul h (Bd_mk (by omega) ?_ ?_)
  · show Int.natAbs 1 < 2 ^ 2
    decide
  · show Int.natAbs 2 < 2 ^ 2
    decide
theorem T_Bd : ∀ {r : Kn} {p : K2} {x : Int}, Chn (p :: r) → Rg (p :: r) → p.1 ≤ x → x ≤ 255 → ∃ (N : Int) (w : Rat), T (p :: r) (x : Rat) = mkRat N 2 + w ∧ 0 ≤ N ∧ N ≤ 510 * (255 - p.1) ∧ Bd 56 w
  | [], p, x, hc, hr, h1, h2 => by
    have := hr p List.mem_cons_self
    exact ⟨0, 0, by
      show (0 : Rat) = mkRat 0 2 + 0
      rw [Rat.zero_mkRat]
      grind, by omega, by omega, (Bd_nat (x := 0) (by omega)).mono⟩
  | q :: r, p, x, hc, hr, h1, h2 => by
    have hp := hr p List.mem_cons_self
    have hq := hr q (by simp)
    have pr : Pr (p, q) := ⟨hp.1, hp.2.1, hp.2.2.1, hp.2.2.2, hq.1, hq.2.1, hq.2.2.1, hq.2.2.2, hc.1, hc.2.1⟩
    by_cases c : x ≤ q.1
    · refine ⟨0, T (p :: q :: r) (x : Rat), ?_, by omega, by omega, ?_⟩
      · have : mkRat 0 2 = 0 := by decide
        rw [this]
        grind
      · rw [T_cons, if_pos (cast_le c)]
        have b1 := Bd_d (a := x) (b := p.1) (by omega) (by omega) hp.1 hp.2.1
        have b2 := Bd_L (x := x) pr (by omega) (by omega)
        exact (Bd_half (Bd_mul b1 (Bd_add (Bd_r hp.2.2.1 hp.2.2.2) b2))).mono
    · obtain ⟨N, w, e, n0, n1, hb⟩ := T_Bd (x := x) hc.tail hr.tail (by omega) h2
      have h3 := hc.1
      have m0 : 0 ≤ (q.1 - p.1) * (p.2 + q.2) := Int.mul_nonneg (by omega) (by omega)
      have m1 : (q.1 - p.1) * (p.2 + q.2) ≤ (q.1 - p.1) * 510 := Int.mul_le_mul_of_nonneg_left (by omega) (by omega)
      refine ⟨(q.1 - p.1) * (p.2 + q.2) + N, w, ?_, by omega, by omega, hb⟩
      rw [T_tail hc (cast_le (by omega)), e, ar_rat, Rat.mkRat_eq_div, Rat.mkRat_eq_div]
      push_cast
      grind
theorem Val.T_Bd {f : Kn} (v : Val f) {x : Nat} (hx : x ≤ 255) : Bd 75 (T f (x : Rat)) := by
  have hc := v.chn
  have hr := v.rg
  obtain ⟨y, r, rfl⟩ := v.x0
  obtain ⟨N, w, e, n0, n1, hb⟩ := K02.T_Bd (x := (x : Int)) hc hr (by show (0 : Int) ≤ x; omega) (by omega)
  rw [← natR, e]
  have n1 : N ≤ 510 * (255 - 0) := n1
  refine (Bd_add (a := 18) (Bd_mk (by omega) ?_ ?_) hb).mono
  · show N.natAbs < 2 ^ 18
    have : (2 : Nat) ^ 18 = 262144 := by decide
    omega
  · show Int.natAbs 2 < 2 ^ 18
    decide
theorem Val.T0 {f : Kn} (v : Val f) : T f 0 = 0 := by
  have hc := v.chn
  obtain ⟨y, r, rfl⟩ := v.x0
  exact T_head hc
theorem Val.T_step {f : Kn} (v : Val f) {x : Nat} (hx : x < 255) : T f ((x + 1 : Nat) : Rat) = T f (x : Rat) + (ai f x + ai f (x + 1)) / 2 := by
  have hc := v.chn
  have hl := v.xn
  obtain ⟨y, r, rfl⟩ := v.x0
  have := K02.T_step (x := (x : Int)) hc (by show (0 : Int) ≤ x; omega) (by omega)
  unfold ai
  rw [natR] at this
  have e : ((x + 1 : Nat) : Rat) = (x : Rat) + 1 := by push_cast; rfl
  rw [e]
  exact this
theorem Val.T_last {f : Kn} (v : Val f) : T f 255 = area f := by
  have hc := v.chn
  have hl := v.xn
  obtain ⟨y, r, rfl⟩ := v.x0
  have := K02.T_last hc
  rw [hl] at this
  unfold area
  rw [fold_sm]
  have e : T ((0, y) :: r) 255 = Sm (prs ((0, y) :: r)) := this
  rw [e]
  grind
theorem Val.ai_Bd {f : Kn} (v : Val f) {x : Nat} (hx : x ≤ 255) : Bd 36 (ai f x) := by
  unfold ai
  rw [← natR]
  obtain ⟨a, ha, a1, a2⟩ := v.cell (x := if x = 255 then 254 else (x : Int)) (by split <;> omega) (by split <;> omega)
  have hp := v.pr a ha
  have h1 : a.1.1 ≤ (x : Int) := by split at a1 <;> omega
  have h2 : (x : Int) ≤ a.2.1 := by split at a2 <;> omega
  rw [v.line ha (cast_le h1) (cast_le h2)]
  exact Bd_L hp (by omega) (by omega)
end K02

namespace K02
open PySem PySem.Spec L2 Tv
/-! ### (m7) where a value is taken -/
theorem cellR : ∀ {r : Kn} {p : K2} {z : Rat}, r ≠ [] → Chn (p :: r) → (p.1 : Rat) ≤ z → z ≤ ((lastP (p :: r)).1 : Rat) → ∃ a, a ∈ prs (p :: r) ∧ (a.1.1 : Rat) ≤ z ∧ z ≤ (a.2.1 : Rat)
  | [], _, _, h, _, _, _ => absurd rfl h
  | q :: r, p, z, _, hc, h1, h2 => by
    by_cases c : z ≤ (q.1 : Rat)
    · exact ⟨(p, q), List.mem_cons_self, h1, c⟩
    · cases r with
      | nil => exact absurd h2 c
      | cons q2 r =>
        obtain ⟨a, g1, g2, g3⟩ := cellR (by simp) hc.tail (by grind) h2
        exact ⟨a, List.mem_cons_of_mem _ g1, g2, g3⟩
theorem Val.cellR {f : Kn} (v : Val f) {z : Rat} (h0 : 0 ≤ z) (h1 : z ≤ 255) : ∃ a, a ∈ prs f ∧ (a.1.1 : Rat) ≤ z ∧ z ≤ (a.2.1 : Rat) := by
  have hl := v.xn
  have hc := v.chn
  have h2 := v.two
  obtain ⟨y, r, rfl⟩ := v.x0
  refine K02.cellR ?_ hc h0 ?_
  · rintro rfl
    simp at h2
  · rw [hl]
    exact h1
theorem pr_rat {a : PP} (h : Pr a) : (a.1.1 : Rat) < a.2.1 ∧ (a.1.2 : Rat) ≤ a.2.2 := ⟨cast_lt h.lt, cast_le h.le⟩
theorem L_crs {a : PP} {t : Rat} (h : Pr a) (hc : isC t a = true) : L a.1 a.2 (crs t a) = t ∧ (a.1.1 : Rat) ≤ crs t a ∧ crs t a ≤ (a.2.1 : Rat) := by
  obtain ⟨h1, h2⟩ := pr_rat h
  unfold isC at hc
  rw [Bool.and_eq_true, decide_eq_true_eq, decide_eq_true_eq] at hc
  obtain ⟨c1, c2⟩ := hc
  have n1 : (a.2.1 : Rat) - a.1.1 ≠ 0 := by grind
  have n2 : (a.2.2 : Rat) - a.1.2 ≠ 0 := by grind
  have hd : 0 < (a.2.2 : Rat) - a.1.2 := by grind
  have e : (t - (a.1.2 : Rat)) / ((a.2.2 : Rat) - a.1.2) * ((a.2.2 : Rat) - a.1.2) = t - a.1.2 := by grind
  have k0 : 0 ≤ (t - (a.1.2 : Rat)) / ((a.2.2 : Rat) - a.1.2) := by
    by_cases k : 0 ≤ (t - (a.1.2 : Rat)) / ((a.2.2 : Rat) - a.1.2)
    · exact k
    · have := Rat.mul_le_mul_of_nonneg_right (show (t - (a.1.2 : Rat)) / ((a.2.2 : Rat) - a.1.2) ≤ 0 by grind) (show 0 ≤ (a.2.2 : Rat) - a.1.2 by grind)
      grind
  have k1 : (t - (a.1.2 : Rat)) / ((a.2.2 : Rat) - a.1.2) ≤ 1 := by
    by_cases k : (t - (a.1.2 : Rat)) / ((a.2.2 : Rat) - a.1.2) ≤ 1
    · exact k
    · have := Rat.mul_le_mul_of_nonneg_right (show 1 ≤ (t - (a.1.2 : Rat)) / ((a.2.2 : Rat) - a.1.2) by grind) (show 0 ≤ (a.2.2 : Rat) - a.1.2 by grind)
      grind
  unfold crs
  generalize (t - (a.1.2 : Rat)) / ((a.2.2 : Rat) - a.1.2) = u at *
  have m1 := Rat.mul_le_mul_of_nonneg_right k0 (show 0 ≤ (a.2.1 : Rat) - a.1.1 by grind)
  have m2 := Rat.mul_le_mul_of_nonneg_right k1 (show 0 ≤ (a.2.1 : Rat) - a.1.1 by grind)
  refine ⟨?_, by grind, by grind⟩
  unfold L
  grind
theorem pre_val {f : Kn} {t x : Rat} (v : Val f) (h : x ∈ preL f t) : at_ f x = t ∧ 0 ≤ x ∧ x ≤ 255 := by
  rcases pre_cases h with ⟨p, hp, e, rfl⟩ | ⟨a, ha, hc, rfl⟩
  · have hr := v.rg p hp
    have g0 : (0 : Rat) ≤ (p.1 : Rat) := cast_le (a := 0) hr.1
    have g1 : (p.1 : Rat) ≤ 255 := cast_le (b := 255) hr.2.1
    refine ⟨?_, g0, g1⟩
    -- a knot: at the head of its rest
    have key : ∀ (ks : Kn), Chn ks → p ∈ ks → at_ ks (p.1 : Rat) = (p.2 : Rat) := by
      intro ks
      induction ks with
      | nil => intro _ h; cases h
      | cons q r ih =>
        intro hc hm
        rcases List.mem_cons.mp hm with rfl | hm
        · exact at_head _ _ hc
        · cases r with
          | nil => cases hm
          | cons q2 r =>
            have : q2.1 ≤ p.1 := by
              have key2 : ∀ (ks : Kn) (q : K2), Chn (q :: ks) → p ∈ q :: ks → q.1 ≤ p.1 := by
                intro ks
                induction ks with
                | nil => intro q _ h; rw [List.mem_singleton.mp h]; exact Int.le_refl _
                | cons w ws ih2 =>
                  intro q hc h
                  rcases List.mem_cons.mp h with rfl | h
                  · exact Int.le_refl _
                  · have := ih2 w hc.tail h
                    have := hc.1
                    omega
              exact key2 r q2 hc.tail hm
            rw [at_tail hc (cast_le this)]
            exact ih hc.tail hm
    rw [key f v.chn hp, e]
  · obtain ⟨e, h1, h2⟩ := L_crs (v.pr a ha) hc
    have hp := v.pr a ha
    have g0 : (0 : Rat) ≤ (a.1.1 : Rat) := cast_le (a := 0) hp.a1
    have g1 : (a.2.1 : Rat) ≤ 255 := cast_le (b := 255) hp.b2
    exact ⟨by rw [v.line ha h1 h2, e], by grind, by grind⟩
theorem sl_mul {a : PP} (h1 : (a.1.1 : Rat) < a.2.1) : sl a * ((a.2.1 : Rat) - a.1.1) = (a.2.2 : Rat) - a.1.2 := by
  have n1 : (a.2.1 : Rat) - a.1.1 ≠ 0 := by grind
  unfold sl
  grind
theorem sl_nn {a : PP} (h1 : (a.1.1 : Rat) < a.2.1) (h2 : (a.1.2 : Rat) ≤ a.2.2) : 0 ≤ sl a := by
  by_cases c : (a.1.2 : Rat) = a.2.2
  · have : sl a = 0 := by
      unfold sl
      rw [c]
      grind
    rw [this]
    exact Rat.le_refl
  · by_cases k : 0 ≤ sl a
    · exact k
    · have := Rat.mul_le_mul_of_nonneg_right (show sl a ≤ 0 by grind) (show 0 ≤ (a.2.1 : Rat) - a.1.1 by grind)
      rw [sl_mul h1] at this
      grind
theorem pre_of {f : Kn} {t z : Rat} (v : Val f) (h0 : 0 ≤ z) (h1 : z ≤ 255) (h : at_ f z = t) : ∃ x y, x ∈ preL f t ∧ y ∈ preL f t ∧ x ≤ z ∧ z ≤ y := by
  obtain ⟨a, ha, a1, a2⟩ := v.cellR h0 h1
  rw [v.line ha a1 a2] at h
  obtain ⟨l1, l2⟩ := pr_rat (v.pr a ha)
  obtain ⟨m1, m2⟩ := prs_in ha
  have n1 : (a.2.1 : Rat) - a.1.1 ≠ 0 := by grind
  by_cases c : (a.1.2 : Rat) = a.2.2
  · have e : (a.1.2 : Rat) = t := by
      unfold L at h
      grind
    exact ⟨_, _, knot_pre m1 e, knot_pre m2 (by rw [← c]; exact e), a1, a2⟩
  · have n2 : (a.2.2 : Rat) - a.1.2 ≠ 0 := by grind
    have ez : z = crs t a := by
      unfold crs
      unfold L at h
      grind
    by_cases c1 : (a.1.2 : Rat) = t
    · have : z = (a.1.1 : Rat) := by
        rw [ez]
        unfold crs
        grind
      exact ⟨_, _, knot_pre m1 c1, knot_pre m1 c1, by grind, by grind⟩
    · by_cases c2 : (a.2.2 : Rat) = t
      · have : z = (a.2.1 : Rat) := by
          rw [ez]
          unfold crs
          grind
        exact ⟨_, _, knot_pre m2 c2, knot_pre m2 c2, by grind, by grind⟩
      · have hc : isC t a = true := by
          unfold isC
          rw [Bool.and_eq_true, decide_eq_true_eq, decide_eq_true_eq]
          have s0 : 0 ≤ sl a := sl_nn l1 l2
          have q1 := Rat.mul_le_mul_of_nonneg_right (show (a.1.1 : Rat) - a.1.1 ≤ z - a.1.1 by grind) s0
          have q2 := Rat.mul_le_mul_of_nonneg_right (show z - (a.1.1 : Rat) ≤ (a.2.1 : Rat) - a.1.1 by grind) s0
          have q3 : ((a.2.1 : Rat) - a.1.1) * sl a = (a.2.2 : Rat) - a.1.2 := by
            rw [Rat.mul_comm]
            exact sl_mul l1
          rw [L_sl] at h
          have q4 : ((a.1.1 : Rat) - a.1.1) * sl a = 0 := by grind
          rw [q4] at q1
          rw [q3] at q2
          generalize (z - (a.1.1 : Rat)) * sl a = w at *
          clear ez q3 q4 s0 n1 n2
          constructor
          · grind
          · grind
        exact ⟨_, _, crs_pre ha hc, crs_pre ha hc, by grind, by grind⟩
theorem at_mono : ∀ (r : Kn) (p : K2) {z w : Rat}, Chn (p :: r) → (p.1 : Rat) ≤ z → z ≤ w → at_ (p :: r) z ≤ at_ (p :: r) w
  | [], p, z, w, _, _, _ => Rat.le_refl
  | q :: r, p, z, w, hc, h1, h2 => by
    have s := sl_nn (a := (p, q)) (cast_lt hc.1) (cast_le hc.2.1)
    have mono : ∀ {z w : Rat}, z ≤ w → L p q z ≤ L p q w := fun {z w} h => by
      have e1 := L_sl (p, q) z
      have e2 := L_sl (p, q) w
      have := Rat.mul_le_mul_of_nonneg_right (show z - (p.1 : Rat) ≤ w - p.1 by grind) s
      dsimp only at e1 e2
      rw [e1, e2]
      grind
    by_cases c2 : w ≤ (q.1 : Rat)
    · rw [at_cons, if_pos (by grind), at_cons, if_pos c2]
      exact mono h2
    · rw [at_tail hc (by grind : (q.1 : Rat) ≤ w)]
      have hw := at_mono r q (z := (q.1 : Rat)) (w := w) hc.tail Rat.le_refl (by grind)
      by_cases c1 : z ≤ (q.1 : Rat)
      · have := mono c1
        rw [L_end hc.1] at this
        rw [at_head q r hc.tail] at hw
        rw [at_cons, if_pos c1]
        grind
      · rw [at_tail hc (by grind)]
        exact at_mono r q hc.tail (by grind) h2
theorem Val.mono {f : Kn} (v : Val f) {z w : Rat} (h0 : 0 ≤ z) (h : z ≤ w) : at_ f z ≤ at_ f w := by
  have hc := v.chn
  obtain ⟨y, r, rfl⟩ := v.x0
  exact at_mono r (0, y) hc h0 h
end K02

namespace K02
open PySem PySem.Spec L2 Tv
local macro_rules | `(tactic| get_elem_tactic_extensible) => `(tactic| simp only [v_var, v_varB, v_c, v_op, v_un, v_nil, v_cons, v_tup, v_lst, v_test, v_and, v_or, v_not, v_if, v_andV, v_orV, v_notV, v_chain, v_call, v_callF, v_callV, v_isi, v_slice, v_comp, unowned, List.all_cons, List.all_nil, wipeR, and_true, true_and, and_false, false_and, Int.cast_ofNat_Int, v_part, v_noPart, v_fld, v_yes, v_seqI, v_rng1, v_rng2, v_enumI, v_zipI, v_next, v_seq, v_set, v_setO, v_drop, v_ret, v_retN, v_brk, v_cnt, v_ifS, v_frz, v_while, v_for, v_meth, v_setIx, v_cell, v_aug, v_pt, v_par, v_setF, v_fun, v_ne_ok, v_loopF_nil, v_compF_nil,
  w_add, Tv.w_sub, w_lt, w_le, w_gt, w_ge, w_neg, w_eqI, w_neI, w_eqB, w_neB, w_is, w_isNot, w_ix20, w_ix21, w_lenT, w_lenL, w_lenZ, w_abs, w_int, w_min, w_max, w_tupT, w_tupL, w_tupZ, kT_int, kT_bl, kT_non, kT_str, kT_tup, kT_lst, k2, Tv.isNon, Pt.run, Pts.run, setM, ownL, baseOk, seqV,
  List.map_cons, List.map_nil, List.cons_append, List.nil_append, List.append_nil, List.replicate_zero, List.replicate_succ, List.length_cons, List.length_nil, List.getElem?_cons_zero, List.getElem?_cons_succ, List.getElem?_nil, List.set_cons_zero, List.set_cons_succ, List.set_nil, Option.some.injEq, ↓reduceIte, reduceCtorEq, decide_true, decide_false, decide_eq_true_eq, Bool.not_true, Bool.not_false, Bool.false_eq_true, Bool.and_true, Bool.true_and, Bool.or_false, Bool.false_or, Bool.or_true, Bool.true_or, Bool.and_false, Bool.false_and, if_true, if_false, String.reduceEq, or_false, or_true, false_or, true_or, Int.reduceLE, Int.reduceLT, Int.reduceNeg, Int.reduceToNat, Int.reduceAdd, Nat.reduceAdd, Nat.reduceLT, Int.reduceSub, Int.reduceMul, Int.reduceEq, Nat.reduceEqDiff, Int.zero_sub, BEq.rfl])
local macro_rules | `(tactic| decreasing_trivial) => `(tactic| simp only [v_var, v_varB, v_c, v_op, v_un, v_nil, v_cons, v_tup, v_lst, v_test, v_and, v_or, v_not, v_if, v_andV, v_orV, v_notV, v_chain, v_call, v_callF, v_callV, v_isi, v_slice, v_comp, unowned, List.all_cons, List.all_nil, wipeR, and_true, true_and, and_false, false_and, Int.cast_ofNat_Int, v_part, v_noPart, v_fld, v_yes, v_seqI, v_rng1, v_rng2, v_enumI, v_zipI, v_next, v_seq, v_set, v_setO, v_drop, v_ret, v_retN, v_brk, v_cnt, v_ifS, v_frz, v_while, v_for, v_meth, v_setIx, v_cell, v_aug, v_pt, v_par, v_setF, v_fun, v_ne_ok, v_loopF_nil, v_compF_nil,
  w_add, Tv.w_sub, w_lt, w_le, w_gt, w_ge, w_neg, w_eqI, w_neI, w_eqB, w_neB, w_is, w_isNot, w_ix20, w_ix21, w_lenT, w_lenL, w_lenZ, w_abs, w_int, w_min, w_max, w_tupT, w_tupL, w_tupZ, kT_int, kT_bl, kT_non, kT_str, kT_tup, kT_lst, k2, Tv.isNon, Pt.run, Pts.run, setM, ownL, baseOk, seqV,
  List.map_cons, List.map_nil, List.cons_append, List.nil_append, List.append_nil, List.replicate_zero, List.replicate_succ, List.length_cons, List.length_nil, List.getElem?_cons_zero, List.getElem?_cons_succ, List.getElem?_nil, List.set_cons_zero, List.set_cons_succ, List.set_nil, Option.some.injEq, ↓reduceIte, reduceCtorEq, decide_true, decide_false, decide_eq_true_eq, Bool.not_true, Bool.not_false, Bool.false_eq_true, Bool.and_true, Bool.true_and, Bool.or_false, Bool.false_or, Bool.or_true, Bool.true_or, Bool.and_false, Bool.false_and, if_true, if_false, String.reduceEq, or_false, or_true, false_or, true_or, Int.reduceLE, Int.reduceLT, Int.reduceNeg, Int.reduceToNat, Int.reduceAdd, Nat.reduceAdd, Nat.reduceLT, Int.reduceSub, Int.reduceMul, Int.reduceEq, Nat.reduceEqDiff, Int.zero_sub, BEq.rfl, *])

variable {a0 a1 a2 a3 a4 a5 a6 a7 a8 a9 a10 a11 a12 a13 a14 a15 a16 a17 a18 a19 a20 a21 a22 a23 a24 a25 a26 a27 a28 a29 : SD}
theorem loopF_nx {pm : Pt} {b : SM} {d : D} {ds : List D} {ρ ρ1 ρ' : List SD} {s s' : S} (h : pm.run d ρ = some ρ1) (hb : b ρ1 s = .nx ρ' s') : loopF pm b (d :: ds) ρ s = loopF pm b ds ρ' s' := by
  rw [v_loopF, h]
  dsimp only
  rw [hb]
theorem plb_fr (n : Nat) (q : Rat) : plb (n + 1) (fr q) = true := by
  unfold fr plb
  cases n <;> rfl
theorem law1_turn {ns : List Int} {f : Kn} {s : S} (v : Val f) (r : Rw ns s) : ∃ (t : Rat) (s' : S), l_law_1 [a0, .v (.cell 0), a2, .v (kD f), .v (cD f), a5, a6, a7, a8, a9, a10, a11, a12, a13, a14, a15, a16, a17, a18, a19, a20, a21, a22, a23, a24, a25, a26, a27, a28, a29] s = .nx [a0, .v (.cell 0), a2, .v (kD f), .v (cD f), a5, a6, .v (fr t), a8, a9, a10, a11, a12, a13, a14, a15, a16, a17, a18, a19, a20, a21, a22, a23, a24, a25, a26, a27, a28, a29] s' ∧ Rw ns s' := by
  obtain ⟨t, s', e1, b1, t0, t1, r1⟩ := t_level r
  have e2 := fun s => t_value_at (s := s) v b1 (by omega) t0 t1
  have e3 := fun s => t_lcurve (s := s) v.chn v.rg v.two (by have := v.most; omega) (xn v t1) b1 (by omega)
  have e4 := fun s => t_alike 3 (fr (at_ f t)) s (plb_fr 2 _)
  refine ⟨t, s', ?_, r1⟩
  unfold l_law_1
  clear v r r1 b1 t0 t1
  decreasing_trivial
theorem law1_loop {ns : List Int} {f : Kn} (v : Val f) : ∀ (ds : List D) {a6 a7 : SD} {s : S}, Rw ns s → ∃ (b6 b7 : SD) (s' : S), loopF (.nm 6) l_law_1 ds [a0, .v (.cell 0), a2, .v (kD f), .v (cD f), a5, a6, a7, a8, a9, a10, a11, a12, a13, a14, a15, a16, a17, a18, a19, a20, a21, a22, a23, a24, a25, a26, a27, a28, a29] s = .nx [a0, .v (.cell 0), a2, .v (kD f), .v (cD f), a5, b6, b7, a8, a9, a10, a11, a12, a13, a14, a15, a16, a17, a18, a19, a20, a21, a22, a23, a24, a25, a26, a27, a28, a29] s' ∧ Rw ns s' ∧ (ds ≠ [] → ∃ d, b6 = .v d)
  | [], a6, a7, s, r => ⟨a6, a7, s, rfl, r, fun h => absurd rfl h⟩
  | d :: ds, a6, a7, s, r => by
    obtain ⟨t, s1, e1, r1⟩ := law1_turn (a0 := a0) (a2 := a2) (a5 := a5) (a6 := .v d) (a7 := a7) (a8 := a8) (a9 := a9) (a10 := a10) (a11 := a11) (a12 := a12) (a13 := a13) (a14 := a14) (a15 := a15) (a16 := a16) (a17 := a17) (a18 := a18) (a19 := a19) (a20 := a20) (a21 := a21) (a22 := a22) (a23 := a23) (a24 := a24) (a25 := a25) (a26 := a26) (a27 := a27) (a28 := a28) (a29 := a29) v r
    obtain ⟨b6, b7, s', e2, r2, h2⟩ := law1_loop v ds (a6 := .v d) (a7 := .v (fr t)) r1
    refine ⟨b6, b7, s', ?_, r2, fun _ => ?_⟩
    · rw [loopF_nx rfl e1]
      exact e2
    · cases ds with
      | nil =>
        cases e2
        exact ⟨d, rfl⟩
      | cons x y => exact h2 (by simp)
/-! the values at whole places -/
def vals (f : Kn) : List D := r256.map fun x => fr (ai f x)
theorem t_lcurve_x {f : Kn} {x : Nat} {s : S} (v : Val f) (h : x ≤ 255) : F__law_curve_at [kD f, .tup [.int (x : Int), .int 1]] s = .ok (fr (ai f x)) s := by
  rw [frN]
  exact t_lcurve v.chn v.rg v.two (by have := v.most; omega) (xn v (nat_le h)) (Bd_nat h) (by omega)
theorem vals_ix {f : Kn} {x : Nat} {s : S} (h : x ≤ 255) : gIx (.lst (vals f)) (.int (x : Int)) s = .ok (fr (ai f x)) s := ixL (atI_get (by
  unfold vals
  rw [List.getElem?_map, List.getElem?_range (by omega)]
  rfl))
theorem comp1 {f : Kn} {s : S} (v : Val f) : compF (.nm 18) mYes e_law_1 [a0, a1, a2, .v (kD f), a4, a5, a6, a7, a8, a9, a10, a11, a12, a13, a14, a15, a16, a17, .un, a19, a20, a21, a22, a23, a24, a25, a26, a27, a28, a29] (rngD 0 256) s = .ok (vals f) s := by
  rw [rng256', compF_mapL _ (fun x => fr (ai f x)) r256 fun x hx => ⟨[a0, a1, a2, .v (kD f), a4, a5, a6, a7, a8, a9, a10, a11, a12, a13, a14, a15, a16, a17, .v (.int (0 + (x : Int))), a19, a20, a21, a22, a23, a24, a25, a26, a27, a28, a29], rfl, ?_⟩]
  · rfl
  · have hx : x ≤ 255 := by have := List.mem_range.mp hx; omega
    have e1 := fun s => t_lcurve_x (s := s) v hx
    rw [Int.zero_add]
    unfold e_law_1
    clear v hx
    decreasing_trivial
theorem comp2 {f : Kn} {s : S} (v : Val f) : compF (.nm 18) mYes e_law_2 [a0, a1, a2, a3, a4, a5, a6, a7, a8, a9, a10, a11, .v (kD f), a13, a14, a15, a16, a17, .un, a19, a20, a21, a22, a23, a24, a25, a26, a27, a28, a29] (rngD 0 256) s = .ok (vals f) s := by
  rw [rng256', compF_mapL _ (fun x => fr (ai f x)) r256 fun x hx => ⟨[a0, a1, a2, a3, a4, a5, a6, a7, a8, a9, a10, a11, .v (kD f), a13, a14, a15, a16, a17, .v (.int (0 + (x : Int))), a19, a20, a21, a22, a23, a24, a25, a26, a27, a28, a29], rfl, ?_⟩]
  · rfl
  · have hx : x ≤ 255 := by have := List.mem_range.mp hx; omega
    have e1 := fun s => t_lcurve_x (s := s) v hx
    rw [Int.zero_add]
    unfold e_law_2
    clear v hx
    decreasing_trivial
/-- the unlike places -/
theorem comp3 {f g : Kn} {s : S} : compF (.nm 18) t_law_1 (mVar 18) [a0, a1, a2, a3, a4, .v (.lst (vals f)), a6, a7, a8, a9, a10, a11, a12, .v (.lst (vals g)), a14, a15, a16, a17, .un, a19, a20, a21, a22, a23, a24, a25, a26, a27, a28, a29] (rngD 0 256) s = .ok ((r256.filter (nq f g)).map fun x : Nat => D.int (x : Int)) s := by
  rw [rng256', compF_filL _ (nq f g) (fun x : Nat => D.int (x : Int)) r256 fun x hx => ⟨[a0, a1, a2, a3, a4, .v (.lst (vals f)), a6, a7, a8, a9, a10, a11, a12, .v (.lst (vals g)), a14, a15, a16, a17, .v (.int (0 + (x : Int))), a19, a20, a21, a22, a23, a24, a25, a26, a27, a28, a29], rfl, ?_, fun _ => ?_⟩]
  · have hx : x ≤ 255 := by have := List.mem_range.mp hx; omega
    have e1 := fun s => vals_ix (f := f) (s := s) hx
    have e2 := fun s => vals_ix (f := g) (s := s) hx
    have e3 := fun s => w_neF (p := ai g x) (q := ai f x) (s := s)
    have e4 : (!decide (ai g x = ai f x)) = nq f g x := by
      unfold nq
      congr 1
      exact decide_eq_decide.mpr eq_comm
    rw [e4] at e3
    rw [Int.zero_add]
    unfold t_law_1
    clear hx e4
    decreasing_trivial
  · rw [Int.zero_add]
    rfl
end K02

namespace K02
open PySem PySem.Spec L2 Tv
local macro_rules | `(tactic| get_elem_tactic_extensible) => `(tactic| simp only [v_var, v_varB, v_c, v_op, v_un, v_nil, v_cons, v_tup, v_lst, v_test, v_and, v_or, v_not, v_if, v_andV, v_orV, v_notV, v_chain, v_call, v_callF, v_callV, v_isi, v_slice, v_comp, unowned, List.all_cons, List.all_nil, wipeR, and_true, true_and, and_false, false_and, Int.cast_ofNat_Int, v_part, v_noPart, v_fld, v_yes, v_seqI, v_rng1, v_rng2, v_enumI, v_zipI, v_next, v_seq, v_set, v_setO, v_drop, v_ret, v_retN, v_brk, v_cnt, v_ifS, v_frz, v_while, v_for, v_meth, v_setIx, v_cell, v_aug, v_pt, v_par, v_setF, v_fun, v_ne_ok, v_loopF_nil, v_compF_nil,
  w_add, Tv.w_sub, w_lt, w_le, w_gt, w_ge, w_neg, w_eqI, w_neI, w_eqB, w_neB, w_is, w_isNot, w_ix20, w_ix21, w_lenT, w_lenL, w_lenZ, w_abs, w_int, w_min, w_max, w_tupT, w_tupL, w_tupZ, kT_int, kT_bl, kT_non, kT_str, kT_tup, kT_lst, k2, Tv.isNon, Pt.run, Pts.run, setM, ownL, baseOk, seqV,
  List.map_cons, List.map_nil, List.cons_append, List.nil_append, List.append_nil, List.replicate_zero, List.replicate_succ, List.length_cons, List.length_nil, List.getElem?_cons_zero, List.getElem?_cons_succ, List.getElem?_nil, List.set_cons_zero, List.set_cons_succ, List.set_nil, Option.some.injEq, ↓reduceIte, reduceCtorEq, decide_true, decide_false, decide_eq_true_eq, Bool.not_true, Bool.not_false, Bool.false_eq_true, Bool.and_true, Bool.true_and, Bool.or_false, Bool.false_or, Bool.or_true, Bool.true_or, Bool.and_false, Bool.false_and, if_true, if_false, String.reduceEq, or_false, or_true, false_or, true_or, Int.reduceLE, Int.reduceLT, Int.reduceNeg, Int.reduceToNat, Int.reduceAdd, Nat.reduceAdd, Nat.reduceLT, Int.reduceSub, Int.reduceMul, Int.reduceEq, Nat.reduceEqDiff, Int.zero_sub, BEq.rfl])
local macro_rules | `(tactic| decreasing_trivial) => `(tactic| simp only [v_var, v_varB, v_c, v_op, v_un, v_nil, v_cons, v_tup, v_lst, v_test, v_and, v_or, v_not, v_if, v_andV, v_orV, v_notV, v_chain, v_call, v_callF, v_callV, v_isi, v_slice, v_comp, unowned, List.all_cons, List.all_nil, wipeR, and_true, true_and, and_false, false_and, Int.cast_ofNat_Int, v_part, v_noPart, v_fld, v_yes, v_seqI, v_rng1, v_rng2, v_enumI, v_zipI, v_next, v_seq, v_set, v_setO, v_drop, v_ret, v_retN, v_brk, v_cnt, v_ifS, v_frz, v_while, v_for, v_meth, v_setIx, v_cell, v_aug, v_pt, v_par, v_setF, v_fun, v_ne_ok, v_loopF_nil, v_compF_nil,
  w_add, Tv.w_sub, w_lt, w_le, w_gt, w_ge, w_neg, w_eqI, w_neI, w_eqB, w_neB, w_is, w_isNot, w_ix20, w_ix21, w_lenT, w_lenL, w_lenZ, w_abs, w_int, w_min, w_max, w_tupT, w_tupL, w_tupZ, kT_int, kT_bl, kT_non, kT_str, kT_tup, kT_lst, k2, Tv.isNon, Pt.run, Pts.run, setM, ownL, baseOk, seqV,
  List.map_cons, List.map_nil, List.cons_append, List.nil_append, List.append_nil, List.replicate_zero, List.replicate_succ, List.length_cons, List.length_nil, List.getElem?_cons_zero, List.getElem?_cons_succ, List.getElem?_nil, List.set_cons_zero, List.set_cons_succ, List.set_nil, Option.some.injEq, ↓reduceIte, reduceCtorEq, decide_true, decide_false, decide_eq_true_eq, Bool.not_true, Bool.not_false, Bool.false_eq_true, Bool.and_true, Bool.true_and, Bool.or_false, Bool.false_or, Bool.or_true, Bool.true_or, Bool.and_false, Bool.false_and, if_true, if_false, String.reduceEq, or_false, or_true, false_or, true_or, Int.reduceLE, Int.reduceLT, Int.reduceNeg, Int.reduceToNat, Int.reduceAdd, Nat.reduceAdd, Nat.reduceLT, Int.reduceSub, Int.reduceMul, Int.reduceEq, Nat.reduceEqDiff, Int.zero_sub, BEq.rfl, *])

variable {a0 a1 a2 a3 a4 a5 a6 a7 a8 a9 a10 a11 a12 a13 a14 a15 a16 a17 a18 a19 a20 a21 a22 a23 a24 a25 a26 a27 a28 a29 : SD}
theorem fr_abs (q : Rat) : D.tup [.int ((q.num.natAbs : Nat) : Int), .int (q.den : Int)] = fr (ab q) := by
  unfold ab
  split
  · unfold fr
    congr 3
    omega
  · unfold fr
    rw [Rat.neg_num, Rat.neg_den]
    congr 3
    omega
def hd3 (f g : Kn) (x : Nat) : Rat := ab (ai f x - ai g x)
theorem Bd_hd3 {f g : Kn} (vf : Val f) (vg : Val g) {x : Nat} (hx : x ≤ 255) : Bd 73 (hd3 f g x) := Bd_ab (Bd_sub (vf.ai_Bd hx) (vg.ai_Bd hx))
theorem law3_turn {f g : Kn} {q : Rat} {x : Nat} {s : S} (vf : Val f) (vg : Val g) (hx : x ≤ 255) (hq : Bd 73 q) : l_law_3 [a0, a1, a2, a3, a4, .v (.lst (vals f)), a6, a7, a8, a9, a10, a11, a12, .v (.lst (vals g)), a14, .v (fr q), a16, a17, .v (.int (x : Int)), a19, a20, a21, a22, a23, a24, a25, a26, a27, a28, a29] s = .nx [a0, a1, a2, a3, a4, .v (.lst (vals f)), a6, a7, a8, a9, a10, a11, a12, .v (.lst (vals g)), a14, .v (fr (mx q (hd3 f g x))), a16, a17, .v (.int (x : Int)), .v (fr (hd3 f g x)), a20, a21, a22, a23, a24, a25, a26, a27, a28, a29] s := by
  have e1 := fun s => vals_ix (f := f) (s := s) hx
  have e2 := fun s => vals_ix (f := g) (s := s) hx
  have e3 := fun s => t_lsub (s := s) (vf.ai_Bd hx) (vg.ai_Bd hx)
  have i0 : ∀ (q : Rat) s, gIx (fr q) (.int 0) s = .ok (.int q.num) s := fun _ _ => rfl
  have i1 : ∀ (q : Rat) s, gIx (fr q) (.int 1) s = .ok (.int (q.den : Int)) s := fun _ _ => rfl
  have e4 := fr_abs (ai f x - ai g x)
  have e5 := fun s => t_llt (s := s) hq (Bd_hd3 vf vg hx)
  unfold l_law_3
  unfold mx
  unfold hd3 at *
  clear vf vg hx hq
  by_cases c : q < ab (ai f x - ai g x)
  · rw [decide_eq_true c] at e5
    rw [if_pos c]
    clear c
    decreasing_trivial
  · rw [decide_eq_false c] at e5
    rw [if_neg c]
    clear c
    decreasing_trivial
theorem law3_loop {f g : Kn} {s : S} (vf : Val f) (vg : Val g) : ∀ (l : List Nat) {q : Rat} {a18 a19 : SD}, (∀ x, x ∈ l → x ≤ 255) → Bd 73 q → ∃ (b18 b19 : SD), loopF (.nm 18) l_law_3 (l.map fun k : Nat => D.int (0 + (k : Int))) [a0, a1, a2, a3, a4, .v (.lst (vals f)), a6, a7, a8, a9, a10, a11, a12, .v (.lst (vals g)), a14, .v (fr q), a16, a17, a18, a19, a20, a21, a22, a23, a24, a25, a26, a27, a28, a29] s = .nx [a0, a1, a2, a3, a4, .v (.lst (vals f)), a6, a7, a8, a9, a10, a11, a12, .v (.lst (vals g)), a14, .v (fr (l.foldl (fun q x => mx q (hd3 f g x)) q)), a16, a17, b18, b19, a20, a21, a22, a23, a24, a25, a26, a27, a28, a29] s ∧ (l ≠ [] → ∃ d, b18 = .v d)
  | [], q, a18, a19, _, _ => ⟨a18, a19, rfl, fun h => absurd rfl h⟩
  | x :: l, q, a18, a19, hl, hq => by
    have hx := hl x List.mem_cons_self
    have e1 := law3_turn (a0 := a0) (a1 := a1) (a2 := a2) (a3 := a3) (a4 := a4) (a6 := a6) (a7 := a7) (a8 := a8) (a9 := a9) (a10 := a10) (a11 := a11) (a12 := a12) (a14 := a14) (a16 := a16) (a17 := a17) (a19 := a19) (a20 := a20) (a21 := a21) (a22 := a22) (a23 := a23) (a24 := a24) (a25 := a25) (a26 := a26) (a27 := a27) (a28 := a28) (a29 := a29) (s := s) (q := q) vf vg hx hq
    obtain ⟨b18, b19, e2, h2⟩ := law3_loop vf vg l (q := mx q (hd3 f g x)) (a18 := .v (.int (x : Int))) (a19 := .v (fr (hd3 f g x))) (fun y hy => hl y (List.mem_cons_of_mem _ hy)) (mx_Bd hq (Bd_hd3 vf vg hx))
    refine ⟨b18, b19, ?_, fun _ => ?_⟩
    · rw [List.map_cons, Int.zero_add, loopF_nx rfl e1]
      exact e2
    · cases l with
      | nil =>
        cases e2
        exact ⟨_, rfl⟩
      | cons y z => exact h2 (by simp)
theorem law5_turn {f : Kn} {x : Nat} {s : S} (v : Val f) (hx : x < 255) : l_law_5 [a0, a1, a2, a3, a4, .v (.lst (vals f)), a6, a7, a8, a9, a10, a11, a12, a13, a14, a15, a16, .v (fr (T f (x : Rat))), .v (.int (x : Int)), a19, a20, a21, a22, a23, a24, a25, a26, a27, a28, a29] s = .nx [a0, a1, a2, a3, a4, .v (.lst (vals f)), a6, a7, a8, a9, a10, a11, a12, a13, a14, a15, a16, .v (fr (T f ((x + 1 : Nat) : Rat))), .v (.int (x : Int)), a19, a20, a21, a22, a23, a24, a25, a26, a27, a28, a29] s := by
  have e1 := fun s => vals_ix (f := f) (x := x) (s := s) (by omega)
  have e2 := fun s => vals_ix (f := f) (x := x + 1) (s := s) (by omega)
  have ec : ((x + 1 : Nat) : Int) = (x : Int) + 1 := by push_cast; rfl
  rw [ec] at e2
  have b1 := Bd_add (v.ai_Bd (x := x) (by omega)) (v.ai_Bd (x := x + 1) (by omega))
  have b2 : Bd 2 (2 : Rat) := ⟨by show Int.natAbs 2 < 2 ^ 2; decide, by show 1 < 2 ^ 2; decide⟩
  have b3 := v.T_Bd (x := x) (by omega)
  have e3 := fun s => t_ladd (s := s) (v.ai_Bd (x := x) (by omega)) (v.ai_Bd (x := x + 1) (by omega))
  have e4 := fun s => t_ldiv (s := s) b1 b2 (by decide)
  have e5 := fun s => t_ladd (s := s) b3 (Bd_half b1)
  have e6 : D.tup [.int 2, .int 1] = fr 2 := rfl
  rw [v.T_step hx]
  unfold l_law_5
  clear v hx b1 b2 b3 ec
  decreasing_trivial
theorem law5_loop {f : Kn} {s : S} (v : Val f) : ∀ (m k : Nat) {a18 : SD}, k + m = 255 → ∃ (b18 : SD), loopF (.nm 18) l_law_5 ((List.range' k m).map fun k : Nat => D.int (0 + (k : Int))) [a0, a1, a2, a3, a4, .v (.lst (vals f)), a6, a7, a8, a9, a10, a11, a12, a13, a14, a15, a16, .v (fr (T f (k : Rat))), a18, a19, a20, a21, a22, a23, a24, a25, a26, a27, a28, a29] s = .nx [a0, a1, a2, a3, a4, .v (.lst (vals f)), a6, a7, a8, a9, a10, a11, a12, a13, a14, a15, a16, .v (fr (area f)), b18, a19, a20, a21, a22, a23, a24, a25, a26, a27, a28, a29] s ∧ (m ≠ 0 → ∃ d, b18 = .v d)
  | 0, k, a18, h => ⟨a18, by
      have : k = 255 := by omega
      subst this
      rw [show ((255 : Nat) : Rat) = 255 from rfl, v.T_last]
      rfl, fun h => absurd rfl h⟩
  | m + 1, k, a18, h => by
    have e1 := law5_turn (a0 := a0) (a1 := a1) (a2 := a2) (a3 := a3) (a4 := a4) (a6 := a6) (a7 := a7) (a8 := a8) (a9 := a9) (a10 := a10) (a11 := a11) (a12 := a12) (a13 := a13) (a14 := a14) (a15 := a15) (a16 := a16) (a19 := a19) (a20 := a20) (a21 := a21) (a22 := a22) (a23 := a23) (a24 := a24) (a25 := a25) (a26 := a26) (a27 := a27) (a28 := a28) (a29 := a29) (s := s) v (show k < 255 by omega)
    obtain ⟨b18, e2, h2⟩ := law5_loop v m (k + 1) (a18 := .v (.int (k : Int))) (by omega)
    refine ⟨b18, ?_, fun _ => ?_⟩
    · rw [List.range'_succ, List.map_cons, Int.zero_add, loopF_nx rfl e1]
      exact e2
    · cases m with
      | zero =>
        have h : some (SD.v (.int (k : Int))) = some b18 := congrArg (fun r => match r with | SR.nx ρ _ => (ρ[18]? : Option SD) | _ => none) e2
        exact ⟨_, (Option.some.inj h).symm⟩
      | succ m => exact h2 (by omega)
end K02

namespace K02
open PySem PySem.Spec L2 Tv
local macro_rules | `(tactic| get_elem_tactic_extensible) => `(tactic| simp only [v_var, v_varB, v_c, v_op, v_un, v_nil, v_cons, v_tup, v_lst, v_test, v_and, v_or, v_not, v_if, v_andV, v_orV, v_notV, v_chain, v_call, v_callF, v_callV, v_isi, v_slice, v_comp, unowned, List.all_cons, List.all_nil, wipeR, and_true, true_and, and_false, false_and, Int.cast_ofNat_Int, v_part, v_noPart, v_fld, v_yes, v_seqI, v_rng1, v_rng2, v_enumI, v_zipI, v_next, v_seq, v_set, v_setO, v_drop, v_ret, v_retN, v_brk, v_cnt, v_ifS, v_frz, v_while, v_for, v_meth, v_setIx, v_cell, v_aug, v_pt, v_par, v_setF, v_fun, v_ne_ok, v_loopF_nil, v_compF_nil,
  w_add, Tv.w_sub, w_lt, w_le, w_gt, w_ge, w_neg, w_eqI, w_neI, w_eqB, w_neB, w_is, w_isNot, w_ix20, w_ix21, w_lenT, w_lenL, w_lenZ, w_abs, w_int, w_min, w_max, w_tupT, w_tupL, w_tupZ, kT_int, kT_bl, kT_non, kT_str, kT_tup, kT_lst, k2, Tv.isNon, Pt.run, Pts.run, setM, ownL, baseOk, seqV,
  List.map_cons, List.map_nil, List.cons_append, List.nil_append, List.append_nil, List.replicate_zero, List.replicate_succ, List.length_cons, List.length_nil, List.getElem?_cons_zero, List.getElem?_cons_succ, List.getElem?_nil, List.set_cons_zero, List.set_cons_succ, List.set_nil, Option.some.injEq, ↓reduceIte, reduceCtorEq, decide_true, decide_false, decide_eq_true_eq, Bool.not_true, Bool.not_false, Bool.false_eq_true, Bool.and_true, Bool.true_and, Bool.or_false, Bool.false_or, Bool.or_true, Bool.true_or, Bool.and_false, Bool.false_and, if_true, if_false, String.reduceEq, or_false, or_true, false_or, true_or, Int.reduceLE, Int.reduceLT, Int.reduceNeg, Int.reduceToNat, Int.reduceAdd, Nat.reduceAdd, Nat.reduceLT, Int.reduceSub, Int.reduceMul, Int.reduceEq, Nat.reduceEqDiff, Int.zero_sub, BEq.rfl])
local macro_rules | `(tactic| decreasing_trivial) => `(tactic| simp only [v_var, v_varB, v_c, v_op, v_un, v_nil, v_cons, v_tup, v_lst, v_test, v_and, v_or, v_not, v_if, v_andV, v_orV, v_notV, v_chain, v_call, v_callF, v_callV, v_isi, v_slice, v_comp, unowned, List.all_cons, List.all_nil, wipeR, and_true, true_and, and_false, false_and, Int.cast_ofNat_Int, v_part, v_noPart, v_fld, v_yes, v_seqI, v_rng1, v_rng2, v_enumI, v_zipI, v_next, v_seq, v_set, v_setO, v_drop, v_ret, v_retN, v_brk, v_cnt, v_ifS, v_frz, v_while, v_for, v_meth, v_setIx, v_cell, v_aug, v_pt, v_par, v_setF, v_fun, v_ne_ok, v_loopF_nil, v_compF_nil,
  w_add, Tv.w_sub, w_lt, w_le, w_gt, w_ge, w_neg, w_eqI, w_neI, w_eqB, w_neB, w_is, w_isNot, w_ix20, w_ix21, w_lenT, w_lenL, w_lenZ, w_abs, w_int, w_min, w_max, w_tupT, w_tupL, w_tupZ, kT_int, kT_bl, kT_non, kT_str, kT_tup, kT_lst, k2, Tv.isNon, Pt.run, Pts.run, setM, ownL, baseOk, seqV,
  List.map_cons, List.map_nil, List.cons_append, List.nil_append, List.append_nil, List.replicate_zero, List.replicate_succ, List.length_cons, List.length_nil, List.getElem?_cons_zero, List.getElem?_cons_succ, List.getElem?_nil, List.set_cons_zero, List.set_cons_succ, List.set_nil, Option.some.injEq, ↓reduceIte, reduceCtorEq, decide_true, decide_false, decide_eq_true_eq, Bool.not_true, Bool.not_false, Bool.false_eq_true, Bool.and_true, Bool.true_and, Bool.or_false, Bool.false_or, Bool.or_true, Bool.true_or, Bool.and_false, Bool.false_and, if_true, if_false, String.reduceEq, or_false, or_true, false_or, true_or, Int.reduceLE, Int.reduceLT, Int.reduceNeg, Int.reduceToNat, Int.reduceAdd, Nat.reduceAdd, Nat.reduceLT, Int.reduceSub, Int.reduceMul, Int.reduceEq, Nat.reduceEqDiff, Int.zero_sub, BEq.rfl, *])

variable {a0 a1 a2 a3 a4 a5 a6 a7 a8 a9 a10 a11 a12 a13 a14 a15 a16 a17 a18 a19 a20 a21 a22 a23 a24 a25 a26 a27 a28 a29 : SD}
theorem kD_ix {f : Kn} {k : Nat} {p : K2} {s : S} (h : f[k]? = some p) : gIx (kD f) (.int (k : Int)) s = .ok (pD p) s := ixT (atI_get (by rw [List.getElem?_map, h]; rfl))
theorem pD0 {p : K2} {s : S} : gIx (pD p) (.int 0) s = .ok (.int p.1) s := rfl
theorem pD1 {p : K2} {s : S} : gIx (pD p) (.int 1) s = .ok (.int p.2) s := rfl
theorem law4_turn {f : Kn} {k : Nat} {p q : K2} {w : Rat} {s : S} (hp : f[k]? = some p) (hq : f[k + 1]? = some q) (hr : Pr (p, q)) (hw : Bd 9 w) : l_law_4 [a0, a1, a2, .v (kD f), a4, a5, .v (.int (k : Int)), a7, a8, a9, a10, a11, a12, a13, a14, a15, .v (fr w), a17, a18, a19, a20, a21, a22, a23, a24, a25, a26, a27, a28, a29] s = .nx [a0, a1, a2, .v (kD f), a4, a5, .v (.int (k : Int)), a7, a8, a9, a10, a11, a12, a13, a14, a15, .v (fr (mx w (slope (p, q)))), a17, a18, a19, .v (fr (slope (p, q))), a21, a22, a23, a24, a25, a26, a27, a28, a29] s := by
  have e1 := fun s => kD_ix (s := s) hp
  have e2 := fun s => kD_ix (s := s) hq
  have ec : ((k + 1 : Nat) : Int) = (k : Int) + 1 := by push_cast; rfl
  rw [ec] at e2
  have i0 := fun (p : K2) s => pD0 (p := p) (s := s)
  have i1 := fun (p : K2) s => pD1 (p := p) (s := s)
  have e3 := fun s => t_lslope (s := s) hr
  have e4 := fun s => t_llt (s := s) hw (Bd_slope hr)
  dsimp only at e3
  unfold l_law_4 mx
  clear hp hq hr hw ec
  by_cases c : w < slope (p, q)
  · rw [decide_eq_true c] at e4
    rw [if_pos c]
    clear c
    decreasing_trivial
  · rw [decide_eq_false c] at e4
    rw [if_neg c]
    clear c
    decreasing_trivial
theorem drop2 {f : Kn} {k : Nat} (h : k + 1 < f.length) : ∃ p q, f[k]? = some p ∧ f[k + 1]? = some q ∧ f.drop k = p :: q :: f.drop (k + 2) ∧ f.drop (k + 1) = q :: f.drop (k + 2) := by
  refine ⟨f[k], f[k + 1], List.getElem?_eq_getElem _, List.getElem?_eq_getElem h, ?_, ?_⟩
  · rw [List.drop_eq_getElem_cons (show k < f.length by omega), List.drop_eq_getElem_cons h]
  · rw [List.drop_eq_getElem_cons h]
theorem drop_pr {f : Kn} (v : Val f) {k : Nat} {a : PP} (h : a ∈ prs (f.drop k)) : Pr a := by
  obtain ⟨h1, h2, h3, h4⟩ := prs_mem h (v.chn.drop k)
  obtain ⟨g1, g2, g3, g4⟩ := v.rg _ (List.mem_of_mem_drop h1)
  obtain ⟨k1, k2, k3, k4⟩ := v.rg _ (List.mem_of_mem_drop h2)
  exact ⟨g1, g2, g3, g4, k1, k2, k3, k4, h3, h4⟩
theorem law4_loop {f : Kn} {s : S} (v : Val f) : ∀ (m k : Nat) {w : Rat} {a6 a20 : SD}, k + m + 1 = f.length → Bd 9 w → ∃ (b6 b20 : SD), loopF (.nm 6) l_law_4 ((List.range' k m).map fun k : Nat => D.int (0 + (k : Int))) [a0, a1, a2, .v (kD f), a4, a5, a6, a7, a8, a9, a10, a11, a12, a13, a14, a15, .v (fr w), a17, a18, a19, a20, a21, a22, a23, a24, a25, a26, a27, a28, a29] s = .nx [a0, a1, a2, .v (kD f), a4, a5, b6, a7, a8, a9, a10, a11, a12, a13, a14, a15, .v (fr (((prs (f.drop k)).map slope).foldl mx w)), a17, a18, a19, b20, a21, a22, a23, a24, a25, a26, a27, a28, a29] s ∧ (m ≠ 0 → ∃ d, b6 = .v d)
  | 0, k, w, a6, a20, h, hw => ⟨a6, a20, by
      have e : prs (f.drop k) = [] := by
        have : (prs (f.drop k)).length = 0 := by rw [prs_len, List.length_drop]; omega
        exact List.eq_nil_of_length_eq_zero this
      rw [e]
      rfl, fun h => absurd rfl h⟩
  | m + 1, k, w, a6, a20, h, hw => by
    obtain ⟨p, q, hp, hq, hd, hd1⟩ := drop2 (f := f) (k := k) (by omega)
    have hr : Pr (p, q) := drop_pr v (k := k) (by rw [hd]; exact List.mem_cons_self)
    have e1 := law4_turn (a0 := a0) (a1 := a1) (a2 := a2) (a4 := a4) (a5 := a5) (a7 := a7) (a8 := a8) (a9 := a9) (a10 := a10) (a11 := a11) (a12 := a12) (a13 := a13) (a14 := a14) (a15 := a15) (a17 := a17) (a18 := a18) (a19 := a19) (a20 := a20) (a21 := a21) (a22 := a22) (a23 := a23) (a24 := a24) (a25 := a25) (a26 := a26) (a27 := a27) (a28 := a28) (a29 := a29) (s := s) hp hq hr hw
    obtain ⟨b6, b20, e2, h2⟩ := law4_loop v m (k + 1) (a6 := .v (.int (k : Int))) (a20 := .v (fr (slope (p, q)))) (by omega) (mx_Bd hw (Bd_slope hr))
    refine ⟨b6, b20, ?_, fun _ => ?_⟩
    · rw [List.range'_succ, List.map_cons, Int.zero_add, loopF_nx rfl e1]
      have e3 : ((prs (f.drop k)).map slope).foldl mx w = ((prs (f.drop (k + 1))).map slope).foldl mx (mx w (slope (p, q))) := by
        rw [hd, hd1]
        rfl
      rw [e3]
      exact e2
    · cases m with
      | zero =>
        have h : some (SD.v (.int (k : Int))) = some b6 := congrArg (fun r => match r with | SR.nx ρ _ => (ρ[6]? : Option SD) | _ => none) e2
        exact ⟨_, (Option.some.inj h).symm⟩
      | succ m => exact h2 (by omega)
/-! the kept knots -/
theorem law2_turn {f : Kn} {k : Nat} {p q r : K2} {l : Kn} {s : S} (hp : f[k]? = some p) (hq : f[k + 1]? = some q) (hr : f[k + 2]? = some r) (h1 : Pr (p, q)) (h2 : Pr (q, r)) (hl : l.length ≤ 100) : ∃ b10 b11, l_law_2 [a0, a1, a2, .v (kD f), a4, a5, .v (.int (1 + (k : Int))), a7, a8, .own (.lst (l.map pD)), a10, a11, a12, a13, a14, a15, a16, a17, a18, a19, a20, a21, a22, a23, a24, a25, a26, a27, a28, a29] s = .nx [a0, a1, a2, .v (kD f), a4, a5, .v (.int (1 + (k : Int))), a7, a8, .own (.lst ((if strI p q r then l else l ++ [q]).map pD)), b10, b11, a12, a13, a14, a15, a16, a17, a18, a19, a20, a21, a22, a23, a24, a25, a26, a27, a28, a29] s := by
  have e1 := fun s => kD_ix (s := s) hp
  have e2 := fun s => kD_ix (s := s) hq
  have e3 := fun s => kD_ix (s := s) hr
  have ec : ((k + 1 : Nat) : Int) = 1 + (k : Int) := by push_cast; omega
  have ed : ((k + 2 : Nat) : Int) = 1 + (k : Int) + 1 := by push_cast; omega
  have e0 : (1 : Int) + (k : Int) - 1 = (k : Int) := by omega
  rw [ec] at e2
  rw [ed] at e3
  have i0 := fun (p : K2) s => pD0 (p := p) (s := s)
  have i1 := fun (p : K2) s => pD1 (p := p) (s := s)
  obtain ⟨p1, p2, p3, p4, q1, q2, q3, q4, l1, l2⟩ := h1
  obtain ⟨_, _, _, _, r1, r2, r3, r4, l3, l4⟩ := h2
  dsimp only at *
  have m1 := fun s => mulI (i := q.2 - p.2) (j := r.1 - q.1) (s := s) (bd9 (by omega) (by omega)) (bd9 (by omega) (by omega))
  have m2 := fun s => mulI (i := r.2 - q.2) (j := q.1 - p.1) (s := s) (bd9 (by omega) (by omega)) (bd9 (by omega) (by omega))
  have ea : oAppend (l.map pD) [pD q] = some (.non, (l ++ [q]).map pD) := by
    show (if _ then _ else _) = _
    rw [if_pos (by rw [List.length_map]; have := size_ok (n := l.length + 1) (by omega); omega), List.map_append]
    rfl
  refine ⟨.v (.int (q.2 - p.2)), .v (.int (q.1 - p.1)), ?_⟩
  unfold l_law_2
  cases hs : strI p q r with
  | true =>
    have c := (strI_ln p q r).mp hs
    unfold ln at c
    have c := decide_eq_true c
    rw [if_pos rfl]
    clear hp hq hr p1 p2 p3 p4 q1 q2 q3 q4 l1 l2 r1 r2 r3 r4 l3 l4 hs ec ed hl
    rename_i c0
    clear c0
    decreasing_trivial
  | false =>
    have c : ¬ ln p q r := fun h => by rw [← strI_ln, hs] at h; cases h
    unfold ln at c
    have c := decide_eq_false c
    rw [if_neg Bool.false_ne_true]
    clear hp hq hr p1 p2 p3 p4 q1 q2 q3 q4 l1 l2 r1 r2 r3 r4 l3 l4 hs ec ed hl
    rename_i c0
    clear c0
    decreasing_trivial
end K02

namespace K02
open PySem PySem.Spec L2 Tv
local macro_rules | `(tactic| get_elem_tactic_extensible) => `(tactic| simp only [v_var, v_varB, v_c, v_op, v_un, v_nil, v_cons, v_tup, v_lst, v_test, v_and, v_or, v_not, v_if, v_andV, v_orV, v_notV, v_chain, v_call, v_callF, v_callV, v_isi, v_slice, v_comp, unowned, List.all_cons, List.all_nil, wipeR, and_true, true_and, and_false, false_and, Int.cast_ofNat_Int, v_part, v_noPart, v_fld, v_yes, v_seqI, v_rng1, v_rng2, v_enumI, v_zipI, v_next, v_seq, v_set, v_setO, v_drop, v_ret, v_retN, v_brk, v_cnt, v_ifS, v_frz, v_while, v_for, v_meth, v_setIx, v_cell, v_aug, v_pt, v_par, v_setF, v_fun, v_ne_ok, v_loopF_nil, v_compF_nil,
  w_add, Tv.w_sub, w_lt, w_le, w_gt, w_ge, w_neg, w_eqI, w_neI, w_eqB, w_neB, w_is, w_isNot, w_ix20, w_ix21, w_lenT, w_lenL, w_lenZ, w_abs, w_int, w_min, w_max, w_tupT, w_tupL, w_tupZ, kT_int, kT_bl, kT_non, kT_str, kT_tup, kT_lst, k2, Tv.isNon, Pt.run, Pts.run, setM, ownL, baseOk, seqV,
  List.map_cons, List.map_nil, List.cons_append, List.nil_append, List.append_nil, List.replicate_zero, List.replicate_succ, List.length_cons, List.length_nil, List.getElem?_cons_zero, List.getElem?_cons_succ, List.getElem?_nil, List.set_cons_zero, List.set_cons_succ, List.set_nil, Option.some.injEq, ↓reduceIte, reduceCtorEq, decide_true, decide_false, decide_eq_true_eq, Bool.not_true, Bool.not_false, Bool.false_eq_true, Bool.and_true, Bool.true_and, Bool.or_false, Bool.false_or, Bool.or_true, Bool.true_or, Bool.and_false, Bool.false_and, if_true, if_false, String.reduceEq, or_false, or_true, false_or, true_or, Int.reduceLE, Int.reduceLT, Int.reduceNeg, Int.reduceToNat, Int.reduceAdd, Nat.reduceAdd, Nat.reduceLT, Int.reduceSub, Int.reduceMul, Int.reduceEq, Nat.reduceEqDiff, Int.zero_sub, BEq.rfl])
local macro_rules | `(tactic| decreasing_trivial) => `(tactic| simp only [v_var, v_varB, v_c, v_op, v_un, v_nil, v_cons, v_tup, v_lst, v_test, v_and, v_or, v_not, v_if, v_andV, v_orV, v_notV, v_chain, v_call, v_callF, v_callV, v_isi, v_slice, v_comp, unowned, List.all_cons, List.all_nil, wipeR, and_true, true_and, and_false, false_and, Int.cast_ofNat_Int, v_part, v_noPart, v_fld, v_yes, v_seqI, v_rng1, v_rng2, v_enumI, v_zipI, v_next, v_seq, v_set, v_setO, v_drop, v_ret, v_retN, v_brk, v_cnt, v_ifS, v_frz, v_while, v_for, v_meth, v_setIx, v_cell, v_aug, v_pt, v_par, v_setF, v_fun, v_ne_ok, v_loopF_nil, v_compF_nil,
  w_add, Tv.w_sub, w_lt, w_le, w_gt, w_ge, w_neg, w_eqI, w_neI, w_eqB, w_neB, w_is, w_isNot, w_ix20, w_ix21, w_lenT, w_lenL, w_lenZ, w_abs, w_int, w_min, w_max, w_tupT, w_tupL, w_tupZ, kT_int, kT_bl, kT_non, kT_str, kT_tup, kT_lst, k2, Tv.isNon, Pt.run, Pts.run, setM, ownL, baseOk, seqV,
  List.map_cons, List.map_nil, List.cons_append, List.nil_append, List.append_nil, List.replicate_zero, List.replicate_succ, List.length_cons, List.length_nil, List.getElem?_cons_zero, List.getElem?_cons_succ, List.getElem?_nil, List.set_cons_zero, List.set_cons_succ, List.set_nil, Option.some.injEq, ↓reduceIte, reduceCtorEq, decide_true, decide_false, decide_eq_true_eq, Bool.not_true, Bool.not_false, Bool.false_eq_true, Bool.and_true, Bool.true_and, Bool.or_false, Bool.false_or, Bool.or_true, Bool.true_or, Bool.and_false, Bool.false_and, if_true, if_false, String.reduceEq, or_false, or_true, false_or, true_or, Int.reduceLE, Int.reduceLT, Int.reduceNeg, Int.reduceToNat, Int.reduceAdd, Nat.reduceAdd, Nat.reduceLT, Int.reduceSub, Int.reduceMul, Int.reduceEq, Nat.reduceEqDiff, Int.zero_sub, BEq.rfl, *])

variable {a0 a1 a2 a3 a4 a5 a6 a7 a8 a9 a10 a11 a12 a13 a14 a15 a16 a17 a18 a19 a20 a21 a22 a23 a24 a25 a26 a27 a28 a29 : SD}
theorem drop3 {f : Kn} {k : Nat} (h : k + 2 < f.length) : ∃ p q r, f[k]? = some p ∧ f[k + 1]? = some q ∧ f[k + 2]? = some r ∧ f.drop k = p :: q :: r :: f.drop (k + 3) ∧ f.drop (k + 1) = q :: r :: f.drop (k + 3) := by
  obtain ⟨p, q, hp, hq, hd, hd1⟩ := drop2 (f := f) (k := k) (by omega)
  have hr : f[k + 2]? = some f[k + 2] := List.getElem?_eq_getElem h
  have e : f.drop (k + 2) = f[k + 2] :: f.drop (k + 3) := List.drop_eq_getElem_cons h
  exact ⟨p, q, f[k + 2], hp, hq, hr, by rw [hd, e], by rw [hd1, e]⟩
theorem law2_loop {f : Kn} {s : S} (v : Val f) : ∀ (m k : Nat) {l : Kn} {a6 a10 a11 : SD}, k + m + 2 = f.length → l.length + m ≤ 100 → (∃ d, a6 = .v d) → ∃ (b6 b10 b11 : SD), loopF (.nm 6) l_law_2 ((List.range' k m).map fun k : Nat => D.int (1 + (k : Int))) [a0, a1, a2, .v (kD f), a4, a5, a6, a7, a8, .own (.lst (l.map pD)), a10, a11, a12, a13, a14, a15, a16, a17, a18, a19, a20, a21, a22, a23, a24, a25, a26, a27, a28, a29] s = .nx [a0, a1, a2, .v (kD f), a4, a5, b6, a7, a8, .own (.lst ((l ++ inn (f.drop k)).map pD)), b10, b11, a12, a13, a14, a15, a16, a17, a18, a19, a20, a21, a22, a23, a24, a25, a26, a27, a28, a29] s ∧ (∃ d, b6 = .v d)
  | 0, k, l, a6, a10, a11, h, hl, h6 => ⟨a6, a10, a11, by
      have e : inn (f.drop k) = [] := by
        have := inn_len (f.drop k)
        rw [List.length_drop] at this
        exact List.eq_nil_of_length_eq_zero (by omega)
      rw [e, List.append_nil]
      rfl, h6⟩
  | m + 1, k, l, a6, a10, a11, h, hl, h6 => by
    obtain ⟨p, q, r, hp, hq, hr, hd, hd1⟩ := drop3 (f := f) (k := k) (by omega)
    have pr1 : Pr (p, q) := drop_pr v (k := k) (by rw [hd]; exact List.mem_cons_self)
    have pr2 : Pr (q, r) := drop_pr v (k := k) (by rw [hd]; exact List.mem_cons_of_mem _ List.mem_cons_self)
    obtain ⟨c10, c11, e1⟩ := law2_turn (a0 := a0) (a1 := a1) (a2 := a2) (a4 := a4) (a5 := a5) (a7 := a7) (a8 := a8) (a10 := a10) (a11 := a11) (a12 := a12) (a13 := a13) (a14 := a14) (a15 := a15) (a16 := a16) (a17 := a17) (a18 := a18) (a19 := a19) (a20 := a20) (a21 := a21) (a22 := a22) (a23 := a23) (a24 := a24) (a25 := a25) (a26 := a26) (a27 := a27) (a28 := a28) (a29 := a29) (l := l) (s := s) hp hq hr pr1 pr2 (by omega)
    obtain ⟨b6, b10, b11, e2, h2⟩ := law2_loop v m (k + 1) (l := if strI p q r then l else l ++ [q]) (a6 := .v (.int (1 + (k : Int)))) (a10 := c10) (a11 := c11) (by omega) (by
      split
      · omega
      · rw [List.length_append, List.length_singleton]; omega) ⟨_, rfl⟩
    refine ⟨b6, b10, b11, ?_, h2⟩
    rw [List.range'_succ, List.map_cons, loopF_nx rfl e1, e2]
    have e3 : l ++ inn (f.drop k) = (if strI p q r then l else l ++ [q]) ++ inn (f.drop (k + 1)) := by
      rw [hd, hd1]
      show l ++ (if strI p q r then _ else _) = _
      split
      · rfl
      · simp
    rw [e3]
/-! places where it does not rise -/
theorem comp4 {f : Kn} {s : S} (v : Val f) : ∃ l : List Nat, compF (.nm 6) t_law_2 (mVar 6) [a0, a1, a2, .v (kD f), a4, a5, .un, a7, a8, a9, a10, a11, a12, a13, a14, a15, a16, a17, a18, a19, a20, a21, a22, a23, a24, a25, a26, a27, a28, a29] (rngD 0 ((f.length : Int) - 1).toNat) s = .ok (l.map fun x : Nat => D.int (0 + (x : Int))) s ∧ (l = [] ↔ (prs f).all (fun a => decide (a.1.2 < a.2.2)) = true) := by
  have h2 := v.two
  have hn : ((f.length : Int) - 1).toNat = f.length - 1 := by omega
  rw [hn]
  let P : Nat → Bool := fun k => match f[k]?, f[k + 1]? with | some p, some q => decide (q.2 ≤ p.2) | _, _ => false
  refine ⟨(List.range (f.length - 1)).filter P, ?_, ?_⟩
  · rw [rngD_map, compF_filL _ P (fun x : Nat => D.int (0 + (x : Int))) (List.range (f.length - 1)) fun k hk => ⟨[a0, a1, a2, .v (kD f), a4, a5, .v (.int (0 + (k : Int))), a7, a8, a9, a10, a11, a12, a13, a14, a15, a16, a17, a18, a19, a20, a21, a22, a23, a24, a25, a26, a27, a28, a29], rfl, ?_, fun _ => rfl⟩]
    have hk := List.mem_range.mp hk
    obtain ⟨p, q, hp, hq, _, _⟩ := drop2 (f := f) (k := k) (by omega)
    have e1 := fun s => kD_ix (s := s) hp
    have e2 := fun s => kD_ix (s := s) hq
    have ec : ((k + 1 : Nat) : Int) = (k : Int) + 1 := by push_cast; rfl
    rw [ec] at e2
    have i1 := fun (p : K2) s => pD1 (p := p) (s := s)
    have eP : P k = decide (q.2 ≤ p.2) := by
      show (match f[k]?, f[k + 1]? with | some p, some q => decide (q.2 ≤ p.2) | _, _ => false) = _
      rw [hp, hq]
    rw [eP, Int.zero_add]
    unfold t_law_2
    clear eP hp hq hk ec h2 hn v
    clear P
    decreasing_trivial
  · have key : ∀ (m k : Nat), k + m + 1 = f.length → ((List.range' k m).filter P = [] ↔ (prs (f.drop k)).all (fun a => decide (a.1.2 < a.2.2)) = true) := by
      intro m
      induction m with
      | zero =>
        intro k hk
        have e : prs (f.drop k) = [] := by
          have : (prs (f.drop k)).length = 0 := by rw [prs_len, List.length_drop]; omega
          exact List.eq_nil_of_length_eq_zero this
        rw [e]
        exact ⟨fun _ => rfl, fun _ => rfl⟩
      | succ m ih =>
        intro k hk
        obtain ⟨p, q, hp, hq, hd, hd1⟩ := drop2 (f := f) (k := k) (by omega)
        have eP : P k = decide (q.2 ≤ p.2) := by
          show (match f[k]?, f[k + 1]? with | some p, some q => decide (q.2 ≤ p.2) | _, _ => false) = _
          rw [hp, hq]
        have e2 : prs (f.drop k) = (p, q) :: prs (f.drop (k + 1)) := by
          rw [hd, hd1]
          rfl
        rw [e2, List.all_cons, Bool.and_eq_true, ← ih (k + 1) (by omega), List.range'_succ]
        by_cases c : q.2 ≤ p.2
        · rw [List.filter_cons_of_pos (by rw [eP, decide_eq_true c])]
          constructor
          · intro h; cases h
          · intro h
            have h3 : p.2 < q.2 := of_decide_eq_true h.1
            omega
        · rw [List.filter_cons_of_neg (by rw [eP, decide_eq_false c]; exact Bool.false_ne_true)]
          constructor
          · intro h
            exact ⟨decide_eq_true (by show p.2 < q.2; omega), h⟩
          · exact fun h => h.2
    have := key (f.length - 1) 0 (by omega)
    rw [List.drop_zero, ← List.range_eq_range'] at this
    exact this
theorem comp5 {f : Kn} {s : S} (v : Val f) : compF (.nm 29) mYes e_law_3 [a0, a1, a2, a3, a4, .v (.lst (vals f)), a6, a7, a8, a9, a10, a11, a12, a13, a14, a15, a16, a17, a18, a19, a20, a21, a22, a23, a24, a25, a26, a27, a28, .un] (vals f) s = .ok (r256.map fun x => .int ((ai f x).num / ((ai f x).den : Int))) s := by
  have e : compF (.nm 29) mYes e_law_3 [a0, a1, a2, a3, a4, .v (.lst (vals f)), a6, a7, a8, a9, a10, a11, a12, a13, a14, a15, a16, a17, a18, a19, a20, a21, a22, a23, a24, a25, a26, a27, a28, .un] (r256.map fun x => fr (ai f x)) s = .ok (r256.map fun x => .int ((ai f x).num / ((ai f x).den : Int))) s := by
    rw [compF_mapL _ (fun x => .int ((ai f x).num / ((ai f x).den : Int))) r256 fun x hx => ⟨[a0, a1, a2, a3, a4, .v (.lst (vals f)), a6, a7, a8, a9, a10, a11, a12, a13, a14, a15, a16, a17, a18, a19, a20, a21, a22, a23, a24, a25, a26, a27, a28, .v (fr (ai f x))], rfl, ?_⟩]
    have hx : x ≤ 255 := by have := List.mem_range.mp hx; omega
    have i0 : ∀ (q : Rat) s, gIx (fr q) (.int 0) s = .ok (.int q.num) s := fun _ _ => rfl
    have i1 : ∀ (q : Rat) s, gIx (fr q) (.int 1) s = .ok (.int (q.den : Int)) s := fun _ _ => rfl
    have e1 : ∀ s, gDiv (.int (ai f x).num) (.int ((ai f x).den : Int)) s = .ok (.int ((ai f x).num / ((ai f x).den : Int))) s := fun s => divI (v.ai_Bd hx).dn (den_pos _)
    unfold e_law_3
    clear hx v
    decreasing_trivial
  exact e
theorem bd_nw {n : Nat} {q : Rat} (h : Bd n q) : bd (n + 12) (nw q) := by
  unfold nw
  have h1 : bd (n + 12) ((q.den : Int) - 2 * q.num) := bd_mono (bd_sub (a := 10 + n) (bd_mono h.dn) (bd_mul (bd_small (by omega)) h.num))
  refine bd_neg ?_
  exact Nat.lt_of_le_of_lt (Int.natAbs_ediv_le_natAbs _ _) h1
theorem comp6 {f : Kn} {s : S} (v : Val f) : compF (.nm 18) t_law_3 (mVar 18) [a0, a1, a2, a3, a4, .v (.lst (vals f)), a6, a7, a8, a9, a10, a11, a12, a13, a14, a15, a16, a17, .un, a19, a20, a21, a22, .v (.tup (r256.map fun x => .int (nw (ai f x)))), a24, a25, a26, a27, a28, a29] (rngD 0 256) s = .ok [] s := by
  refine compF_none fun d hd => ?_
  obtain ⟨x, hx, rfl⟩ := rngD_mem hd
  refine ⟨[a0, a1, a2, a3, a4, .v (.lst (vals f)), a6, a7, a8, a9, a10, a11, a12, a13, a14, a15, a16, a17, .v (.int (0 + (x : Int))), a19, a20, a21, a22, .v (.tup (r256.map fun x => .int (nw (ai f x)))), a24, a25, a26, a27, a28, a29], rfl, ?_⟩
  have e1 := fun s => vals_ix (f := f) (x := x) (s := s) (by omega)
  have e2 : ∀ s, gIx (.tup (r256.map fun x => .int (nw (ai f x)))) (.int (x : Int)) s = .ok (.int (nw (ai f x))) s := fun s => ixT (atI_get (by
    rw [List.getElem?_map, List.getElem?_range hx]
    rfl))
  have i0 : ∀ (q : Rat) s, gIx (fr q) (.int 0) s = .ok (.int q.num) s := fun _ _ => rfl
  have i1 : ∀ (q : Rat) s, gIx (fr q) (.int 1) s = .ok (.int (q.den : Int)) s := fun _ _ => rfl
  have hb := v.ai_Bd (x := x) (by omega)
  have m1 := fun s => mulI (s := s) (bd_nw hb) hb.dn
  have m2 := fun s => mulI (i := 2) (j := (ai f x).num - nw (ai f x) * ((ai f x).den : Int)) (s := s) (bd_small (by omega)) (bd_sub (bd_mono (b := 36 + 12 + 36) hb.num) (bd_mul (bd_nw hb) hb.dn))
  obtain ⟨k1, k2⟩ := nw_ok (ai f x)
  have k1 := decide_eq_true k1
  have k2 := decide_eq_true k2
  rw [Int.zero_add]
  unfold t_law_3
  rename_i c1 c2
  clear c1 c2 hb hx hd v
  decreasing_trivial
end K02

namespace K02
open PySem PySem.Spec L2 Tv
local macro_rules | `(tactic| get_elem_tactic_extensible) => `(tactic| simp only [v_var, v_varB, v_c, v_op, v_un, v_nil, v_cons, v_tup, v_lst, v_test, v_and, v_or, v_not, v_if, v_andV, v_orV, v_notV, v_chain, v_call, v_callF, v_callV, v_isi, v_slice, v_comp, unowned, List.all_cons, List.all_nil, wipeR, and_true, true_and, and_false, false_and, Int.cast_ofNat_Int, v_part, v_noPart, v_fld, v_yes, v_seqI, v_rng1, v_rng2, v_enumI, v_zipI, v_next, v_seq, v_set, v_setO, v_drop, v_ret, v_retN, v_brk, v_cnt, v_ifS, v_frz, v_while, v_for, v_meth, v_setIx, v_cell, v_aug, v_pt, v_par, v_setF, v_fun, v_ne_ok, v_loopF_nil, v_compF_nil,
  w_add, Tv.w_sub, w_lt, w_le, w_gt, w_ge, w_neg, w_eqI, w_neI, w_eqB, w_neB, w_is, w_isNot, w_ix20, w_ix21, w_lenT, w_lenL, w_lenZ, w_abs, w_int, w_min, w_max, w_tupT, w_tupL, w_tupZ, kT_int, kT_bl, kT_non, kT_str, kT_tup, kT_lst, k2, Tv.isNon, Pt.run, Pts.run, setM, ownL, baseOk, seqV,
  List.map_cons, List.map_nil, List.cons_append, List.nil_append, List.append_nil, List.replicate_zero, List.replicate_succ, List.length_cons, List.length_nil, List.getElem?_cons_zero, List.getElem?_cons_succ, List.getElem?_nil, List.set_cons_zero, List.set_cons_succ, List.set_nil, Option.some.injEq, ↓reduceIte, reduceCtorEq, decide_true, decide_false, decide_eq_true_eq, Bool.not_true, Bool.not_false, Bool.false_eq_true, Bool.and_true, Bool.true_and, Bool.or_false, Bool.false_or, Bool.or_true, Bool.true_or, Bool.and_false, Bool.false_and, if_true, if_false, String.reduceEq, or_false, or_true, false_or, true_or, Int.reduceLE, Int.reduceLT, Int.reduceNeg, Int.reduceToNat, Int.reduceAdd, Nat.reduceAdd, Nat.reduceLT, Int.reduceSub, Int.reduceMul, Int.reduceEq, Nat.reduceEqDiff, Int.zero_sub, BEq.rfl])
local macro_rules | `(tactic| decreasing_trivial) => `(tactic| simp only [v_var, v_varB, v_c, v_op, v_un, v_nil, v_cons, v_tup, v_lst, v_test, v_and, v_or, v_not, v_if, v_andV, v_orV, v_notV, v_chain, v_call, v_callF, v_callV, v_isi, v_slice, v_comp, unowned, List.all_cons, List.all_nil, wipeR, and_true, true_and, and_false, false_and, Int.cast_ofNat_Int, v_part, v_noPart, v_fld, v_yes, v_seqI, v_rng1, v_rng2, v_enumI, v_zipI, v_next, v_seq, v_set, v_setO, v_drop, v_ret, v_retN, v_brk, v_cnt, v_ifS, v_frz, v_while, v_for, v_meth, v_setIx, v_cell, v_aug, v_pt, v_par, v_setF, v_fun, v_ne_ok, v_loopF_nil, v_compF_nil,
  w_add, Tv.w_sub, w_lt, w_le, w_gt, w_ge, w_neg, w_eqI, w_neI, w_eqB, w_neB, w_is, w_isNot, w_ix20, w_ix21, w_lenT, w_lenL, w_lenZ, w_abs, w_int, w_min, w_max, w_tupT, w_tupL, w_tupZ, kT_int, kT_bl, kT_non, kT_str, kT_tup, kT_lst, k2, Tv.isNon, Pt.run, Pts.run, setM, ownL, baseOk, seqV,
  List.map_cons, List.map_nil, List.cons_append, List.nil_append, List.append_nil, List.replicate_zero, List.replicate_succ, List.length_cons, List.length_nil, List.getElem?_cons_zero, List.getElem?_cons_succ, List.getElem?_nil, List.set_cons_zero, List.set_cons_succ, List.set_nil, Option.some.injEq, ↓reduceIte, reduceCtorEq, decide_true, decide_false, decide_eq_true_eq, Bool.not_true, Bool.not_false, Bool.false_eq_true, Bool.and_true, Bool.true_and, Bool.or_false, Bool.false_or, Bool.or_true, Bool.true_or, Bool.and_false, Bool.false_and, if_true, if_false, String.reduceEq, or_false, or_true, false_or, true_or, Int.reduceLE, Int.reduceLT, Int.reduceNeg, Int.reduceToNat, Int.reduceAdd, Nat.reduceAdd, Nat.reduceLT, Int.reduceSub, Int.reduceMul, Int.reduceEq, Nat.reduceEqDiff, Int.zero_sub, BEq.rfl, *])

theorem at_far : ∀ (r : Kn) (p : K2) {t : Rat}, Chn (p :: r) → ((lastP (p :: r)).1 : Rat) < t → at_ (p :: r) t = ((lastP (p :: r)).2 : Rat)
  | [], p, t, _, _ => rfl
  | q :: r, p, t, hc, h => by
    have g := cast_le (last_gt r q hc.tail)
    rw [lastP_cons] at *
    rw [at_tail hc (by grind), at_far r q hc.tail h]
theorem at_last : ∀ (r : Kn) (p : K2), Chn (p :: r) → at_ (p :: r) ((lastP (p :: r)).1 : Rat) = ((lastP (p :: r)).2 : Rat)
  | [], p, _ => rfl
  | q :: r, p, hc => by
    rw [lastP_cons, at_tail hc (cast_le (last_gt r q hc.tail)), at_last r q hc.tail]
theorem Val.ai0 {f : Kn} (v : Val f) : ai f 0 = ((f.headD (0, 0)).2 : Rat) := by
  have hc := v.chn
  obtain ⟨y, r, rfl⟩ := v.x0
  exact at_head (0, y) r hc
theorem Val.ain {f : Kn} (v : Val f) : ai f 255 = ((lastP f).2 : Rat) := by
  have hc := v.chn
  have hl := v.xn
  obtain ⟨y, r, rfl⟩ := v.x0
  have := at_last r (0, y) hc
  rw [hl] at this
  exact this
theorem far_loop {ks : Kn} {t : Rat} {n : Nat} (hc : Chn ks) (hr : Rg ks) (ht : Bd n t) (hn : n ≤ 100) (hl : ((lastP ks).1 : Rat) < t) : ∀ (m k : Nat) (K0 a b c d e : SD) (s : S), k + m + 1 = ks.length →
    ∃ K' a' b' c' d', loopF (.nm 2) l__law_curve_at_1 ((List.range' k m).map fun k : Nat => D.int (0 + (k : Int))) [.v (kD ks), .v (fr t), K0, a, b, c, d, e] s = .nx [.v (kD ks), .v (fr t), K', a', b', c', d', e] s := by
  intro m
  induction m with
  | zero => intro k K0 a b c d e s hk; exact ⟨K0, a, b, c, d, rfl⟩
  | succ m ih =>
    intro k K0 a b c d e s hk
    obtain ⟨p, q, hp, hq, hd, hd1⟩ := drop2 (f := ks) (k := k) (by omega)
    have hc' := hc.drop k
    have hll := lastP_drop (ks := ks) (k + 1) (by omega)
    rw [hd] at hc'
    rw [hd1] at hll
    have g := cast_le (last_gt (ks.drop (k + 2)) q hc'.tail)
    rw [hll] at g
    obtain ⟨K', a', b', c', d', h⟩ := ih (k + 1) (.v (.int (0 + (k : Int)))) (.v (.int p.1)) (.v (.int p.2)) (.v (.int q.1)) (.v (.int q.2)) e s (by omega)
    refine ⟨K', a', b', c', d', ?_⟩
    have e1 := lcurve_turn (a := a) (b := b) (c := c) (d := d) (e := e) (s := s) hp hq hc'.1 (hr _ (List.mem_of_getElem? hp)) (hr _ (List.mem_of_getElem? hq)) ht hn
    rw [if_neg (by grind)] at e1
    rw [List.range'_succ, List.map_cons, loopF_nx rfl e1]
    exact h
theorem t_lcurve_far {ks : Kn} {t : Rat} {n : Nat} {s : S} (v : Val ks) (hl : 255 < t) (ht : Bd n t) (hn : n ≤ 100) : F__law_curve_at [kD ks, fr t] s = .ok (fr (at_ ks t)) s := by
  have h2 := v.two
  have h12 := v.most
  have hl' : ((lastP ks).1 : Rat) < t := by rw [v.xn]; exact hl
  have ea : at_ ks t = ((lastP ks).2 : Rat) := by
    have hc := v.chn
    obtain ⟨y, r, rfl⟩ := v.x0
    exact at_far r (0, y) hc hl'
  obtain ⟨K', a', b', c', d', e1⟩ := far_loop v.chn v.rg ht hn hl' (ks.length - 1) 0 .un .un .un .un .un .un s (by omega)
  rw [← List.range_eq_range'] at e1
  have e2 : rngD 0 ((ks.length : Int) - 1).toNat = (List.range (ks.length - 1)).map fun k : Nat => D.int (0 + (k : Int)) := by
    rw [rngD_map]
    congr 2
    omega
  have e3 : rngOk ((ks.length : Int) - 1) = true := rng_ok (by omega) (by omega)
  have e4 : ∀ s, gLen [kD ks] s = .ok (.int (ks.length : Nat)) s := fun s => by
    show R.ok (D.int ((ks.map pD).length : Nat)) s = _
    rw [List.length_map]
  have e5 : ∀ s, gIx (kD ks) (.int (-1)) s = .ok (pD (lastP ks)) s := fun s => ixT (by
    have := atI_neg (ks.map pD) 0 (by rw [List.length_map]; omega)
    rw [show (-((0 : Nat) + 1 : Int)) = -1 by omega] at this
    rw [this, List.getElem?_map, List.length_map, Nat.sub_zero, lastP_get (vne v)]
    rfl)
  have e6 := fun (p : K2) s => pD1 (p := p) (s := s)
  have e7 := frI (lastP ks).2
  rw [ea]
  unfold F__law_curve_at b__law_curve_at
  clear ht hl hl' v h2 h12 ea
  decreasing_trivial
theorem t_lcurve_any {ks : Kn} {t : Rat} {n : Nat} {s : S} (v : Val ks) (ht : Bd n t) (hn : n ≤ 100) : F__law_curve_at [kD ks, fr t] s = .ok (fr (at_ ks t)) s := by
  by_cases c : t ≤ 255
  · exact t_lcurve v.chn v.rg v.two (by have := v.most; omega) (xn v c) ht hn
  · exact t_lcurve_far v (by grind) ht hn
def stepQ : Rat := mkRat 1 100000
theorem fr_step : D.tup [.int 1, .int 100000] = fr stepQ := by
  unfold fr stepQ
  rw [(mk_nd 1 100000 (by omega)).1, (mk_nd 1 100000 (by omega)).2]
  rfl
theorem step_pos : 0 < stepQ := by
  have h0 : 0 ≤ stepQ := by
    unfold stepQ
    rw [← Rat.num_nonneg, (mk_nd 1 100000 (by omega)).1]
    decide
  have h1 : stepQ ≠ 0 := fun e => by
    have := congrArg Rat.num e
    unfold stepQ at this
    rw [(mk_nd 1 100000 (by omega)).1] at this
    revert this
    decide
  grind
theorem Bd_step : Bd 17 stepQ := Bd_mk (by omega) (by show Int.natAbs 1 < 2 ^ 17; decide) (by show Int.natAbs 100000 < 2 ^ 17; decide)
theorem pre_Bd {f : Kn} {t x : Rat} {n : Nat} (v : Val f) (ht : Bd n t) (h : x ∈ preL f t) : Bd (n + 36) x := by
  rcases pre_cases h with ⟨y, hy, hh, rfl⟩ | ⟨y, hy, hh, rfl⟩
  · have := v.rg y hy
    exact (Bd_r this.1 this.2.1).mono
  · exact Bd_crs ht (v.pr y hy) hh
/-- what lies below the first, above the last -/
theorem pre_low {f : Kn} {t lo z : Rat} (v : Val f) (hm : ∀ x, x ∈ preL f t → lo ≤ x) (h0 : 0 ≤ z) (h1 : z ≤ 255) (hz : z < lo) : at_ f z ≠ t := fun e => by
  obtain ⟨x, y, hx, hy, k1, k2⟩ := pre_of v h0 h1 e
  have := hm x hx
  grind
theorem pre_high {f : Kn} {t hi z : Rat} (v : Val f) (hh : hi ∈ preL f t) (hm : ∀ x, x ∈ preL f t → x ≤ hi) (hz : hi < z) (hn : hi ≠ 255) : t < at_ f z := by
  obtain ⟨e, h0, h1⟩ := pre_val v hh
  have key : ∀ w : Rat, hi < w → w ≤ 255 → t < at_ f w := fun w k1 k2 => by
    have m := v.mono h0 (show hi ≤ w by grind)
    have ne : at_ f w ≠ t := fun e => by
      obtain ⟨x, y, hx, hy, g1, g2⟩ := pre_of v (show 0 ≤ w by grind) k2 e
      have := hm y hy
      grind
    grind
  by_cases c : z ≤ 255
  · exact key z hz c
  · have := key 255 (by grind) Rat.le_refl
    have m := v.mono (z := 255) (w := z) (by decide) (by grind)
    grind
end K02

namespace K02
open PySem PySem.Spec L2 Tv
local macro_rules | `(tactic| get_elem_tactic_extensible) => `(tactic| simp only [v_var, v_varB, v_c, v_op, v_un, v_nil, v_cons, v_tup, v_lst, v_test, v_and, v_or, v_not, v_if, v_andV, v_orV, v_notV, v_chain, v_call, v_callF, v_callV, v_isi, v_slice, v_comp, unowned, List.all_cons, List.all_nil, wipeR, and_true, true_and, and_false, false_and, Int.cast_ofNat_Int, v_part, v_noPart, v_fld, v_yes, v_seqI, v_rng1, v_rng2, v_enumI, v_zipI, v_next, v_seq, v_set, v_setO, v_drop, v_ret, v_retN, v_brk, v_cnt, v_ifS, v_frz, v_while, v_for, v_meth, v_setIx, v_cell, v_aug, v_pt, v_par, v_setF, v_fun, v_ne_ok, v_loopF_nil, v_compF_nil,
  w_add, Tv.w_sub, w_lt, w_le, w_gt, w_ge, w_neg, w_eqI, w_neI, w_eqB, w_neB, w_is, w_isNot, w_ix20, w_ix21, w_lenT, w_lenL, w_lenZ, w_abs, w_int, w_min, w_max, w_tupT, w_tupL, w_tupZ, kT_int, kT_bl, kT_non, kT_str, kT_tup, kT_lst, k2, Tv.isNon, Pt.run, Pts.run, setM, ownL, baseOk, seqV,
  List.map_cons, List.map_nil, List.cons_append, List.nil_append, List.append_nil, List.replicate_zero, List.replicate_succ, List.length_cons, List.length_nil, List.getElem?_cons_zero, List.getElem?_cons_succ, List.getElem?_nil, List.set_cons_zero, List.set_cons_succ, List.set_nil, Option.some.injEq, ↓reduceIte, reduceCtorEq, decide_true, decide_false, decide_eq_true_eq, Bool.not_true, Bool.not_false, Bool.false_eq_true, Bool.and_true, Bool.true_and, Bool.or_false, Bool.false_or, Bool.or_true, Bool.true_or, Bool.and_false, Bool.false_and, if_true, if_false, String.reduceEq, or_false, or_true, false_or, true_or, Int.reduceLE, Int.reduceLT, Int.reduceNeg, Int.reduceToNat, Int.reduceAdd, Nat.reduceAdd, Nat.reduceLT, Int.reduceSub, Int.reduceMul, Int.reduceEq, Nat.reduceEqDiff, Int.zero_sub, BEq.rfl])
local macro_rules | `(tactic| decreasing_trivial) => `(tactic| simp only [v_var, v_varB, v_c, v_op, v_un, v_nil, v_cons, v_tup, v_lst, v_test, v_and, v_or, v_not, v_if, v_andV, v_orV, v_notV, v_chain, v_call, v_callF, v_callV, v_isi, v_slice, v_comp, unowned, List.all_cons, List.all_nil, wipeR, and_true, true_and, and_false, false_and, Int.cast_ofNat_Int, v_part, v_noPart, v_fld, v_yes, v_seqI, v_rng1, v_rng2, v_enumI, v_zipI, v_next, v_seq, v_set, v_setO, v_drop, v_ret, v_retN, v_brk, v_cnt, v_ifS, v_frz, v_while, v_for, v_meth, v_setIx, v_cell, v_aug, v_pt, v_par, v_setF, v_fun, v_ne_ok, v_loopF_nil, v_compF_nil,
  w_add, Tv.w_sub, w_lt, w_le, w_gt, w_ge, w_neg, w_eqI, w_neI, w_eqB, w_neB, w_is, w_isNot, w_ix20, w_ix21, w_lenT, w_lenL, w_lenZ, w_abs, w_int, w_min, w_max, w_tupT, w_tupL, w_tupZ, kT_int, kT_bl, kT_non, kT_str, kT_tup, kT_lst, k2, Tv.isNon, Pt.run, Pts.run, setM, ownL, baseOk, seqV,
  List.map_cons, List.map_nil, List.cons_append, List.nil_append, List.append_nil, List.replicate_zero, List.replicate_succ, List.length_cons, List.length_nil, List.getElem?_cons_zero, List.getElem?_cons_succ, List.getElem?_nil, List.set_cons_zero, List.set_cons_succ, List.set_nil, Option.some.injEq, ↓reduceIte, reduceCtorEq, decide_true, decide_false, decide_eq_true_eq, Bool.not_true, Bool.not_false, Bool.false_eq_true, Bool.and_true, Bool.true_and, Bool.or_false, Bool.false_or, Bool.or_true, Bool.true_or, Bool.and_false, Bool.false_and, if_true, if_false, String.reduceEq, or_false, or_true, false_or, true_or, Int.reduceLE, Int.reduceLT, Int.reduceNeg, Int.reduceToNat, Int.reduceAdd, Nat.reduceAdd, Nat.reduceLT, Int.reduceSub, Int.reduceMul, Int.reduceEq, Nat.reduceEqDiff, Int.zero_sub, BEq.rfl, *])

variable {a0 a1 a2 a3 a4 a5 a6 a7 a8 a9 a10 a11 a12 a13 a14 a15 a16 a17 a18 a19 a20 a21 a22 a23 a24 a25 a26 a27 a28 a29 : SD}
theorem law6_turn {f : Kn} {t : Rat} {s : S} (v : Val f) (ht : Bd 36 t) (h0 : 0 ≤ t) (h1 : t ≤ 255) : ∃ (b24 b25 b26 b27 b28 : SD), l_law_6 [a0, a1, a2, .v (kD f), .v (cD f), .v (.lst (vals f)), a6, .v (fr t), a8, a9, a10, a11, a12, a13, a14, a15, a16, a17, a18, a19, a20, a21, a22, a23, a24, a25, a26, a27, a28, a29] s = .nx [a0, a1, a2, .v (kD f), .v (cD f), .v (.lst (vals f)), a6, .v (fr t), a8, a9, a10, a11, a12, a13, a14, a15, a16, a17, a18, a19, a20, a21, a22, a23, b24, b25, b26, b27, b28, a29] s := by
  have x1 : ∀ s, gIx (.lst (vals f)) (.int 0) s = .ok (fr (ai f 0)) s := fun s => vals_ix (x := 0) (by omega)
  have x2 : ∀ s, gIx (.lst (vals f)) (.int 255) s = .ok (fr (ai f 255)) s := fun s => vals_ix (x := 255) (by omega)
  have y1 := fun s => t_llt (s := s) ht (v.ai_Bd (x := 0) (by omega))
  have y2 := fun s => t_llt (s := s) (v.ai_Bd (x := 255) (by omega)) ht
  rcases t_preimage (s := s) v ht (by omega) h0 h1 with ⟨c1, c2, lo, hi, m1, m2, m3, e1⟩ | ⟨c, e1⟩
  · rw [← v.ai0] at c1
    rw [← v.ain] at c2
    rw [decide_eq_false (by grind)] at y1
    rw [decide_eq_false (by grind)] at y2
    have hb1 : Bd 72 lo := pre_Bd v ht m1
    have hb2 : Bd 72 hi := pre_Bd v ht m2
    obtain ⟨v1, l0, l1⟩ := pre_val v m1
    obtain ⟨v2, r0, r1⟩ := pre_val v m2
    have f1 := fun s => t_lis_frac (s := s) (bd_mono hb1.dn)
    have f2 := fun s => t_lis_frac (s := s) (bd_mono hb2.dn)
    have g1 := fun s => t_lcurve_any (s := s) v hb1 (by omega)
    have g2 := fun s => t_lcurve_any (s := s) v hb2 (by omega)
    rw [v1] at g1
    rw [v2] at g2
    have q1 := fun s => w_neF (p := t) (q := t) (s := s)
    rw [decide_eq_true rfl] at q1
    have z1 := fun s => t_llt (s := s) hb2 hb1
    rw [decide_eq_false (by have := (m3 lo m1).2; grind)] at z1
    have i0 : ∀ (q : Rat) s, gIx (fr q) (.int 0) s = .ok (.int q.num) s := fun _ _ => rfl
    have k1 := fr_step
    have hlow : ∃ z : Rat, (∀ s, (if stepQ < lo then F__law_sub [fr lo, fr stepQ] s else .ok (fr 0) s) = .ok (fr z) s) ∧ (0 < lo.num → ∀ s, F__law_curve_at [kD f, fr z] s = .ok (fr (at_ f z)) s ∧ at_ f z ≠ t) := by
      by_cases c : stepQ < lo
      · refine ⟨lo - stepQ, fun s => by rw [if_pos c]; exact t_lsub hb1 Bd_step, fun _ s => ⟨t_lcurve_any v (Bd_sub hb1 Bd_step) (by omega), ?_⟩⟩
        have := step_pos
        exact pre_low v (fun x hx => (m3 x hx).1) (by grind) (by grind) (by grind)
      · refine ⟨0, fun s => by rw [if_neg c], fun hn s => ⟨t_lcurve_any v (Bd_nat (x := 0) (by omega)) (by omega), ?_⟩⟩
        have h3 : lo ≠ 0 := fun e => by
          rw [e] at hn
          revert hn
          decide
        exact pre_low v (fun x hx => (m3 x hx).1) (by decide) (by decide) (by grind)
    obtain ⟨z, hz1, hz2⟩ := hlow
    have st := fun s => t_llt (s := s) Bd_step hb1
    have k0 : D.tup [.int 0, .int 1] = fr 0 := rfl
    have ka : D.tup [.int 255, .int 1] = fr 255 := rfl
    have u1 := fun s => t_ladd (s := s) hb2 Bd_step
    have u2 := fun s => t_lcurve_any (s := s) v (Bd_add hb2 Bd_step) (by omega)
    have u3 := fun s => t_llt (s := s) ht (at_Bd f (hi + stepQ) v.chn v.rg (vne v) (Bd_add hb2 Bd_step))
    have u4 := fun s => w_neF (p := hi) (q := 255) (s := s)
    have hhi : hi ≠ 255 → t < at_ f (hi + stepQ) := fun hn => by
      have := step_pos
      exact pre_high v m2 (fun x hx => (m3 x hx).2) (by grind) hn
    have w1 : ∀ z, ∀ s, gEq (fr z) (fr t) s = .ok (.bl (decide (z = t))) s := fun z s => w_eqF
    refine ⟨.v (.tup [fr lo, fr hi]), .v (.bl true), .v (fr lo), .v (fr hi), .v (fr stepQ), ?_⟩
    have A : ∀ s, (mIf (mTest (mCallF F__law_lt (mCons (mVar 28) (mCons (mVar 26) mNil)))) (mCallF F__law_sub (mCons (mVar 26) (mCons (mVar 28) mNil))) (mTup (mCons (mC (.int 0)) (mCons (mC (.int 1)) mNil)))) [a0, a1, a2, .v (kD f), .v (cD f), .v (.lst (vals f)), a6, .v (fr t), a8, a9, a10, a11, a12, a13, a14, a15, a16, a17, a18, a19, a20, a21, a22, a23, .v (.tup [fr lo, fr hi]), .v (.bl true), .v (fr lo), .v (fr hi), .v (fr stepQ), a29] s = .ok (fr z) s := fun s => by
      have hz1 := hz1 s
      by_cases c : stepQ < lo
      · rw [decide_eq_true c] at st
        rw [if_pos c] at hz1
        clear hz2 hhi u1 u2 u3 u4 w1 m1 m2 m3 e1 c ht h0 h1 c1 c2 l0 l1 r0 r1 hb1 hb2 v1 v2 v
        decreasing_trivial
      · rw [decide_eq_false c] at st
        rw [if_neg c] at hz1
        clear hz2 hhi u1 u2 u3 u4 w1 m1 m2 m3 e1 c ht h0 h1 c1 c2 l0 l1 r0 r1 hb1 hb2 v1 v2 v
        decreasing_trivial
    unfold l_law_6
    generalize (mIf (mTest (mCallF F__law_lt (mCons (mVar 28) (mCons (mVar 26) mNil)))) (mCallF F__law_sub (mCons (mVar 26) (mCons (mVar 28) mNil))) (mTup (mCons (mC (.int 0)) (mCons (mC (.int 1)) mNil)))) = M at *
    clear hz1 st ht h0 h1 c1 c2 l0 l1 r0 r1 m1 m2 m3 hb1 hb2 v1 v2 v
    by_cases c : 0 < lo.num
    · have hz2 := hz2 c
      have n1 := fun s => (hz2 s).1
      have w2 := w1 (at_ f z)
      rw [decide_eq_false (hz2 s).2] at w2
      have c := decide_eq_true c
      by_cases d : hi = 255
      · rw [decide_eq_true d] at u4
        clear hz2 hhi u1 u2 u3 w1 d
        rename_i c0
        clear c0
        decreasing_trivial
      · rw [decide_eq_false d] at u4
        rw [decide_eq_true (hhi d)] at u3
        clear hz2 hhi w1 d
        rename_i c0
        clear c0
        decreasing_trivial
    · have c := decide_eq_false c
      by_cases d : hi = 255
      · rw [decide_eq_true d] at u4
        clear hz2 hhi u1 u2 u3 w1 d
        rename_i c0
        clear c0
        decreasing_trivial
      · rw [decide_eq_false d] at u4
        rw [decide_eq_true (hhi d)] at u3
        clear hz2 hhi w1 d
        rename_i c0
        clear c0
        decreasing_trivial
  · rw [← v.ai0, ← v.ain] at c
    refine ⟨.v .non, .v (.bl false), a26, a27, a28, ?_⟩
    unfold l_law_6
    by_cases c1 : t < ai f 0
    · rw [decide_eq_true c1] at y1
      clear y2 c c1 ht h0 h1 v
      decreasing_trivial
    · rw [decide_eq_false c1] at y1
      rw [decide_eq_true (by grind)] at y2
      clear c c1 ht h0 h1 v
      decreasing_trivial
end K02

namespace K02
open PySem PySem.Spec L2 Tv
local macro_rules | `(tactic| get_elem_tactic_extensible) => `(tactic| simp only [v_var, v_varB, v_c, v_op, v_un, v_nil, v_cons, v_tup, v_lst, v_test, v_and, v_or, v_not, v_if, v_andV, v_orV, v_notV, v_chain, v_call, v_callF, v_callV, v_isi, v_slice, v_comp, unowned, List.all_cons, List.all_nil, wipeR, and_true, true_and, and_false, false_and, Int.cast_ofNat_Int, v_part, v_noPart, v_fld, v_yes, v_seqI, v_rng1, v_rng2, v_enumI, v_zipI, v_next, v_seq, v_set, v_setO, v_drop, v_ret, v_retN, v_brk, v_cnt, v_ifS, v_frz, v_while, v_for, v_meth, v_setIx, v_cell, v_aug, v_pt, v_par, v_setF, v_fun, v_ne_ok, v_loopF_nil, v_compF_nil,
  w_add, Tv.w_sub, w_lt, w_le, w_gt, w_ge, w_neg, w_eqI, w_neI, w_eqB, w_neB, w_is, w_isNot, w_ix20, w_ix21, w_lenT, w_lenL, w_lenZ, w_abs, w_int, w_min, w_max, w_tupT, w_tupL, w_tupZ, kT_int, kT_bl, kT_non, kT_str, kT_tup, kT_lst, k2, Tv.isNon, Pt.run, Pts.run, setM, ownL, baseOk, seqV,
  List.map_cons, List.map_nil, List.cons_append, List.nil_append, List.append_nil, List.replicate_zero, List.replicate_succ, List.length_cons, List.length_nil, List.getElem?_cons_zero, List.getElem?_cons_succ, List.getElem?_nil, List.set_cons_zero, List.set_cons_succ, List.set_nil, Option.some.injEq, ↓reduceIte, reduceCtorEq, decide_true, decide_false, decide_eq_true_eq, Bool.not_true, Bool.not_false, Bool.false_eq_true, Bool.and_true, Bool.true_and, Bool.or_false, Bool.false_or, Bool.or_true, Bool.true_or, Bool.and_false, Bool.false_and, if_true, if_false, String.reduceEq, or_false, or_true, false_or, true_or, Int.reduceLE, Int.reduceLT, Int.reduceNeg, Int.reduceToNat, Int.reduceAdd, Nat.reduceAdd, Nat.reduceLT, Int.reduceSub, Int.reduceMul, Int.reduceEq, Nat.reduceEqDiff, Int.zero_sub, BEq.rfl])
local macro_rules | `(tactic| decreasing_trivial) => `(tactic| simp only [v_var, v_varB, v_c, v_op, v_un, v_nil, v_cons, v_tup, v_lst, v_test, v_and, v_or, v_not, v_if, v_andV, v_orV, v_notV, v_chain, v_call, v_callF, v_callV, v_isi, v_slice, v_comp, unowned, List.all_cons, List.all_nil, wipeR, and_true, true_and, and_false, false_and, Int.cast_ofNat_Int, v_part, v_noPart, v_fld, v_yes, v_seqI, v_rng1, v_rng2, v_enumI, v_zipI, v_next, v_seq, v_set, v_setO, v_drop, v_ret, v_retN, v_brk, v_cnt, v_ifS, v_frz, v_while, v_for, v_meth, v_setIx, v_cell, v_aug, v_pt, v_par, v_setF, v_fun, v_ne_ok, v_loopF_nil, v_compF_nil,
  w_add, Tv.w_sub, w_lt, w_le, w_gt, w_ge, w_neg, w_eqI, w_neI, w_eqB, w_neB, w_is, w_isNot, w_ix20, w_ix21, w_lenT, w_lenL, w_lenZ, w_abs, w_int, w_min, w_max, w_tupT, w_tupL, w_tupZ, kT_int, kT_bl, kT_non, kT_str, kT_tup, kT_lst, k2, Tv.isNon, Pt.run, Pts.run, setM, ownL, baseOk, seqV,
  List.map_cons, List.map_nil, List.cons_append, List.nil_append, List.append_nil, List.replicate_zero, List.replicate_succ, List.length_cons, List.length_nil, List.getElem?_cons_zero, List.getElem?_cons_succ, List.getElem?_nil, List.set_cons_zero, List.set_cons_succ, List.set_nil, Option.some.injEq, ↓reduceIte, reduceCtorEq, decide_true, decide_false, decide_eq_true_eq, Bool.not_true, Bool.not_false, Bool.false_eq_true, Bool.and_true, Bool.true_and, Bool.or_false, Bool.false_or, Bool.or_true, Bool.true_or, Bool.and_false, Bool.false_and, if_true, if_false, String.reduceEq, or_false, or_true, false_or, true_or, Int.reduceLE, Int.reduceLT, Int.reduceNeg, Int.reduceToNat, Int.reduceAdd, Nat.reduceAdd, Nat.reduceLT, Int.reduceSub, Int.reduceMul, Int.reduceEq, Nat.reduceEqDiff, Int.zero_sub, BEq.rfl, *])

variable {a0 a1 a2 a3 a4 a5 a6 a7 a8 a9 a10 a11 a12 a13 a14 a15 a16 a17 a18 a19 a20 a21 a22 a23 a24 a25 a26 a27 a28 a29 : SD}
def q_1 : SM := (mSet 3 (mCallF F__law_knots (mCons (mVar 1) mNil)))
def q_2 : SM := (mPt (.tp (.cons (.nm 4) (.cons (.nm 5) .nil))) (mTup (mCons (mCallF F_Curve_init (mCons (mVar 3) mNil)) (mCons (mComp [18] (mRng1 (mCons (mC (.int 256)) mNil)) (.nm 18) mYes e_law_1) mNil))))
def q_3 : SM := (mIfS (mNot (mTest (mCallF (F__law_alike 4) (mCons (mFld [(0, 0)] (mVar 4)) (mCons (mVar 3) mNil))))) (mRet (mC (.bl false))) mNext)
def q_4 : SM := (mFor (mRng1 (mCons (mC (.int 4)) mNil)) (.nm 6) l_law_1)
def q_5 : SM := (mPar [8, 9] [false, true] (mCons (mFld [(0, 0)] (mCallF F_shortest (mCons (mVar 4) mNil))) (mCons (mLst (mCons (mOp gIx (mVar 3) (mC (.int 0))) mNil)) mNil)))
def q_6 : SM := (mFor (mRng2 (mCons (mC (.int 1)) (mCons (mOp gSub (mCall gLen (mCons (mVar 3) mNil)) (mC (.int 1))) mNil))) (.nm 6) l_law_2)
def q_7 : SM := (mIfS (mNot (mTest (mCallF (F__law_alike 4) (mCons (mVar 8) (mCons (mCall gTuple (mCons (mOp gAddA (mVarB 9) (mLst (mCons (mOp gIx (mVar 3) (mUn gNeg (mC (.int 1)))) mNil))) mNil)) mNil))))) (mRet (mC (.bl false))) mNext)
def q_8 : SM := (mSet 12 (mCallF F__law_pick (mCons (mVar 1) (mCons (mLst (mCons (mVar 3) (mCons (mVar 8) (mCons (mCallF F__law_knots (mCons (mVar 1) mNil)) (mCons (mOp gAddA (mSlice gSliceA (mVar 3) mNoPart (mPart (mUn gNeg (mC (.int 1))))) (mTup (mCons (mTup (mCons (mC (.int 255)) (mCons (mCall gMin (mCons (mC (.int 255)) (mCons (mOp gAddA (mOp gIx (mOp gIx (mVar 3) (mUn gNeg (mC (.int 1)))) (mC (.int 1))) (mC (.int 1))) mNil))) mNil))) mNil))) mNil))))) mNil))))
def q_9 : SM := (mSet 13 (mComp [18] (mRng1 (mCons (mC (.int 256)) mNil)) (.nm 18) mYes e_law_2))
def q_10 : SM := (mSet 14 (mComp [18] (mRng1 (mCons (mC (.int 256)) mNil)) (.nm 18) t_law_1 (mVar 18)))
def q_11 : SM := (mIfS (mNot (mTest (mCallF (F__law_alike 4) (mCons (mTup (mCons (mCallF F_are_alike (mCons (mVar 4) (mCons (mCallF F_Curve_init (mCons (mVar 12) mNil)) mNil))) (mCons (mCallF F_apart (mCons (mVar 4) (mCons (mCallF F_Curve_init (mCons (mVar 12) mNil)) mNil))) mNil))) (mCons (mTup (mCons (mOp gEq (mVar 14) (mLst mNil)) (mCons (mIf (mTest (mOp gNe (mVar 14) (mLst mNil))) (mOp gIx (mVar 14) (mC (.int 0))) (mC .non)) mNil))) mNil))))) (mRet (mC (.bl false))) mNext)
def q_12 : SM := (mPt (.tp (.cons (.nm 15) (.cons (.nm 16) (.cons (.nm 17) .nil)))) (mTup (mCons (mTup (mCons (mC (.int 0)) (mCons (mC (.int 1)) mNil))) (mCons (mTup (mCons (mC (.int 0)) (mCons (mC (.int 1)) mNil))) (mCons (mTup (mCons (mC (.int 0)) (mCons (mC (.int 1)) mNil))) mNil)))))
def q_13 : SM := (mFor (mRng1 (mCons (mC (.int 256)) mNil)) (.nm 18) l_law_3)
def q_14 : SM := (mFor (mRng1 (mCons (mOp gSub (mCall gLen (mCons (mVar 3) mNil)) (mC (.int 1))) mNil)) (.nm 6) l_law_4)
def q_15 : SM := (mFor (mRng1 (mCons (mC (.int 255)) mNil)) (.nm 18) l_law_5)
def q_16 : SM := (mSet 21 (mTup (mCons (mCallF F_greatest_gap (mCons (mVar 4) (mCons (mCallF F_Curve_init (mCons (mVar 12) mNil)) mNil))) (mCons (mCallF F_steepest (mCons (mVar 4) mNil)) (mCons (mCallF F_area_below (mCons (mVar 4) mNil)) (mCons (mCallF F_is_rising (mCons (mVar 4) mNil)) mNil))))))
def q_17 : SM := (mSet 22 (mOp gEq (mComp [6] (mRng1 (mCons (mOp gSub (mCall gLen (mCons (mVar 3) mNil)) (mC (.int 1))) mNil)) (.nm 6) t_law_2 (mVar 6)) (mLst mNil)))
def q_18 : SM := (mIfS (mNot (mTest (mCallF (F__law_alike 4) (mCons (mVar 21) (mCons (mTup (mCons (mVar 15) (mCons (mVar 16) (mCons (mVar 17) (mCons (mVar 22) mNil))))) mNil))))) (mRet (mC (.bl false))) mNext)
def q_19 : SM := (mIfS (mNot (mTest (mCallF (F__law_alike 4) (mCons (mCallF F_cut_off (mCons (mVar 4) mNil)) (mCons (mCall gTuple (mCons (mComp [29] (mSeqI (mVar 5)) (.nm 29) mYes e_law_3) mNil)) mNil))))) (mRet (mC (.bl false))) mNext)
def q_20 : SM := (mSet 23 (mCallF F_rounded (mCons (mVar 4) mNil)))
def q_21 : SM := (mIfS (mOr (mTest (mOp gNe (mCall gLen (mCons (mVar 23) mNil)) (mC (.int 256)))) (mTest (mOp gNe (mComp [18] (mRng1 (mCons (mC (.int 256)) mNil)) (.nm 18) t_law_3 (mVar 18)) (mLst mNil)))) (mRet (mC (.bl false))) mNext)
def q_22 : SM := (mFor (mSeqI (mLst (mCons (mTup (mCons (mOp gIx (mOp gIx (mVar 3) (mC (.int 0))) (mC (.int 1))) (mCons (mC (.int 1)) mNil))) (mCons (mTup (mCons (mOp gIx (mOp gIx (mVar 3) (mUn gNeg (mC (.int 1)))) (mC (.int 1))) (mCons (mC (.int 1)) mNil))) (mCons (mCallF F__law_pick (mCons (mVar 1) (mCons (mVar 5) mNil))) (mCons (mCallF F__law_level (mCons (mVar 1) mNil)) mNil)))))) (.nm 7) l_law_6)
theorem l7_eq : l_law_7 = (mSeq q_1 (mSeq q_2 (mSeq q_3 (mSeq q_4 (mSeq q_5 (mSeq q_6 (mSeq q_7 (mSeq q_8 (mSeq q_9 (mSeq q_10 (mSeq q_11 (mSeq q_12 (mSeq q_13 (mSeq q_14 (mSeq q_15 (mSeq q_16 (mSeq q_17 (mSeq q_18 (mSeq q_19 (mSeq q_20 (mSeq q_21 q_22))))))))))))))))))))) := rfl

theorem plb_pD (n : Nat) (p : K2) : plb (n + 1) (pD p) = true := by
  unfold pD plb
  cases n <;> rfl
theorem plb_kD (n : Nat) {ks : Kn} (h : ks.length ≤ 100000) : plb (n + 2) (kD ks) = true := by
  unfold kD plb
  rw [Bool.and_eq_true, List.length_map]
  refine ⟨decide_eq_true h, ?_⟩
  rw [List.all_map, List.all_eq_true]
  exact fun p _ => plb_pD n p
theorem r256_ok : rngOk 256 = true := by decide
theorem r256_sz : ((rngD 0 256).length ≤ sizeLine) = True := by
  rw [rngD_len]
  exact eq_true (size_ok (by omega))
theorem fld0 : ([(0, 0)] : List (Nat × Nat)).lookup 0 = some 0 := rfl
def No (a : SD) : Prop := a = .un ∨ ∃ d, a = .v d
theorem q2_ok {f : Kn} {s : S} (v : Val f) (h : No a18) : q_2 [a0, a1, a2, .v (kD f), a4, a5, a6, a7, a8, a9, a10, a11, a12, a13, a14, a15, a16, a17, a18, a19, a20, a21, a22, a23, a24, a25, a26, a27, a28, a29] s = .nx [a0, a1, a2, .v (kD f), .v (cD f), .v (.lst (vals f)), a6, a7, a8, a9, a10, a11, a12, a13, a14, a15, a16, a17, a18, a19, a20, a21, a22, a23, a24, a25, a26, a27, a28, a29] s := by
  have e1 := fun s => t_init (s := s) v
  have e2 := r256_ok
  have e3 := r256_sz
  rcases h with rfl | ⟨d, rfl⟩
  · have e4 := fun (a4 a5 : SD) s => comp1 (a0 := a0) (a1 := a1) (a2 := a2) (a4 := a4) (a5 := a5) (a6 := a6) (a7 := a7) (a8 := a8) (a9 := a9) (a10 := a10) (a11 := a11) (a12 := a12) (a13 := a13) (a14 := a14) (a15 := a15) (a16 := a16) (a17 := a17) (a19 := a19) (a20 := a20) (a21 := a21) (a22 := a22) (a23 := a23) (a24 := a24) (a25 := a25) (a26 := a26) (a27 := a27) (a28 := a28) (a29 := a29) (s := s) v
    unfold q_2
    clear v
    decreasing_trivial
  · have e4 := fun (a4 a5 : SD) s => comp1 (a0 := a0) (a1 := a1) (a2 := a2) (a4 := a4) (a5 := a5) (a6 := a6) (a7 := a7) (a8 := a8) (a9 := a9) (a10 := a10) (a11 := a11) (a12 := a12) (a13 := a13) (a14 := a14) (a15 := a15) (a16 := a16) (a17 := a17) (a19 := a19) (a20 := a20) (a21 := a21) (a22 := a22) (a23 := a23) (a24 := a24) (a25 := a25) (a26 := a26) (a27 := a27) (a28 := a28) (a29 := a29) (s := s) v
    unfold q_2
    clear v
    decreasing_trivial
theorem q3_ok {f : Kn} {s : S} (v : Val f) : q_3 [a0, a1, a2, .v (kD f), .v (cD f), a5, a6, a7, a8, a9, a10, a11, a12, a13, a14, a15, a16, a17, a18, a19, a20, a21, a22, a23, a24, a25, a26, a27, a28, a29] s = .nx [a0, a1, a2, .v (kD f), .v (cD f), a5, a6, a7, a8, a9, a10, a11, a12, a13, a14, a15, a16, a17, a18, a19, a20, a21, a22, a23, a24, a25, a26, a27, a28, a29] s := by
  have e1 := fun s => t_alike 3 (kD f) s (plb_kD 1 (by have := v.most; omega))
  have e2 := fld0
  unfold q_3
  clear v
  unfold cD
  decreasing_trivial
theorem q4_ok {ns : List Int} {f : Kn} {s : S} (v : Val f) (r : Rw ns s) : ∃ (b6 b7 : SD) (s' : S), q_4 [a0, .v (.cell 0), a2, .v (kD f), .v (cD f), a5, a6, a7, a8, a9, a10, a11, a12, a13, a14, a15, a16, a17, a18, a19, a20, a21, a22, a23, a24, a25, a26, a27, a28, a29] s = .nx [a0, .v (.cell 0), a2, .v (kD f), .v (cD f), a5, b6, b7, a8, a9, a10, a11, a12, a13, a14, a15, a16, a17, a18, a19, a20, a21, a22, a23, a24, a25, a26, a27, a28, a29] s' ∧ Rw ns s' ∧ ∃ d, b6 = .v d := by
  obtain ⟨b6, b7, s', e, r', h⟩ := law1_loop (a0 := a0) (a2 := a2) (a5 := a5) (a8 := a8) (a9 := a9) (a10 := a10) (a11 := a11) (a12 := a12) (a13 := a13) (a14 := a14) (a15 := a15) (a16 := a16) (a17 := a17) (a18 := a18) (a19 := a19) (a20 := a20) (a21 := a21) (a22 := a22) (a23 := a23) (a24 := a24) (a25 := a25) (a26 := a26) (a27 := a27) (a28 := a28) (a29 := a29) v (rngD 0 4) (a6 := a6) (a7 := a7) r
  refine ⟨b6, b7, s', ?_, r', h (by decide)⟩
  have e2 : rngOk 4 = true := by decide
  unfold q_4
  clear v r r' h
  decreasing_trivial
theorem q5_ok {f : Kn} {p : K2} {r : Kn} {s : S} (v : Val f) (hf : f = p :: r) : q_5 [a0, a1, a2, .v (kD f), .v (cD f), a5, a6, a7, a8, a9, a10, a11, a12, a13, a14, a15, a16, a17, a18, a19, a20, a21, a22, a23, a24, a25, a26, a27, a28, a29] s = .nx [a0, a1, a2, .v (kD f), .v (cD f), a5, a6, a7, .v (kD (kept f)), .own (.lst ([p].map pD)), a10, a11, a12, a13, a14, a15, a16, a17, a18, a19, a20, a21, a22, a23, a24, a25, a26, a27, a28, a29] s := by
  have e1 := fun s => t_shortest (s := s) v
  have e2 := fld0
  have e3 : ∀ s, gIx (kD f) (.int 0) s = .ok (pD p) s := fun s => kD_ix (k := 0) (by rw [hf]; rfl)
  unfold q_5
  clear v hf
  decreasing_trivial
theorem q6_ok {f : Kn} {l : Kn} {s : S} (v : Val f) (hl : l.length ≤ 50) (h6 : ∃ d, a6 = .v d) : ∃ (b6 b10 b11 : SD), q_6 [a0, a1, a2, .v (kD f), a4, a5, a6, a7, a8, .own (.lst (l.map pD)), a10, a11, a12, a13, a14, a15, a16, a17, a18, a19, a20, a21, a22, a23, a24, a25, a26, a27, a28, a29] s = .nx [a0, a1, a2, .v (kD f), a4, a5, b6, a7, a8, .own (.lst ((l ++ inn f).map pD)), b10, b11, a12, a13, a14, a15, a16, a17, a18, a19, a20, a21, a22, a23, a24, a25, a26, a27, a28, a29] s ∧ ∃ d, b6 = .v d := by
  have h2 := v.two
  have h12 := v.most
  obtain ⟨b6, b10, b11, e, h⟩ := law2_loop (a0 := a0) (a1 := a1) (a2 := a2) (a4 := a4) (a5 := a5) (a7 := a7) (a8 := a8) (a12 := a12) (a13 := a13) (a14 := a14) (a15 := a15) (a16 := a16) (a17 := a17) (a18 := a18) (a19 := a19) (a20 := a20) (a21 := a21) (a22 := a22) (a23 := a23) (a24 := a24) (a25 := a25) (a26 := a26) (a27 := a27) (a28 := a28) (a29 := a29) (s := s) v (f.length - 2) 0 (l := l) (a6 := a6) (a10 := a10) (a11 := a11) (by omega) (by omega) h6
  rw [List.drop_zero, ← List.range_eq_range'] at e
  refine ⟨b6, b10, b11, ?_, h⟩
  have e1 : rngD 1 ((f.length : Int) - 1 - 1).toNat = (List.range (f.length - 2)).map fun k : Nat => D.int (1 + (k : Int)) := by
    rw [rngD_map]
    congr 2
    omega
  have e4 : ∀ s, gLen [kD f] s = .ok (.int (f.length : Nat)) s := fun s => by
    show R.ok (D.int ((f.map pD).length : Nat)) s = _
    rw [List.length_map]
  have e5 : rngOk ((f.length : Int) - 1) = true := rng_ok (by omega) (by omega)
  have e6 : rngOk 1 = true := by decide
  unfold q_6
  clear v h h6 hl h2 h12
  decreasing_trivial
end K02

namespace K02
open PySem PySem.Spec L2 Tv
local macro_rules | `(tactic| get_elem_tactic_extensible) => `(tactic| simp only [v_var, v_varB, v_c, v_op, v_un, v_nil, v_cons, v_tup, v_lst, v_test, v_and, v_or, v_not, v_if, v_andV, v_orV, v_notV, v_chain, v_call, v_callF, v_callV, v_isi, v_slice, v_comp, unowned, List.all_cons, List.all_nil, wipeR, and_true, true_and, and_false, false_and, Int.cast_ofNat_Int, v_part, v_noPart, v_fld, v_yes, v_seqI, v_rng1, v_rng2, v_enumI, v_zipI, v_next, v_seq, v_set, v_setO, v_drop, v_ret, v_retN, v_brk, v_cnt, v_ifS, v_frz, v_while, v_for, v_meth, v_setIx, v_cell, v_aug, v_pt, v_par, v_setF, v_fun, v_ne_ok, v_loopF_nil, v_compF_nil,
  w_add, Tv.w_sub, w_lt, w_le, w_gt, w_ge, w_neg, w_eqI, w_neI, w_eqB, w_neB, w_is, w_isNot, w_ix20, w_ix21, w_lenT, w_lenL, w_lenZ, w_abs, w_int, w_min, w_max, w_tupT, w_tupL, w_tupZ, kT_int, kT_bl, kT_non, kT_str, kT_tup, kT_lst, k2, Tv.isNon, Pt.run, Pts.run, setM, ownL, baseOk, seqV,
  List.map_cons, List.map_nil, List.cons_append, List.nil_append, List.append_nil, List.replicate_zero, List.replicate_succ, List.length_cons, List.length_nil, List.getElem?_cons_zero, List.getElem?_cons_succ, List.getElem?_nil, List.set_cons_zero, List.set_cons_succ, List.set_nil, Option.some.injEq, ↓reduceIte, reduceCtorEq, decide_true, decide_false, decide_eq_true_eq, Bool.not_true, Bool.not_false, Bool.false_eq_true, Bool.and_true, Bool.true_and, Bool.or_false, Bool.false_or, Bool.or_true, Bool.true_or, Bool.and_false, Bool.false_and, if_true, if_false, String.reduceEq, or_false, or_true, false_or, true_or, Int.reduceLE, Int.reduceLT, Int.reduceNeg, Int.reduceToNat, Int.reduceAdd, Nat.reduceAdd, Nat.reduceLT, Int.reduceSub, Int.reduceMul, Int.reduceEq, Nat.reduceEqDiff, Int.zero_sub, BEq.rfl])
local macro_rules | `(tactic| decreasing_trivial) => `(tactic| simp only [v_var, v_varB, v_c, v_op, v_un, v_nil, v_cons, v_tup, v_lst, v_test, v_and, v_or, v_not, v_if, v_andV, v_orV, v_notV, v_chain, v_call, v_callF, v_callV, v_isi, v_slice, v_comp, unowned, List.all_cons, List.all_nil, wipeR, and_true, true_and, and_false, false_and, Int.cast_ofNat_Int, v_part, v_noPart, v_fld, v_yes, v_seqI, v_rng1, v_rng2, v_enumI, v_zipI, v_next, v_seq, v_set, v_setO, v_drop, v_ret, v_retN, v_brk, v_cnt, v_ifS, v_frz, v_while, v_for, v_meth, v_setIx, v_cell, v_aug, v_pt, v_par, v_setF, v_fun, v_ne_ok, v_loopF_nil, v_compF_nil,
  w_add, Tv.w_sub, w_lt, w_le, w_gt, w_ge, w_neg, w_eqI, w_neI, w_eqB, w_neB, w_is, w_isNot, w_ix20, w_ix21, w_lenT, w_lenL, w_lenZ, w_abs, w_int, w_min, w_max, w_tupT, w_tupL, w_tupZ, kT_int, kT_bl, kT_non, kT_str, kT_tup, kT_lst, k2, Tv.isNon, Pt.run, Pts.run, setM, ownL, baseOk, seqV,
  List.map_cons, List.map_nil, List.cons_append, List.nil_append, List.append_nil, List.replicate_zero, List.replicate_succ, List.length_cons, List.length_nil, List.getElem?_cons_zero, List.getElem?_cons_succ, List.getElem?_nil, List.set_cons_zero, List.set_cons_succ, List.set_nil, Option.some.injEq, ↓reduceIte, reduceCtorEq, decide_true, decide_false, decide_eq_true_eq, Bool.not_true, Bool.not_false, Bool.false_eq_true, Bool.and_true, Bool.true_and, Bool.or_false, Bool.false_or, Bool.or_true, Bool.true_or, Bool.and_false, Bool.false_and, if_true, if_false, String.reduceEq, or_false, or_true, false_or, true_or, Int.reduceLE, Int.reduceLT, Int.reduceNeg, Int.reduceToNat, Int.reduceAdd, Nat.reduceAdd, Nat.reduceLT, Int.reduceSub, Int.reduceMul, Int.reduceEq, Nat.reduceEqDiff, Int.zero_sub, BEq.rfl, *])

variable {a0 a1 a2 a3 a4 a5 a6 a7 a8 a9 a10 a11 a12 a13 a14 a15 a16 a17 a18 a19 a20 a21 a22 a23 a24 a25 a26 a27 a28 a29 : SD}

theorem kD_last {f : Kn} {s : S} (v : Val f) : gIx (kD f) (.int (-1)) s = .ok (pD (lastP f)) s := ixT (by
  have h2 := v.two
  have := atI_neg (f.map pD) 0 (by rw [List.length_map]; omega)
  rw [show (-((0 : Nat) + 1 : Int)) = -1 by omega] at this
  rw [this, List.getElem?_map, List.length_map, Nat.sub_zero, lastP_get (vne v)]
  rfl)
theorem q7_ok {f : Kn} {p : K2} {r : Kn} {s : S} (v : Val f) (hf : f = p :: r) : q_7 [a0, a1, a2, .v (kD f), a4, a5, a6, a7, .v (kD (kept f)), .own (.lst (([p] ++ inn f).map pD)), a10, a11, a12, a13, a14, a15, a16, a17, a18, a19, a20, a21, a22, a23, a24, a25, a26, a27, a28, a29] s = .nx [a0, a1, a2, .v (kD f), a4, a5, a6, a7, .v (kD (kept f)), .own (.lst (([p] ++ inn f).map pD)), a10, a11, a12, a13, a14, a15, a16, a17, a18, a19, a20, a21, a22, a23, a24, a25, a26, a27, a28, a29] s := by
  have e1 := fun s => t_alike 3 (kD (kept f)) s (plb_kD 1 (by have := v.kept.most; omega))
  have e2 := fun s => kD_last (s := s) v
  have e3 : ∀ s, gAddA (.lst (([p] ++ inn f).map pD)) (.lst [pD (lastP f)]) s = .ok (.lst ((kept f).map pD)) s := fun s => by
    show (if _ then _ else _) = _
    rw [if_pos (by
      have h1 := inn_len f
      have h2 := v.most
      have := size_ok (n := 100) (by omega)
      rw [List.length_map, List.length_append, List.length_singleton, List.length_singleton]
      omega)]
    rw [hf]
    unfold kept
    simp
  have e4 : D.tup ((kept f).map pD) = kD (kept f) := rfl
  unfold q_7
  clear v hf
  generalize ([p] ++ inn f).map pD = M at *
  decreasing_trivial
theorem cutM1 {α : Type} (xs : List α) (h : 1 ≤ xs.length) : cutD xs none (some (-1)) = xs.take (xs.length - 1) := by
  unfold cutD
  rw [HT.sIx_none, List.drop_zero, Nat.sub_zero]
  congr 1
  unfold HT.sIx
  simp
  omega
theorem chn_rep {p q : K2} (h1 : q.1 = p.1) (h2 : p.2 ≤ q.2) : ∀ pre : Kn, Chn (pre ++ [p]) → Chn (pre ++ [q])
  | [], _ => trivial
  | [a], h => by
    have h3 : a.1 < p.1 := h.1
    have h4 : a.2 ≤ p.2 := h.2.1
    exact ⟨by omega, by omega, trivial⟩
  | a :: b :: l, h => ⟨h.1, h.2.1, chn_rep h1 h2 (b :: l) h.2.2⟩
theorem val_more {f : Kn} (v : Val f) : Val (f.dropLast ++ [(255, min 255 ((lastP f).2 + 1))]) := by
  have hl := v.rg _ (lastP_mem (vne v))
  have hx := v.xn
  obtain ⟨pre, p, hf⟩ : ∃ pre p, f = pre ++ [p] := by
    rcases List.eq_nil_or_concat f with h | ⟨pr, q, h⟩
    · exact absurd h (vne v)
    · exact ⟨pr, q, by rw [h, List.concat_eq_append]⟩
  have hp : lastP f = p := by rw [hf, lastP_app]
  rw [hp] at hl hx ⊢
  have hd : f.dropLast = pre := by rw [hf]; simp
  rw [hd]
  obtain ⟨two, most, chn, rg, ⟨y, r, h0⟩, xn⟩ := v
  rw [hf] at two most chn rg h0
  rw [List.length_append, List.length_singleton] at two most
  refine ⟨by rw [List.length_append, List.length_singleton]; exact two, by rw [List.length_append, List.length_singleton]; exact most, chn_rep (by show (255 : Int) = p.1; omega) (by show p.2 ≤ min 255 (p.2 + 1); omega) pre chn, ?_, ?_, by rw [lastP_app]⟩
  · intro q hq
    rcases List.mem_append.mp hq with hq | hq
    · exact rg q (List.mem_append_left _ hq)
    · rw [List.mem_singleton.mp hq]
      exact ⟨by show (0 : Int) ≤ 255; omega, by show (255 : Int) ≤ 255; omega, by show 0 ≤ min 255 (p.2 + 1); omega, by show min 255 (p.2 + 1) ≤ 255; omega⟩
  · cases pre with
    | nil => simp at two
    | cons a t =>
      have : a = (0, y) := (List.cons.inj h0).1
      exact ⟨y, t ++ [(255, min 255 (p.2 + 1))], by rw [this]; rfl⟩
theorem q8_ok {ns : List Int} {f : Kn} {s : S} (v : Val f) (r : Rw ns s) : ∃ (g : Kn) (s' : S), q_8 [a0, .v (.cell 0), a2, .v (kD f), a4, a5, a6, a7, .v (kD (kept f)), a9, a10, a11, a12, a13, a14, a15, a16, a17, a18, a19, a20, a21, a22, a23, a24, a25, a26, a27, a28, a29] s = .nx [a0, .v (.cell 0), a2, .v (kD f), a4, a5, a6, a7, .v (kD (kept f)), a9, a10, a11, .v (kD g), a13, a14, a15, a16, a17, a18, a19, a20, a21, a22, a23, a24, a25, a26, a27, a28, a29] s' ∧ Val g ∧ Rw ns s' := by
  obtain ⟨k, s1, e1, vk, r1⟩ := t_knots r
  have hm := v.most
  have ht := v.two
  obtain ⟨d, s2, e2, m2, r2⟩ := t_pick (ds := [kD f, kD (kept f), kD k, kD (f.dropLast ++ [(255, min 255 ((lastP f).2 + 1))])]) r1 (by simp) (by simp)
  obtain ⟨g, rfl, vg⟩ : ∃ g, d = kD g ∧ Val g := by
    simp only [List.mem_cons, List.not_mem_nil, or_false] at m2
    rcases m2 with rfl | rfl | rfl | rfl
    · exact ⟨_, rfl, v⟩
    · exact ⟨_, rfl, v.kept⟩
    · exact ⟨_, rfl, vk⟩
    · exact ⟨_, rfl, val_more v⟩
  refine ⟨g, s2, ?_, vg, r2⟩
  have f1 : ∀ s, gSliceA (kD f) none (some (-1)) s = .ok (.tup (f.dropLast.map pD)) s := fun s => by
    show R.ok (D.tup (cutD (f.map pD) none (some (-1)))) s = _
    rw [cutM1 _ (by rw [List.length_map]; omega), List.length_map, ← List.map_take, List.dropLast_eq_take]
  have f2 := fun s => kD_last (s := s) v
  have f3 := fun (p : K2) s => pD1 (p := p) (s := s)
  have f4 : ∀ s, gAddA (.tup (f.dropLast.map pD)) (.tup [.tup [.int 255, .int (min 255 ((lastP f).2 + 1))]]) s = .ok (kD (f.dropLast ++ [(255, min 255 ((lastP f).2 + 1))])) s := fun s => by
    show (if _ then _ else _) = _
    rw [if_pos (by
      rw [List.length_map, List.length_dropLast, List.length_singleton]
      have := size_ok (n := 100) (by omega)
      omega)]
    unfold kD
    rw [List.map_append]
    rfl
  unfold q_8
  clear v r r1 r2 vk vg m2 hm ht
  generalize kD (f.dropLast ++ [(255, min 255 ((lastP f).2 + 1))]) = Z at *
  decreasing_trivial
theorem q9_ok {g : Kn} {s : S} (v : Val g) (h : No a18) : q_9 [a0, a1, a2, a3, a4, a5, a6, a7, a8, a9, a10, a11, .v (kD g), a13, a14, a15, a16, a17, a18, a19, a20, a21, a22, a23, a24, a25, a26, a27, a28, a29] s = .nx [a0, a1, a2, a3, a4, a5, a6, a7, a8, a9, a10, a11, .v (kD g), .v (.lst (vals g)), a14, a15, a16, a17, a18, a19, a20, a21, a22, a23, a24, a25, a26, a27, a28, a29] s := by
  have e2 := r256_ok
  have e3 := r256_sz
  rcases h with rfl | ⟨d, rfl⟩
  · have e4 := fun (a13 : SD) s => comp2 (a0 := a0) (a1 := a1) (a2 := a2) (a3 := a3) (a4 := a4) (a5 := a5) (a6 := a6) (a7 := a7) (a8 := a8) (a9 := a9) (a10 := a10) (a11 := a11) (a13 := a13) (a14 := a14) (a15 := a15) (a16 := a16) (a17 := a17) (a19 := a19) (a20 := a20) (a21 := a21) (a22 := a22) (a23 := a23) (a24 := a24) (a25 := a25) (a26 := a26) (a27 := a27) (a28 := a28) (a29 := a29) (s := s) v
    unfold q_9
    clear v
    decreasing_trivial
  · have e4 := fun (a13 : SD) s => comp2 (a0 := a0) (a1 := a1) (a2 := a2) (a3 := a3) (a4 := a4) (a5 := a5) (a6 := a6) (a7 := a7) (a8 := a8) (a9 := a9) (a10 := a10) (a11 := a11) (a13 := a13) (a14 := a14) (a15 := a15) (a16 := a16) (a17 := a17) (a19 := a19) (a20 := a20) (a21 := a21) (a22 := a22) (a23 := a23) (a24 := a24) (a25 := a25) (a26 := a26) (a27 := a27) (a28 := a28) (a29 := a29) (s := s) v
    unfold q_9
    clear v
    decreasing_trivial
def wrong (f g : Kn) : List D := (r256.filter (nq f g)).map fun x : Nat => D.int (x : Int)
theorem q10_ok {f g : Kn} {s : S} (h : No a18) : q_10 [a0, a1, a2, a3, a4, .v (.lst (vals f)), a6, a7, a8, a9, a10, a11, a12, .v (.lst (vals g)), a14, a15, a16, a17, a18, a19, a20, a21, a22, a23, a24, a25, a26, a27, a28, a29] s = .nx [a0, a1, a2, a3, a4, .v (.lst (vals f)), a6, a7, a8, a9, a10, a11, a12, .v (.lst (vals g)), .v (.lst (wrong f g)), a15, a16, a17, a18, a19, a20, a21, a22, a23, a24, a25, a26, a27, a28, a29] s := by
  have e2 := r256_ok
  have e3 := r256_sz
  rcases h with rfl | ⟨d, rfl⟩
  · have e4 := fun (a14 : SD) s => comp3 (f := f) (g := g) (a0 := a0) (a1 := a1) (a2 := a2) (a3 := a3) (a4 := a4) (a6 := a6) (a7 := a7) (a8 := a8) (a9 := a9) (a10 := a10) (a11 := a11) (a12 := a12) (a14 := a14) (a15 := a15) (a16 := a16) (a17 := a17) (a19 := a19) (a20 := a20) (a21 := a21) (a22 := a22) (a23 := a23) (a24 := a24) (a25 := a25) (a26 := a26) (a27 := a27) (a28 := a28) (a29 := a29) (s := s)
    unfold q_10 wrong
    decreasing_trivial
  · have e4 := fun (a14 : SD) s => comp3 (f := f) (g := g) (a0 := a0) (a1 := a1) (a2 := a2) (a3 := a3) (a4 := a4) (a6 := a6) (a7 := a7) (a8 := a8) (a9 := a9) (a10 := a10) (a11 := a11) (a12 := a12) (a14 := a14) (a15 := a15) (a16 := a16) (a17 := a17) (a19 := a19) (a20 := a20) (a21 := a21) (a22 := a22) (a23 := a23) (a24 := a24) (a25 := a25) (a26 := a26) (a27 := a27) (a28 := a28) (a29 := a29) (s := s)
    unfold q_10 wrong
    decreasing_trivial
theorem wrong_nil {f g : Kn} (vf : Val f) (vg : Val g) : wrong f g = [] ↔ kept f = kept g := by
  rw [alike_iff vf vg]
  unfold wrong
  rw [List.map_eq_nil_iff, List.filter_eq_nil_iff]
  constructor
  · intro h x hx
    have := h x (List.mem_range.mpr hx)
    unfold nq at this
    simpa using this
  · intro h x hx
    have := h x (List.mem_range.mp hx)
    unfold nq
    simpa using this
theorem q12_ok {s : S} : q_12 [a0, a1, a2, a3, a4, a5, a6, a7, a8, a9, a10, a11, a12, a13, a14, a15, a16, a17, a18, a19, a20, a21, a22, a23, a24, a25, a26, a27, a28, a29] s = .nx [a0, a1, a2, a3, a4, a5, a6, a7, a8, a9, a10, a11, a12, a13, a14, .v (fr 0), .v (fr 0), .v (fr 0), a18, a19, a20, a21, a22, a23, a24, a25, a26, a27, a28, a29] s := by
  have e : D.tup [.int 0, .int 1] = fr 0 := rfl
  unfold q_12
  decreasing_trivial
end K02

namespace K02
open PySem PySem.Spec L2 Tv
local macro_rules | `(tactic| get_elem_tactic_extensible) => `(tactic| simp only [v_var, v_varB, v_c, v_op, v_un, v_nil, v_cons, v_tup, v_lst, v_test, v_and, v_or, v_not, v_if, v_andV, v_orV, v_notV, v_chain, v_call, v_callF, v_callV, v_isi, v_slice, v_comp, unowned, List.all_cons, List.all_nil, wipeR, and_true, true_and, and_false, false_and, Int.cast_ofNat_Int, v_part, v_noPart, v_fld, v_yes, v_seqI, v_rng1, v_rng2, v_enumI, v_zipI, v_next, v_seq, v_set, v_setO, v_drop, v_ret, v_retN, v_brk, v_cnt, v_ifS, v_frz, v_while, v_for, v_meth, v_setIx, v_cell, v_aug, v_pt, v_par, v_setF, v_fun, v_ne_ok, v_loopF_nil, v_compF_nil,
  w_add, Tv.w_sub, w_lt, w_le, w_gt, w_ge, w_neg, w_eqI, w_neI, w_eqB, w_neB, w_is, w_isNot, w_ix20, w_ix21, w_lenT, w_lenL, w_lenZ, w_abs, w_int, w_min, w_max, w_tupT, w_tupL, w_tupZ, kT_int, kT_bl, kT_non, kT_str, kT_tup, kT_lst, k2, Tv.isNon, Pt.run, Pts.run, setM, ownL, baseOk, seqV,
  List.map_cons, List.map_nil, List.cons_append, List.nil_append, List.append_nil, List.replicate_zero, List.replicate_succ, List.length_cons, List.length_nil, List.getElem?_cons_zero, List.getElem?_cons_succ, List.getElem?_nil, List.set_cons_zero, List.set_cons_succ, List.set_nil, Option.some.injEq, ↓reduceIte, reduceCtorEq, decide_true, decide_false, decide_eq_true_eq, Bool.not_true, Bool.not_false, Bool.false_eq_true, Bool.and_true, Bool.true_and, Bool.or_false, Bool.false_or, Bool.or_true, Bool.true_or, Bool.and_false, Bool.false_and, if_true, if_false, String.reduceEq, or_false, or_true, false_or, true_or, Int.reduceLE, Int.reduceLT, Int.reduceNeg, Int.reduceToNat, Int.reduceAdd, Nat.reduceAdd, Nat.reduceLT, Int.reduceSub, Int.reduceMul, Int.reduceEq, Nat.reduceEqDiff, Int.zero_sub, BEq.rfl])
local macro_rules | `(tactic| decreasing_trivial) => `(tactic| simp only [v_var, v_varB, v_c, v_op, v_un, v_nil, v_cons, v_tup, v_lst, v_test, v_and, v_or, v_not, v_if, v_andV, v_orV, v_notV, v_chain, v_call, v_callF, v_callV, v_isi, v_slice, v_comp, unowned, List.all_cons, List.all_nil, wipeR, and_true, true_and, and_false, false_and, Int.cast_ofNat_Int, v_part, v_noPart, v_fld, v_yes, v_seqI, v_rng1, v_rng2, v_enumI, v_zipI, v_next, v_seq, v_set, v_setO, v_drop, v_ret, v_retN, v_brk, v_cnt, v_ifS, v_frz, v_while, v_for, v_meth, v_setIx, v_cell, v_aug, v_pt, v_par, v_setF, v_fun, v_ne_ok, v_loopF_nil, v_compF_nil,
  w_add, Tv.w_sub, w_lt, w_le, w_gt, w_ge, w_neg, w_eqI, w_neI, w_eqB, w_neB, w_is, w_isNot, w_ix20, w_ix21, w_lenT, w_lenL, w_lenZ, w_abs, w_int, w_min, w_max, w_tupT, w_tupL, w_tupZ, kT_int, kT_bl, kT_non, kT_str, kT_tup, kT_lst, k2, Tv.isNon, Pt.run, Pts.run, setM, ownL, baseOk, seqV,
  List.map_cons, List.map_nil, List.cons_append, List.nil_append, List.append_nil, List.replicate_zero, List.replicate_succ, List.length_cons, List.length_nil, List.getElem?_cons_zero, List.getElem?_cons_succ, List.getElem?_nil, List.set_cons_zero, List.set_cons_succ, List.set_nil, Option.some.injEq, ↓reduceIte, reduceCtorEq, decide_true, decide_false, decide_eq_true_eq, Bool.not_true, Bool.not_false, Bool.false_eq_true, Bool.and_true, Bool.true_and, Bool.or_false, Bool.false_or, Bool.or_true, Bool.true_or, Bool.and_false, Bool.false_and, if_true, if_false, String.reduceEq, or_false, or_true, false_or, true_or, Int.reduceLE, Int.reduceLT, Int.reduceNeg, Int.reduceToNat, Int.reduceAdd, Nat.reduceAdd, Nat.reduceLT, Int.reduceSub, Int.reduceMul, Int.reduceEq, Nat.reduceEqDiff, Int.zero_sub, BEq.rfl, *])

variable {a0 a1 a2 a3 a4 a5 a6 a7 a8 a9 a10 a11 a12 a13 a14 a15 a16 a17 a18 a19 a20 a21 a22 a23 a24 a25 a26 a27 a28 a29 : SD}

theorem pl_ints {l : List Nat} : pl 1 (.lst (l.map fun x : Nat => D.int (x : Int))) = true := by
  unfold pl
  rw [List.all_map, List.all_eq_true]
  exact fun _ _ => rfl
theorem eq_wrong {f g : Kn} {s : S} : gEq (.lst (wrong f g)) (.lst []) s = .ok (.bl (decide (wrong f g = []))) s := w_eq (eqD_pl (n := 1) pl_ints rfl (by omega) (by
  rw [decide_eq_true_eq]
  exact ⟨fun h => congrArg D.lst h, fun h => D.lst.inj h⟩))
theorem ne_wrong {f g : Kn} {s : S} : gNe (.lst (wrong f g)) (.lst []) s = .ok (.bl (!decide (wrong f g = []))) s := w_ne (eqD_pl (n := 1) pl_ints rfl (by omega) (by
  rw [decide_eq_true_eq]
  exact ⟨fun h => congrArg D.lst h, fun h => D.lst.inj h⟩))
theorem q11_ok {f g : Kn} {s : S} (vf : Val f) (vg : Val g) : q_11 [a0, a1, a2, a3, .v (cD f), a5, a6, a7, a8, a9, a10, a11, .v (kD g), a13, .v (.lst (wrong f g)), a15, a16, a17, a18, a19, a20, a21, a22, a23, a24, a25, a26, a27, a28, a29] s = .nx [a0, a1, a2, a3, .v (cD f), a5, a6, a7, a8, a9, a10, a11, .v (kD g), a13, .v (.lst (wrong f g)), a15, a16, a17, a18, a19, a20, a21, a22, a23, a24, a25, a26, a27, a28, a29] s := by
  have e1 := fun s => t_are_alike (s := s) vf vg
  have e2 := fun s => t_apart (s := s) vf vg
  have e3 := fun s => t_init (s := s) vg
  have e4 := fun s => eq_wrong (f := f) (g := g) (s := s)
  have e5 := fun s => ne_wrong (f := f) (g := g) (s := s)
  have hw := wrong_nil vf vg
  rw [show decide (kept f = kept g) = decide (wrong f g = []) from decide_eq_decide.mpr hw.symm] at e1
  rw [← List.head?_filter] at e2
  unfold q_11
  cases hl : r256.filter (nq f g) with
  | nil =>
    have h0 : wrong f g = [] := by
      unfold wrong
      rw [hl]
      rfl
    rw [hl] at e2
    rw [decide_eq_true h0] at e1 e4 e5
    have e6 := fun s => t_alike 3 (.tup [.bl true, .non]) s rfl
    have e2' : ∀ s, F_apart [cD f, cD g] s = .ok .non s := e2
    clear e2
    generalize wrong f g = M at *
    clear vf vg hw hl h0
    decreasing_trivial
  | cons x l =>
    have h0 : ¬ wrong f g = [] := by
      unfold wrong
      rw [hl]
      intro h
      cases h
    have e8 : ∀ s, gIx (.lst (wrong f g)) (.int 0) s = .ok (.int (x : Int)) s := fun s => ixL (atI_get (i := 0) (by
      unfold wrong
      rw [hl]
      rfl))
    rw [hl] at e2
    rw [decide_eq_false h0] at e1 e4 e5
    have e6 := fun s => t_alike 3 (.tup [.bl false, .int (x : Int)]) s rfl
    have e2' : ∀ s, F_apart [cD f, cD g] s = .ok (.int (x : Int)) s := e2
    clear e2
    generalize wrong f g = M at *
    clear vf vg hw hl h0
    decreasing_trivial
theorem q13_ok {f g : Kn} {s : S} (vf : Val f) (vg : Val g) : ∃ b18 b19, q_13 [a0, a1, a2, a3, a4, .v (.lst (vals f)), a6, a7, a8, a9, a10, a11, a12, .v (.lst (vals g)), a14, .v (fr 0), a16, a17, a18, a19, a20, a21, a22, a23, a24, a25, a26, a27, a28, a29] s = .nx [a0, a1, a2, a3, a4, .v (.lst (vals f)), a6, a7, a8, a9, a10, a11, a12, .v (.lst (vals g)), a14, .v (fr (ggap f g)), a16, a17, b18, b19, a20, a21, a22, a23, a24, a25, a26, a27, a28, a29] s ∧ ∃ d, b18 = .v d := by
  obtain ⟨b18, b19, e, h⟩ := law3_loop (a0 := a0) (a1 := a1) (a2 := a2) (a3 := a3) (a4 := a4) (a6 := a6) (a7 := a7) (a8 := a8) (a9 := a9) (a10 := a10) (a11 := a11) (a12 := a12) (a14 := a14) (a16 := a16) (a17 := a17) (a20 := a20) (a21 := a21) (a22 := a22) (a23 := a23) (a24 := a24) (a25 := a25) (a26 := a26) (a27 := a27) (a28 := a28) (a29 := a29) (s := s) vf vg r256 (q := 0) (a18 := a18) (a19 := a19) (fun x hx => by have := List.mem_range.mp hx; omega) ((Bd_nat (x := 0) (by omega)).mono)
  refine ⟨b18, b19, ?_, h (by decide)⟩
  have e2 := r256_ok
  have e3 := gap_eq vf vg
  have e4 : (fun (q : Rat) (x : Nat) => mx q (hd3 f g x)) = fun q x => mx q (ab (ai f x - ai g x)) := rfl
  rw [e4, e3, ← rng256'] at e
  unfold q_13
  clear vf vg h e3 e4
  decreasing_trivial
theorem q14_ok {f : Kn} {s : S} (v : Val f) : ∃ b6 b20, q_14 [a0, a1, a2, .v (kD f), a4, a5, a6, a7, a8, a9, a10, a11, a12, a13, a14, a15, .v (fr 0), a17, a18, a19, a20, a21, a22, a23, a24, a25, a26, a27, a28, a29] s = .nx [a0, a1, a2, .v (kD f), a4, a5, b6, a7, a8, a9, a10, a11, a12, a13, a14, a15, .v (fr (stp f)), a17, a18, a19, b20, a21, a22, a23, a24, a25, a26, a27, a28, a29] s ∧ ∃ d, b6 = .v d := by
  have h2 := v.two
  have h12 := v.most
  obtain ⟨b6, b20, e, h⟩ := law4_loop (a0 := a0) (a1 := a1) (a2 := a2) (a4 := a4) (a5 := a5) (a7 := a7) (a8 := a8) (a9 := a9) (a10 := a10) (a11 := a11) (a12 := a12) (a13 := a13) (a14 := a14) (a15 := a15) (a17 := a17) (a18 := a18) (a19 := a19) (a21 := a21) (a22 := a22) (a23 := a23) (a24 := a24) (a25 := a25) (a26 := a26) (a27 := a27) (a28 := a28) (a29 := a29) (s := s) v (f.length - 1) 0 (w := 0) (a6 := a6) (a20 := a20) (by omega) ((Bd_nat (x := 0) (by omega)).mono)
  rw [List.drop_zero, ← List.range_eq_range'] at e
  refine ⟨b6, b20, ?_, h (by omega)⟩
  have e1 : rngD 0 ((f.length : Int) - 1).toNat = (List.range (f.length - 1)).map fun k : Nat => D.int (0 + (k : Int)) := by
    rw [rngD_map]
    congr 2
    omega
  have e4 : ∀ s, gLen [kD f] s = .ok (.int (f.length : Nat)) s := fun s => by
    show R.ok (D.int ((f.map pD).length : Nat)) s = _
    rw [List.length_map]
  have e5 : rngOk ((f.length : Int) - 1) = true := rng_ok (by omega) (by omega)
  unfold q_14 stp
  clear v h h2 h12
  decreasing_trivial
theorem q15_ok {f : Kn} {s : S} (v : Val f) : ∃ b18, q_15 [a0, a1, a2, a3, a4, .v (.lst (vals f)), a6, a7, a8, a9, a10, a11, a12, a13, a14, a15, a16, .v (fr 0), a18, a19, a20, a21, a22, a23, a24, a25, a26, a27, a28, a29] s = .nx [a0, a1, a2, a3, a4, .v (.lst (vals f)), a6, a7, a8, a9, a10, a11, a12, a13, a14, a15, a16, .v (fr (area f)), b18, a19, a20, a21, a22, a23, a24, a25, a26, a27, a28, a29] s ∧ ∃ d, b18 = .v d := by
  obtain ⟨b18, e, h⟩ := law5_loop (a0 := a0) (a1 := a1) (a2 := a2) (a3 := a3) (a4 := a4) (a6 := a6) (a7 := a7) (a8 := a8) (a9 := a9) (a10 := a10) (a11 := a11) (a12 := a12) (a13 := a13) (a14 := a14) (a15 := a15) (a16 := a16) (a19 := a19) (a20 := a20) (a21 := a21) (a22 := a22) (a23 := a23) (a24 := a24) (a25 := a25) (a26 := a26) (a27 := a27) (a28 := a28) (a29 := a29) (s := s) v 255 0 (a18 := a18) (by omega)
  have e0 : T f ((0 : Nat) : Rat) = 0 := v.T0
  rw [e0, ← List.range_eq_range'] at e
  refine ⟨b18, ?_, h (by omega)⟩
  have e1 : rngD 0 255 = (List.range 255).map fun k : Nat => D.int (0 + (k : Int)) := rfl
  have e2 : rngOk 255 = true := by decide
  unfold q_15
  clear v h e0
  decreasing_trivial
def risD (f : Kn) : Bool := (prs f).all fun a => decide (a.1.2 < a.2.2)
theorem q16_ok {f g : Kn} {s : S} (vf : Val f) (vg : Val g) : q_16 [a0, a1, a2, a3, .v (cD f), a5, a6, a7, a8, a9, a10, a11, .v (kD g), a13, a14, a15, a16, a17, a18, a19, a20, a21, a22, a23, a24, a25, a26, a27, a28, a29] s = .nx [a0, a1, a2, a3, .v (cD f), a5, a6, a7, a8, a9, a10, a11, .v (kD g), a13, a14, a15, a16, a17, a18, a19, a20, .v (.tup [fr (ggap f g), fr (stp f), fr (area f), .bl (risD f)]), a22, a23, a24, a25, a26, a27, a28, a29] s := by
  have e1 := fun s => t_gap (s := s) vf vg
  have e2 := fun s => t_steepest (s := s) vf
  have e3 := fun s => t_area (s := s) vf
  have e4 := fun s => t_is_rising (s := s) vf
  have e5 := fun s => t_init (s := s) vg
  unfold q_16 risD
  clear vf vg
  decreasing_trivial
end K02

namespace K02
open PySem PySem.Spec L2 Tv
local macro_rules | `(tactic| get_elem_tactic_extensible) => `(tactic| simp only [v_var, v_varB, v_c, v_op, v_un, v_nil, v_cons, v_tup, v_lst, v_test, v_and, v_or, v_not, v_if, v_andV, v_orV, v_notV, v_chain, v_call, v_callF, v_callV, v_isi, v_slice, v_comp, unowned, List.all_cons, List.all_nil, wipeR, and_true, true_and, and_false, false_and, Int.cast_ofNat_Int, v_part, v_noPart, v_fld, v_yes, v_seqI, v_rng1, v_rng2, v_enumI, v_zipI, v_next, v_seq, v_set, v_setO, v_drop, v_ret, v_retN, v_brk, v_cnt, v_ifS, v_frz, v_while, v_for, v_meth, v_setIx, v_cell, v_aug, v_pt, v_par, v_setF, v_fun, v_ne_ok, v_loopF_nil, v_compF_nil,
  w_add, Tv.w_sub, w_lt, w_le, w_gt, w_ge, w_neg, w_eqI, w_neI, w_eqB, w_neB, w_is, w_isNot, w_ix20, w_ix21, w_lenT, w_lenL, w_lenZ, w_abs, w_int, w_min, w_max, w_tupT, w_tupL, w_tupZ, kT_int, kT_bl, kT_non, kT_str, kT_tup, kT_lst, k2, Tv.isNon, Pt.run, Pts.run, setM, ownL, baseOk, seqV,
  List.map_cons, List.map_nil, List.cons_append, List.nil_append, List.append_nil, List.replicate_zero, List.replicate_succ, List.length_cons, List.length_nil, List.getElem?_cons_zero, List.getElem?_cons_succ, List.getElem?_nil, List.set_cons_zero, List.set_cons_succ, List.set_nil, Option.some.injEq, ↓reduceIte, reduceCtorEq, decide_true, decide_false, decide_eq_true_eq, Bool.not_true, Bool.not_false, Bool.false_eq_true, Bool.and_true, Bool.true_and, Bool.or_false, Bool.false_or, Bool.or_true, Bool.true_or, Bool.and_false, Bool.false_and, if_true, if_false, String.reduceEq, or_false, or_true, false_or, true_or, Int.reduceLE, Int.reduceLT, Int.reduceNeg, Int.reduceToNat, Int.reduceAdd, Nat.reduceAdd, Nat.reduceLT, Int.reduceSub, Int.reduceMul, Int.reduceEq, Nat.reduceEqDiff, Int.zero_sub, BEq.rfl])
local macro_rules | `(tactic| decreasing_trivial) => `(tactic| simp only [v_var, v_varB, v_c, v_op, v_un, v_nil, v_cons, v_tup, v_lst, v_test, v_and, v_or, v_not, v_if, v_andV, v_orV, v_notV, v_chain, v_call, v_callF, v_callV, v_isi, v_slice, v_comp, unowned, List.all_cons, List.all_nil, wipeR, and_true, true_and, and_false, false_and, Int.cast_ofNat_Int, v_part, v_noPart, v_fld, v_yes, v_seqI, v_rng1, v_rng2, v_enumI, v_zipI, v_next, v_seq, v_set, v_setO, v_drop, v_ret, v_retN, v_brk, v_cnt, v_ifS, v_frz, v_while, v_for, v_meth, v_setIx, v_cell, v_aug, v_pt, v_par, v_setF, v_fun, v_ne_ok, v_loopF_nil, v_compF_nil,
  w_add, Tv.w_sub, w_lt, w_le, w_gt, w_ge, w_neg, w_eqI, w_neI, w_eqB, w_neB, w_is, w_isNot, w_ix20, w_ix21, w_lenT, w_lenL, w_lenZ, w_abs, w_int, w_min, w_max, w_tupT, w_tupL, w_tupZ, kT_int, kT_bl, kT_non, kT_str, kT_tup, kT_lst, k2, Tv.isNon, Pt.run, Pts.run, setM, ownL, baseOk, seqV,
  List.map_cons, List.map_nil, List.cons_append, List.nil_append, List.append_nil, List.replicate_zero, List.replicate_succ, List.length_cons, List.length_nil, List.getElem?_cons_zero, List.getElem?_cons_succ, List.getElem?_nil, List.set_cons_zero, List.set_cons_succ, List.set_nil, Option.some.injEq, ↓reduceIte, reduceCtorEq, decide_true, decide_false, decide_eq_true_eq, Bool.not_true, Bool.not_false, Bool.false_eq_true, Bool.and_true, Bool.true_and, Bool.or_false, Bool.false_or, Bool.or_true, Bool.true_or, Bool.and_false, Bool.false_and, if_true, if_false, String.reduceEq, or_false, or_true, false_or, true_or, Int.reduceLE, Int.reduceLT, Int.reduceNeg, Int.reduceToNat, Int.reduceAdd, Nat.reduceAdd, Nat.reduceLT, Int.reduceSub, Int.reduceMul, Int.reduceEq, Nat.reduceEqDiff, Int.zero_sub, BEq.rfl, *])

variable {a0 a1 a2 a3 a4 a5 a6 a7 a8 a9 a10 a11 a12 a13 a14 a15 a16 a17 a18 a19 a20 a21 a22 a23 a24 a25 a26 a27 a28 a29 : SD}

theorem pl_ints0 {l : List Nat} : pl 1 (.lst (l.map fun x : Nat => D.int (0 + (x : Int)))) = true := by
  unfold pl
  rw [List.all_map, List.all_eq_true]
  exact fun _ _ => rfl
theorem q17_ok {f : Kn} {s : S} (v : Val f) (h : ∃ d, a6 = .v d) : q_17 [a0, a1, a2, .v (kD f), a4, a5, a6, a7, a8, a9, a10, a11, a12, a13, a14, a15, a16, a17, a18, a19, a20, a21, a22, a23, a24, a25, a26, a27, a28, a29] s = .nx [a0, a1, a2, .v (kD f), a4, a5, a6, a7, a8, a9, a10, a11, a12, a13, a14, a15, a16, a17, a18, a19, a20, a21, .v (.bl (risD f)), a23, a24, a25, a26, a27, a28, a29] s := by
  obtain ⟨d, rfl⟩ := h
  have h2 := v.two
  have h12 := v.most
  obtain ⟨l, e, hl⟩ := comp4 (a0 := a0) (a1 := a1) (a2 := a2) (a4 := a4) (a5 := a5) (a7 := a7) (a8 := a8) (a9 := a9) (a10 := a10) (a11 := a11) (a12 := a12) (a13 := a13) (a14 := a14) (a15 := a15) (a16 := a16) (a17 := a17) (a18 := a18) (a19 := a19) (a20 := a20) (a21 := a21) (a22 := a22) (a23 := a23) (a24 := a24) (a25 := a25) (a26 := a26) (a27 := a27) (a28 := a28) (a29 := a29) (s := s) v
  have e1 : ∀ s, gEq (.lst (l.map fun x : Nat => D.int (0 + (x : Int)))) (.lst []) s = .ok (.bl (risD f)) s := fun s => w_eq (eqD_pl (n := 1) pl_ints0 rfl (by omega) (by
    show (prs f).all _ = true ↔ _
    rw [← hl]
    constructor
    · intro h
      rw [h]
      rfl
    · intro h
      exact List.map_eq_nil_iff.mp (D.lst.inj h)))
  have e4 : ∀ s, gLen [kD f] s = .ok (.int (f.length : Nat)) s := fun s => by
    show R.ok (D.int ((f.map pD).length : Nat)) s = _
    rw [List.length_map]
  have e5 : rngOk ((f.length : Int) - 1) = true := rng_ok (by omega) (by omega)
  have e6 : ((rngD 0 ((f.length : Int) - 1).toNat).length ≤ sizeLine) = True := by
    rw [rngD_len]
    exact eq_true (size_ok (by omega))
  unfold q_17
  clear v h2 h12 hl
  generalize l.map (fun x : Nat => D.int (0 + (x : Int))) = M at *
  decreasing_trivial
theorem plb_bl (n : Nat) (b : Bool) : plb n (.bl b) = true := by cases n <;> rfl
theorem q18_ok {x y z : Rat} {b : Bool} {s : S} : q_18 [a0, a1, a2, a3, a4, a5, a6, a7, a8, a9, a10, a11, a12, a13, a14, .v (fr x), .v (fr y), .v (fr z), a18, a19, a20, .v (.tup [fr x, fr y, fr z, .bl b]), .v (.bl b), a23, a24, a25, a26, a27, a28, a29] s = .nx [a0, a1, a2, a3, a4, a5, a6, a7, a8, a9, a10, a11, a12, a13, a14, .v (fr x), .v (fr y), .v (fr z), a18, a19, a20, .v (.tup [fr x, fr y, fr z, .bl b]), .v (.bl b), a23, a24, a25, a26, a27, a28, a29] s := by
  have e1 := fun s => t_alike 3 (.tup [fr x, fr y, fr z, .bl b]) s (by
    unfold plb
    rw [List.all_cons, List.all_cons, List.all_cons, List.all_cons, plb_fr, plb_fr, plb_fr, plb_bl]
    rfl)
  unfold q_18
  decreasing_trivial
theorem plb_ints {n : Nat} {h : Nat → Int} : plb (n + 1) (.tup (r256.map fun x => .int (h x))) = true := by
  unfold plb
  rw [Bool.and_eq_true]
  refine ⟨decide_eq_true (by rw [List.length_map]; decide), ?_⟩
  rw [List.all_map, List.all_eq_true]
  intro _ _
  cases n <;> rfl
theorem vals_sz {f : Kn} : ((vals f).length ≤ sizeLine) = True := by
  unfold vals
  rw [List.length_map]
  exact eq_true (size_ok (by decide))
theorem q19_ok {f : Kn} {s : S} (v : Val f) (h : a29 = .un) : q_19 [a0, a1, a2, a3, .v (cD f), .v (.lst (vals f)), a6, a7, a8, a9, a10, a11, a12, a13, a14, a15, a16, a17, a18, a19, a20, a21, a22, a23, a24, a25, a26, a27, a28, a29] s = .nx [a0, a1, a2, a3, .v (cD f), .v (.lst (vals f)), a6, a7, a8, a9, a10, a11, a12, a13, a14, a15, a16, a17, a18, a19, a20, a21, a22, a23, a24, a25, a26, a27, a28, a29] s := by
  subst h
  have e1 := fun s => t_cut_off (s := s) v
  have e2 := fun s => comp5 (a0 := a0) (a1 := a1) (a2 := a2) (a3 := a3) (a4 := .v (cD f)) (a6 := a6) (a7 := a7) (a8 := a8) (a9 := a9) (a10 := a10) (a11 := a11) (a12 := a12) (a13 := a13) (a14 := a14) (a15 := a15) (a16 := a16) (a17 := a17) (a18 := a18) (a19 := a19) (a20 := a20) (a21 := a21) (a22 := a22) (a23 := a23) (a24 := a24) (a25 := a25) (a26 := a26) (a27 := a27) (a28 := a28) (s := s) v
  have e3 := fun s => t_alike 3 (.tup (r256.map fun x => .int ((ai f x).num / ((ai f x).den : Int)))) s plb_ints
  have e4 := vals_sz (f := f)
  unfold q_19
  clear v
  generalize r256.map (fun x => D.int ((ai f x).num / ((ai f x).den : Int))) = M at *
  generalize vals f = V at *
  decreasing_trivial
theorem q20_ok {f : Kn} {s : S} (v : Val f) : q_20 [a0, a1, a2, a3, .v (cD f), a5, a6, a7, a8, a9, a10, a11, a12, a13, a14, a15, a16, a17, a18, a19, a20, a21, a22, a23, a24, a25, a26, a27, a28, a29] s = .nx [a0, a1, a2, a3, .v (cD f), a5, a6, a7, a8, a9, a10, a11, a12, a13, a14, a15, a16, a17, a18, a19, a20, a21, a22, .v (.tup (r256.map fun x => .int (nw (ai f x)))), a24, a25, a26, a27, a28, a29] s := by
  have e1 := fun s => t_rounded (s := s) v
  unfold q_20
  clear v
  decreasing_trivial
theorem q21_ok {f : Kn} {s : S} (v : Val f) (h : ∃ d, a18 = .v d) : q_21 [a0, a1, a2, a3, a4, .v (.lst (vals f)), a6, a7, a8, a9, a10, a11, a12, a13, a14, a15, a16, a17, a18, a19, a20, a21, a22, .v (.tup (r256.map fun x => .int (nw (ai f x)))), a24, a25, a26, a27, a28, a29] s = .nx [a0, a1, a2, a3, a4, .v (.lst (vals f)), a6, a7, a8, a9, a10, a11, a12, a13, a14, a15, a16, a17, a18, a19, a20, a21, a22, .v (.tup (r256.map fun x => .int (nw (ai f x)))), a24, a25, a26, a27, a28, a29] s := by
  obtain ⟨d, rfl⟩ := h
  have e2 := fun s => comp6 (a0 := a0) (a1 := a1) (a2 := a2) (a3 := a3) (a4 := a4) (a6 := a6) (a7 := a7) (a8 := a8) (a9 := a9) (a10 := a10) (a11 := a11) (a12 := a12) (a13 := a13) (a14 := a14) (a15 := a15) (a16 := a16) (a17 := a17) (a19 := a19) (a20 := a20) (a21 := a21) (a22 := a22) (a24 := a24) (a25 := a25) (a26 := a26) (a27 := a27) (a28 := a28) (a29 := a29) (s := s) v
  have e1 : ∀ s, gLen [.tup (r256.map fun x => .int (nw (ai f x)))] s = .ok (.int 256) s := fun s => by
    show R.ok (D.int (((r256.map fun x => D.int (nw (ai f x))).length : Nat))) s = _
    rw [List.length_map, List.length_range]
    rfl
  have e3 := r256_ok
  have e4 := r256_sz
  have e5 := fun s => w_ne (s := s) eqD_nil
  unfold q_21
  clear v
  generalize r256.map (fun x => D.int (nw (ai f x))) = M at *
  generalize vals f = V at *
  decreasing_trivial
end K02

namespace K02
open PySem PySem.Spec L2 Tv
local macro_rules | `(tactic| get_elem_tactic_extensible) => `(tactic| simp only [v_var, v_varB, v_c, v_op, v_un, v_nil, v_cons, v_tup, v_lst, v_test, v_and, v_or, v_not, v_if, v_andV, v_orV, v_notV, v_chain, v_call, v_callF, v_callV, v_isi, v_slice, v_comp, unowned, List.all_cons, List.all_nil, wipeR, and_true, true_and, and_false, false_and, Int.cast_ofNat_Int, v_part, v_noPart, v_fld, v_yes, v_seqI, v_rng1, v_rng2, v_enumI, v_zipI, v_next, v_seq, v_set, v_setO, v_drop, v_ret, v_retN, v_brk, v_cnt, v_ifS, v_frz, v_while, v_for, v_meth, v_setIx, v_cell, v_aug, v_pt, v_par, v_setF, v_fun, v_ne_ok, v_loopF_nil, v_compF_nil,
  w_add, Tv.w_sub, w_lt, w_le, w_gt, w_ge, w_neg, w_eqI, w_neI, w_eqB, w_neB, w_is, w_isNot, w_ix20, w_ix21, w_lenT, w_lenL, w_lenZ, w_abs, w_int, w_min, w_max, w_tupT, w_tupL, w_tupZ, kT_int, kT_bl, kT_non, kT_str, kT_tup, kT_lst, k2, Tv.isNon, Pt.run, Pts.run, setM, ownL, baseOk, seqV,
  List.map_cons, List.map_nil, List.cons_append, List.nil_append, List.append_nil, List.replicate_zero, List.replicate_succ, List.length_cons, List.length_nil, List.getElem?_cons_zero, List.getElem?_cons_succ, List.getElem?_nil, List.set_cons_zero, List.set_cons_succ, List.set_nil, Option.some.injEq, ↓reduceIte, reduceCtorEq, decide_true, decide_false, decide_eq_true_eq, Bool.not_true, Bool.not_false, Bool.false_eq_true, Bool.and_true, Bool.true_and, Bool.or_false, Bool.false_or, Bool.or_true, Bool.true_or, Bool.and_false, Bool.false_and, if_true, if_false, String.reduceEq, or_false, or_true, false_or, true_or, Int.reduceLE, Int.reduceLT, Int.reduceNeg, Int.reduceToNat, Int.reduceAdd, Nat.reduceAdd, Nat.reduceLT, Int.reduceSub, Int.reduceMul, Int.reduceEq, Nat.reduceEqDiff, Int.zero_sub, BEq.rfl])
local macro_rules | `(tactic| decreasing_trivial) => `(tactic| simp only [v_var, v_varB, v_c, v_op, v_un, v_nil, v_cons, v_tup, v_lst, v_test, v_and, v_or, v_not, v_if, v_andV, v_orV, v_notV, v_chain, v_call, v_callF, v_callV, v_isi, v_slice, v_comp, unowned, List.all_cons, List.all_nil, wipeR, and_true, true_and, and_false, false_and, Int.cast_ofNat_Int, v_part, v_noPart, v_fld, v_yes, v_seqI, v_rng1, v_rng2, v_enumI, v_zipI, v_next, v_seq, v_set, v_setO, v_drop, v_ret, v_retN, v_brk, v_cnt, v_ifS, v_frz, v_while, v_for, v_meth, v_setIx, v_cell, v_aug, v_pt, v_par, v_setF, v_fun, v_ne_ok, v_loopF_nil, v_compF_nil,
  w_add, Tv.w_sub, w_lt, w_le, w_gt, w_ge, w_neg, w_eqI, w_neI, w_eqB, w_neB, w_is, w_isNot, w_ix20, w_ix21, w_lenT, w_lenL, w_lenZ, w_abs, w_int, w_min, w_max, w_tupT, w_tupL, w_tupZ, kT_int, kT_bl, kT_non, kT_str, kT_tup, kT_lst, k2, Tv.isNon, Pt.run, Pts.run, setM, ownL, baseOk, seqV,
  List.map_cons, List.map_nil, List.cons_append, List.nil_append, List.append_nil, List.replicate_zero, List.replicate_succ, List.length_cons, List.length_nil, List.getElem?_cons_zero, List.getElem?_cons_succ, List.getElem?_nil, List.set_cons_zero, List.set_cons_succ, List.set_nil, Option.some.injEq, ↓reduceIte, reduceCtorEq, decide_true, decide_false, decide_eq_true_eq, Bool.not_true, Bool.not_false, Bool.false_eq_true, Bool.and_true, Bool.true_and, Bool.or_false, Bool.false_or, Bool.or_true, Bool.true_or, Bool.and_false, Bool.false_and, if_true, if_false, String.reduceEq, or_false, or_true, false_or, true_or, Int.reduceLE, Int.reduceLT, Int.reduceNeg, Int.reduceToNat, Int.reduceAdd, Nat.reduceAdd, Nat.reduceLT, Int.reduceSub, Int.reduceMul, Int.reduceEq, Nat.reduceEqDiff, Int.zero_sub, BEq.rfl, *])

variable {a0 a1 a2 a3 a4 a5 a6 a7 a8 a9 a10 a11 a12 a13 a14 a15 a16 a17 a18 a19 a20 a21 a22 a23 a24 a25 a26 a27 a28 a29 : SD}

def Lv (t : Rat) : Prop := Bd 36 t ∧ 0 ≤ t ∧ t ≤ 255
theorem law6_loop {f : Kn} {s : S} (v : Val f) : ∀ (ts : List Rat) {a7 a24 a25 a26 a27 a28 : SD}, (∀ t, t ∈ ts → Lv t) → ∃ (b7 b24 b25 b26 b27 b28 : SD), loopF (.nm 7) l_law_6 (ts.map fr) [a0, a1, a2, .v (kD f), .v (cD f), .v (.lst (vals f)), a6, a7, a8, a9, a10, a11, a12, a13, a14, a15, a16, a17, a18, a19, a20, a21, a22, a23, a24, a25, a26, a27, a28, a29] s = .nx [a0, a1, a2, .v (kD f), .v (cD f), .v (.lst (vals f)), a6, b7, a8, a9, a10, a11, a12, a13, a14, a15, a16, a17, a18, a19, a20, a21, a22, a23, b24, b25, b26, b27, b28, a29] s
  | [], a7, a24, a25, a26, a27, a28, _ => ⟨a7, a24, a25, a26, a27, a28, rfl⟩
  | t :: ts, a7, a24, a25, a26, a27, a28, h => by
    obtain ⟨h0, h1, h2⟩ := h t List.mem_cons_self
    obtain ⟨c24, c25, c26, c27, c28, e1⟩ := law6_turn (a0 := a0) (a1 := a1) (a2 := a2) (a6 := a6) (a8 := a8) (a9 := a9) (a10 := a10) (a11 := a11) (a12 := a12) (a13 := a13) (a14 := a14) (a15 := a15) (a16 := a16) (a17 := a17) (a18 := a18) (a19 := a19) (a20 := a20) (a21 := a21) (a22 := a22) (a23 := a23) (a24 := a24) (a25 := a25) (a26 := a26) (a27 := a27) (a28 := a28) (a29 := a29) (s := s) v h0 h1 h2
    obtain ⟨b7, b24, b25, b26, b27, b28, e2⟩ := law6_loop v ts (a7 := .v (fr t)) (a24 := c24) (a25 := c25) (a26 := c26) (a27 := c27) (a28 := c28) (fun x hx => h x (List.mem_cons_of_mem _ hx))
    refine ⟨b7, b24, b25, b26, b27, b28, ?_⟩
    rw [List.map_cons, loopF_nx rfl e1]
    exact e2
theorem lv_int {i : Int} (h0 : 0 ≤ i) (h1 : i ≤ 255) : Lv (i : Rat) := ⟨(Bd_r h0 h1).mono, cast_le (a := 0) h0, cast_le (b := 255) h1⟩
theorem lv_ai {f : Kn} (v : Val f) {x : Nat} (hx : x ≤ 255) : Lv (ai f x) := by
  have h1 := v.mono (z := 0) (w := (x : Rat)) Rat.le_refl (by exact_mod_cast Nat.zero_le x)
  have h2 := v.mono (z := (x : Rat)) (w := 255) (by exact_mod_cast Nat.zero_le x) (nat_le hx)
  have e1 : at_ f 0 = ((f.headD (0, 0)).2 : Rat) := v.ai0
  have e2 : at_ f 255 = ((lastP f).2 : Rat) := v.ain
  have g2 := v.rg _ (lastP_mem (vne v))
  have g1 : 0 ≤ (f.headD (0, 0)).2 := by
    obtain ⟨y, r, hf⟩ := v.x0
    have := v.rg (0, y) (by rw [hf]; exact List.mem_cons_self)
    rw [hf]
    exact this.2.2.1
  have g1 := cast_le g1
  have g3 := cast_le g2.2.2.2
  rw [e1] at h1
  rw [e2] at h2
  refine ⟨v.ai_Bd hx, ?_, ?_⟩
  · exact Rat.le_trans g1 h1
  · exact Rat.le_trans h2 g3
theorem q22_ok {ns : List Int} {f : Kn} {p : K2} {r : Kn} {s : S} (v : Val f) (hf : f = p :: r) (hr : Rw ns s) : ∃ (b7 b24 b25 b26 b27 b28 : SD) (s' : S), q_22 [a0, .v (.cell 0), a2, .v (kD f), .v (cD f), .v (.lst (vals f)), a6, a7, a8, a9, a10, a11, a12, a13, a14, a15, a16, a17, a18, a19, a20, a21, a22, a23, a24, a25, a26, a27, a28, a29] s = .nx [a0, .v (.cell 0), a2, .v (kD f), .v (cD f), .v (.lst (vals f)), a6, b7, a8, a9, a10, a11, a12, a13, a14, a15, a16, a17, a18, a19, a20, a21, a22, a23, b24, b25, b26, b27, b28, a29] s' ∧ Rw ns s' := by
  obtain ⟨d, s1, e1, m1, r1⟩ := t_pick (ds := vals f) hr (by unfold vals; simp) (by unfold vals; rw [List.length_map]; decide)
  obtain ⟨x, hx, rfl⟩ := List.mem_map.mp m1
  have hx : x ≤ 255 := by have := List.mem_range.mp hx; omega
  obtain ⟨t, s2, e2, b2, t0, t1, r2⟩ := t_level r1
  have hp := v.rg p (by rw [hf]; exact List.mem_cons_self)
  have hl := v.rg _ (lastP_mem (vne v))
  obtain ⟨b7, b24, b25, b26, b27, b28, e3⟩ := law6_loop (a0 := a0) (a1 := .v (.cell 0)) (a2 := a2) (a6 := a6) (a8 := a8) (a9 := a9) (a10 := a10) (a11 := a11) (a12 := a12) (a13 := a13) (a14 := a14) (a15 := a15) (a16 := a16) (a17 := a17) (a18 := a18) (a19 := a19) (a20 := a20) (a21 := a21) (a22 := a22) (a23 := a23) (a29 := a29) (s := s2) v [(p.2 : Rat), ((lastP f).2 : Rat), ai f x, t] (a7 := a7) (a24 := a24) (a25 := a25) (a26 := a26) (a27 := a27) (a28 := a28) (fun y hy => by
    rcases List.mem_cons.mp hy with rfl | hy
    · exact lv_int hp.2.2.1 hp.2.2.2
    · rcases List.mem_cons.mp hy with rfl | hy
      · exact lv_int hl.2.2.1 hl.2.2.2
      · rcases List.mem_cons.mp hy with rfl | hy
        · exact lv_ai v hx
        · rw [List.mem_singleton.mp hy]
          exact ⟨b2.mono, t0, t1⟩)
  refine ⟨b7, b24, b25, b26, b27, b28, s2, ?_, r2⟩
  have f1 : ∀ s, gIx (kD f) (.int 0) s = .ok (pD p) s := fun s => kD_ix (k := 0) (by rw [hf]; rfl)
  have f2 := fun s => kD_last (s := s) v
  have f3 := fun (p : K2) s => pD1 (p := p) (s := s)
  have k1 := frI p.2
  have k2 := frI (lastP f).2
  rw [List.map_cons, List.map_cons, List.map_cons, List.map_cons, List.map_nil] at e3
  unfold q_22
  clear v hr m1 hx r1 r2 b2 t0 t1 hp hl hf
  generalize vals f = V at *
  decreasing_trivial
end K02

namespace K02
open PySem PySem.Spec L2 Tv
local macro_rules | `(tactic| get_elem_tactic_extensible) => `(tactic| simp only [v_var, v_varB, v_c, v_op, v_un, v_nil, v_cons, v_tup, v_lst, v_test, v_and, v_or, v_not, v_if, v_andV, v_orV, v_notV, v_chain, v_call, v_callF, v_callV, v_isi, v_slice, v_comp, unowned, List.all_cons, List.all_nil, wipeR, and_true, true_and, and_false, false_and, Int.cast_ofNat_Int, v_part, v_noPart, v_fld, v_yes, v_seqI, v_rng1, v_rng2, v_enumI, v_zipI, v_next, v_seq, v_set, v_setO, v_drop, v_ret, v_retN, v_brk, v_cnt, v_ifS, v_frz, v_while, v_for, v_meth, v_setIx, v_cell, v_aug, v_pt, v_par, v_setF, v_fun, v_ne_ok, v_loopF_nil, v_compF_nil,
  w_add, Tv.w_sub, w_lt, w_le, w_gt, w_ge, w_neg, w_eqI, w_neI, w_eqB, w_neB, w_is, w_isNot, w_ix20, w_ix21, w_lenT, w_lenL, w_lenZ, w_abs, w_int, w_min, w_max, w_tupT, w_tupL, w_tupZ, kT_int, kT_bl, kT_non, kT_str, kT_tup, kT_lst, k2, Tv.isNon, Pt.run, Pts.run, setM, ownL, baseOk, seqV,
  List.map_cons, List.map_nil, List.cons_append, List.nil_append, List.append_nil, List.replicate_zero, List.replicate_succ, List.length_cons, List.length_nil, List.getElem?_cons_zero, List.getElem?_cons_succ, List.getElem?_nil, List.set_cons_zero, List.set_cons_succ, List.set_nil, Option.some.injEq, ↓reduceIte, reduceCtorEq, decide_true, decide_false, decide_eq_true_eq, Bool.not_true, Bool.not_false, Bool.false_eq_true, Bool.and_true, Bool.true_and, Bool.or_false, Bool.false_or, Bool.or_true, Bool.true_or, Bool.and_false, Bool.false_and, if_true, if_false, String.reduceEq, or_false, or_true, false_or, true_or, Int.reduceLE, Int.reduceLT, Int.reduceNeg, Int.reduceToNat, Int.reduceAdd, Nat.reduceAdd, Nat.reduceLT, Int.reduceSub, Int.reduceMul, Int.reduceEq, Nat.reduceEqDiff, Int.zero_sub, BEq.rfl])
local macro_rules | `(tactic| decreasing_trivial) => `(tactic| simp only [v_var, v_varB, v_c, v_op, v_un, v_nil, v_cons, v_tup, v_lst, v_test, v_and, v_or, v_not, v_if, v_andV, v_orV, v_notV, v_chain, v_call, v_callF, v_callV, v_isi, v_slice, v_comp, unowned, List.all_cons, List.all_nil, wipeR, and_true, true_and, and_false, false_and, Int.cast_ofNat_Int, v_part, v_noPart, v_fld, v_yes, v_seqI, v_rng1, v_rng2, v_enumI, v_zipI, v_next, v_seq, v_set, v_setO, v_drop, v_ret, v_retN, v_brk, v_cnt, v_ifS, v_frz, v_while, v_for, v_meth, v_setIx, v_cell, v_aug, v_pt, v_par, v_setF, v_fun, v_ne_ok, v_loopF_nil, v_compF_nil,
  w_add, Tv.w_sub, w_lt, w_le, w_gt, w_ge, w_neg, w_eqI, w_neI, w_eqB, w_neB, w_is, w_isNot, w_ix20, w_ix21, w_lenT, w_lenL, w_lenZ, w_abs, w_int, w_min, w_max, w_tupT, w_tupL, w_tupZ, kT_int, kT_bl, kT_non, kT_str, kT_tup, kT_lst, k2, Tv.isNon, Pt.run, Pts.run, setM, ownL, baseOk, seqV,
  List.map_cons, List.map_nil, List.cons_append, List.nil_append, List.append_nil, List.replicate_zero, List.replicate_succ, List.length_cons, List.length_nil, List.getElem?_cons_zero, List.getElem?_cons_succ, List.getElem?_nil, List.set_cons_zero, List.set_cons_succ, List.set_nil, Option.some.injEq, ↓reduceIte, reduceCtorEq, decide_true, decide_false, decide_eq_true_eq, Bool.not_true, Bool.not_false, Bool.false_eq_true, Bool.and_true, Bool.true_and, Bool.or_false, Bool.false_or, Bool.or_true, Bool.true_or, Bool.and_false, Bool.false_and, if_true, if_false, String.reduceEq, or_false, or_true, false_or, true_or, Int.reduceLE, Int.reduceLT, Int.reduceNeg, Int.reduceToNat, Int.reduceAdd, Nat.reduceAdd, Nat.reduceLT, Int.reduceSub, Int.reduceMul, Int.reduceEq, Nat.reduceEqDiff, Int.zero_sub, BEq.rfl, *])

variable {a0 a1 a2 a3 a4 a5 a6 a7 a8 a9 a10 a11 a12 a13 a14 a15 a16 a17 a18 a19 a20 a21 a22 a23 a24 a25 a26 a27 a28 a29 : SD}
theorem q1_ok {ns : List Int} {s : S} (r : Rw ns s) : ∃ (f : Kn) (s' : S), q_1 [a0, .v (.cell 0), a2, a3, a4, a5, a6, a7, a8, a9, a10, a11, a12, a13, a14, a15, a16, a17, a18, a19, a20, a21, a22, a23, a24, a25, a26, a27, a28, a29] s = .nx [a0, .v (.cell 0), a2, .v (kD f), a4, a5, a6, a7, a8, a9, a10, a11, a12, a13, a14, a15, a16, a17, a18, a19, a20, a21, a22, a23, a24, a25, a26, a27, a28, a29] s' ∧ Val f ∧ Rw ns s' := by
  obtain ⟨f, s1, e1, v, r1⟩ := t_knots r
  refine ⟨f, s1, ?_, v, r1⟩
  unfold q_1
  clear r v r1
  decreasing_trivial
theorem seq_nx {b c : SM} {ρ ρ1 : List SD} {s s1 : S} (h : b ρ s = .nx ρ1 s1) : mSeq b c ρ s = c ρ1 s1 := by
  rw [v_seq, h]
def Inv (ρ : List SD) : Prop := ∃ a0 a2 a3 a4 a5 a6 a7 a8 a9 a10 a11 a12 a13 a14 a15 a16 a17 a18 a19 a20 a21 a22 a23 a24 a25 a26 a27 a28 : SD, ρ = [a0, .v (.cell 0), a2, a3, a4, a5, a6, a7, a8, a9, a10, a11, a12, a13, a14, a15, a16, a17, a18, a19, a20, a21, a22, a23, a24, a25, a26, a27, a28, .un] ∧ No a18
theorem turn_ok {ns : List Int} {s : S} (r : Rw ns s) (h18 : No a18) : ∃ (ρ' : List SD) (s' : S), l_law_7 [a0, .v (.cell 0), a2, a3, a4, a5, a6, a7, a8, a9, a10, a11, a12, a13, a14, a15, a16, a17, a18, a19, a20, a21, a22, a23, a24, a25, a26, a27, a28, .un] s = .nx ρ' s' ∧ Inv ρ' ∧ Rw ns s' := by
  obtain ⟨f, s1, e1, v, r1⟩ := q1_ok (a0 := a0) (a2 := a2) (a3 := a3) (a4 := a4) (a5 := a5) (a6 := a6) (a7 := a7) (a8 := a8) (a9 := a9) (a10 := a10) (a11 := a11) (a12 := a12) (a13 := a13) (a14 := a14) (a15 := a15) (a16 := a16) (a17 := a17) (a18 := a18) (a19 := a19) (a20 := a20) (a21 := a21) (a22 := a22) (a23 := a23) (a24 := a24) (a25 := a25) (a26 := a26) (a27 := a27) (a28 := a28) (a29 := .un) r
  obtain ⟨p, l, hf⟩ : ∃ p l, f = p :: l := by
    obtain ⟨y, l, h⟩ := v.x0
    exact ⟨_, l, h⟩
  have e2 := q2_ok (a0 := a0) (a1 := .v (.cell 0)) (a2 := a2) (a4 := a4) (a5 := a5) (a6 := a6) (a7 := a7) (a8 := a8) (a9 := a9) (a10 := a10) (a11 := a11) (a12 := a12) (a13 := a13) (a14 := a14) (a15 := a15) (a16 := a16) (a17 := a17) (a18 := a18) (a19 := a19) (a20 := a20) (a21 := a21) (a22 := a22) (a23 := a23) (a24 := a24) (a25 := a25) (a26 := a26) (a27 := a27) (a28 := a28) (a29 := .un) (s := s1) v h18
  have e3 := q3_ok (a0 := a0) (a1 := .v (.cell 0)) (a2 := a2) (a5 := .v (.lst (vals f))) (a6 := a6) (a7 := a7) (a8 := a8) (a9 := a9) (a10 := a10) (a11 := a11) (a12 := a12) (a13 := a13) (a14 := a14) (a15 := a15) (a16 := a16) (a17 := a17) (a18 := a18) (a19 := a19) (a20 := a20) (a21 := a21) (a22 := a22) (a23 := a23) (a24 := a24) (a25 := a25) (a26 := a26) (a27 := a27) (a28 := a28) (a29 := .un) (s := s1) v
  obtain ⟨b6, b7, s2, e4, r2, h6⟩ := q4_ok (a0 := a0) (a2 := a2) (a5 := .v (.lst (vals f))) (a6 := a6) (a7 := a7) (a8 := a8) (a9 := a9) (a10 := a10) (a11 := a11) (a12 := a12) (a13 := a13) (a14 := a14) (a15 := a15) (a16 := a16) (a17 := a17) (a18 := a18) (a19 := a19) (a20 := a20) (a21 := a21) (a22 := a22) (a23 := a23) (a24 := a24) (a25 := a25) (a26 := a26) (a27 := a27) (a28 := a28) (a29 := .un) v r1
  have e5 := q5_ok (a0 := a0) (a1 := .v (.cell 0)) (a2 := a2) (a5 := .v (.lst (vals f))) (a6 := b6) (a7 := b7) (a8 := a8) (a9 := a9) (a10 := a10) (a11 := a11) (a12 := a12) (a13 := a13) (a14 := a14) (a15 := a15) (a16 := a16) (a17 := a17) (a18 := a18) (a19 := a19) (a20 := a20) (a21 := a21) (a22 := a22) (a23 := a23) (a24 := a24) (a25 := a25) (a26 := a26) (a27 := a27) (a28 := a28) (a29 := .un) (s := s2) v hf
  obtain ⟨c6, c10, c11, e6, h6b⟩ := q6_ok (a0 := a0) (a1 := .v (.cell 0)) (a2 := a2) (a4 := .v (cD f)) (a5 := .v (.lst (vals f))) (a6 := b6) (a7 := b7) (a8 := .v (kD (kept f))) (a10 := a10) (a11 := a11) (a12 := a12) (a13 := a13) (a14 := a14) (a15 := a15) (a16 := a16) (a17 := a17) (a18 := a18) (a19 := a19) (a20 := a20) (a21 := a21) (a22 := a22) (a23 := a23) (a24 := a24) (a25 := a25) (a26 := a26) (a27 := a27) (a28 := a28) (a29 := .un) (l := [p]) (s := s2) v (by simp) h6
  have e7 := q7_ok (a0 := a0) (a1 := .v (.cell 0)) (a2 := a2) (a4 := .v (cD f)) (a5 := .v (.lst (vals f))) (a6 := c6) (a7 := b7) (a10 := c10) (a11 := c11) (a12 := a12) (a13 := a13) (a14 := a14) (a15 := a15) (a16 := a16) (a17 := a17) (a18 := a18) (a19 := a19) (a20 := a20) (a21 := a21) (a22 := a22) (a23 := a23) (a24 := a24) (a25 := a25) (a26 := a26) (a27 := a27) (a28 := a28) (a29 := .un) (s := s2) v hf
  obtain ⟨g, s3, e8, vg, r3⟩ := q8_ok (a0 := a0) (a2 := a2) (a4 := .v (cD f)) (a5 := .v (.lst (vals f))) (a6 := c6) (a7 := b7) (a9 := .own (.lst (([p] ++ inn f).map pD))) (a10 := c10) (a11 := c11) (a12 := a12) (a13 := a13) (a14 := a14) (a15 := a15) (a16 := a16) (a17 := a17) (a18 := a18) (a19 := a19) (a20 := a20) (a21 := a21) (a22 := a22) (a23 := a23) (a24 := a24) (a25 := a25) (a26 := a26) (a27 := a27) (a28 := a28) (a29 := .un) v r2
  have e9 := q9_ok (a0 := a0) (a1 := .v (.cell 0)) (a2 := a2) (a3 := .v (kD f)) (a4 := .v (cD f)) (a5 := .v (.lst (vals f))) (a6 := c6) (a7 := b7) (a8 := .v (kD (kept f))) (a9 := .own (.lst (([p] ++ inn f).map pD))) (a10 := c10) (a11 := c11) (a13 := a13) (a14 := a14) (a15 := a15) (a16 := a16) (a17 := a17) (a18 := a18) (a19 := a19) (a20 := a20) (a21 := a21) (a22 := a22) (a23 := a23) (a24 := a24) (a25 := a25) (a26 := a26) (a27 := a27) (a28 := a28) (a29 := .un) (s := s3) vg h18
  have e10 := q10_ok (a0 := a0) (a1 := .v (.cell 0)) (a2 := a2) (a3 := .v (kD f)) (a4 := .v (cD f)) (a6 := c6) (a7 := b7) (a8 := .v (kD (kept f))) (a9 := .own (.lst (([p] ++ inn f).map pD))) (a10 := c10) (a11 := c11) (a12 := .v (kD g)) (a14 := a14) (a15 := a15) (a16 := a16) (a17 := a17) (a18 := a18) (a19 := a19) (a20 := a20) (a21 := a21) (a22 := a22) (a23 := a23) (a24 := a24) (a25 := a25) (a26 := a26) (a27 := a27) (a28 := a28) (a29 := .un) (f := f) (g := g) (s := s3) h18
  have e11 := q11_ok (a0 := a0) (a1 := .v (.cell 0)) (a2 := a2) (a3 := .v (kD f)) (a5 := .v (.lst (vals f))) (a6 := c6) (a7 := b7) (a8 := .v (kD (kept f))) (a9 := .own (.lst (([p] ++ inn f).map pD))) (a10 := c10) (a11 := c11) (a13 := .v (.lst (vals g))) (a15 := a15) (a16 := a16) (a17 := a17) (a18 := a18) (a19 := a19) (a20 := a20) (a21 := a21) (a22 := a22) (a23 := a23) (a24 := a24) (a25 := a25) (a26 := a26) (a27 := a27) (a28 := a28) (a29 := .un) (s := s3) v vg
  have e12 := q12_ok (a0 := a0) (a1 := .v (.cell 0)) (a2 := a2) (a3 := .v (kD f)) (a4 := .v (cD f)) (a5 := .v (.lst (vals f))) (a6 := c6) (a7 := b7) (a8 := .v (kD (kept f))) (a9 := .own (.lst (([p] ++ inn f).map pD))) (a10 := c10) (a11 := c11) (a12 := .v (kD g)) (a13 := .v (.lst (vals g))) (a14 := .v (.lst (wrong f g))) (a15 := a15) (a16 := a16) (a17 := a17) (a18 := a18) (a19 := a19) (a20 := a20) (a21 := a21) (a22 := a22) (a23 := a23) (a24 := a24) (a25 := a25) (a26 := a26) (a27 := a27) (a28 := a28) (a29 := .un) (s := s3)
  obtain ⟨d18, d19, e13, k18⟩ := q13_ok (a0 := a0) (a1 := .v (.cell 0)) (a2 := a2) (a3 := .v (kD f)) (a4 := .v (cD f)) (a6 := c6) (a7 := b7) (a8 := .v (kD (kept f))) (a9 := .own (.lst (([p] ++ inn f).map pD))) (a10 := c10) (a11 := c11) (a12 := .v (kD g)) (a14 := .v (.lst (wrong f g))) (a16 := .v (fr 0)) (a17 := .v (fr 0)) (a18 := a18) (a19 := a19) (a20 := a20) (a21 := a21) (a22 := a22) (a23 := a23) (a24 := a24) (a25 := a25) (a26 := a26) (a27 := a27) (a28 := a28) (a29 := .un) (s := s3) v vg
  obtain ⟨d6, d20, e14, k6⟩ := q14_ok (a0 := a0) (a1 := .v (.cell 0)) (a2 := a2) (a4 := .v (cD f)) (a5 := .v (.lst (vals f))) (a6 := c6) (a7 := b7) (a8 := .v (kD (kept f))) (a9 := .own (.lst (([p] ++ inn f).map pD))) (a10 := c10) (a11 := c11) (a12 := .v (kD g)) (a13 := .v (.lst (vals g))) (a14 := .v (.lst (wrong f g))) (a15 := .v (fr (ggap f g))) (a17 := .v (fr 0)) (a18 := d18) (a19 := d19) (a20 := a20) (a21 := a21) (a22 := a22) (a23 := a23) (a24 := a24) (a25 := a25) (a26 := a26) (a27 := a27) (a28 := a28) (a29 := .un) (s := s3) v
  obtain ⟨f18, e15, m18⟩ := q15_ok (a0 := a0) (a1 := .v (.cell 0)) (a2 := a2) (a3 := .v (kD f)) (a4 := .v (cD f)) (a6 := d6) (a7 := b7) (a8 := .v (kD (kept f))) (a9 := .own (.lst (([p] ++ inn f).map pD))) (a10 := c10) (a11 := c11) (a12 := .v (kD g)) (a13 := .v (.lst (vals g))) (a14 := .v (.lst (wrong f g))) (a15 := .v (fr (ggap f g))) (a16 := .v (fr (stp f))) (a18 := d18) (a19 := d19) (a20 := d20) (a21 := a21) (a22 := a22) (a23 := a23) (a24 := a24) (a25 := a25) (a26 := a26) (a27 := a27) (a28 := a28) (a29 := .un) (s := s3) v
  have e16 := q16_ok (a0 := a0) (a1 := .v (.cell 0)) (a2 := a2) (a3 := .v (kD f)) (a5 := .v (.lst (vals f))) (a6 := d6) (a7 := b7) (a8 := .v (kD (kept f))) (a9 := .own (.lst (([p] ++ inn f).map pD))) (a10 := c10) (a11 := c11) (a13 := .v (.lst (vals g))) (a14 := .v (.lst (wrong f g))) (a15 := .v (fr (ggap f g))) (a16 := .v (fr (stp f))) (a17 := .v (fr (area f))) (a18 := f18) (a19 := d19) (a20 := d20) (a21 := a21) (a22 := a22) (a23 := a23) (a24 := a24) (a25 := a25) (a26 := a26) (a27 := a27) (a28 := a28) (a29 := .un) (s := s3) v vg
  have e17 := q17_ok (a0 := a0) (a1 := .v (.cell 0)) (a2 := a2) (a4 := .v (cD f)) (a5 := .v (.lst (vals f))) (a6 := d6) (a7 := b7) (a8 := .v (kD (kept f))) (a9 := .own (.lst (([p] ++ inn f).map pD))) (a10 := c10) (a11 := c11) (a12 := .v (kD g)) (a13 := .v (.lst (vals g))) (a14 := .v (.lst (wrong f g))) (a15 := .v (fr (ggap f g))) (a16 := .v (fr (stp f))) (a17 := .v (fr (area f))) (a18 := f18) (a19 := d19) (a20 := d20) (a21 := .v (.tup [fr (ggap f g), fr (stp f), fr (area f), .bl (risD f)])) (a22 := a22) (a23 := a23) (a24 := a24) (a25 := a25) (a26 := a26) (a27 := a27) (a28 := a28) (a29 := .un) (s := s3) v k6
  have e18 := q18_ok (a0 := a0) (a1 := .v (.cell 0)) (a2 := a2) (a3 := .v (kD f)) (a4 := .v (cD f)) (a5 := .v (.lst (vals f))) (a6 := d6) (a7 := b7) (a8 := .v (kD (kept f))) (a9 := .own (.lst (([p] ++ inn f).map pD))) (a10 := c10) (a11 := c11) (a12 := .v (kD g)) (a13 := .v (.lst (vals g))) (a14 := .v (.lst (wrong f g))) (a18 := f18) (a19 := d19) (a20 := d20) (a23 := a23) (a24 := a24) (a25 := a25) (a26 := a26) (a27 := a27) (a28 := a28) (a29 := .un) (x := ggap f g) (y := stp f) (z := area f) (b := risD f) (s := s3)
  have e19 := q19_ok (a0 := a0) (a1 := .v (.cell 0)) (a2 := a2) (a3 := .v (kD f)) (a6 := d6) (a7 := b7) (a8 := .v (kD (kept f))) (a9 := .own (.lst (([p] ++ inn f).map pD))) (a10 := c10) (a11 := c11) (a12 := .v (kD g)) (a13 := .v (.lst (vals g))) (a14 := .v (.lst (wrong f g))) (a15 := .v (fr (ggap f g))) (a16 := .v (fr (stp f))) (a17 := .v (fr (area f))) (a18 := f18) (a19 := d19) (a20 := d20) (a21 := .v (.tup [fr (ggap f g), fr (stp f), fr (area f), .bl (risD f)])) (a22 := .v (.bl (risD f))) (a23 := a23) (a24 := a24) (a25 := a25) (a26 := a26) (a27 := a27) (a28 := a28) (a29 := .un) (s := s3) v rfl
  have e20 := q20_ok (a0 := a0) (a1 := .v (.cell 0)) (a2 := a2) (a3 := .v (kD f)) (a5 := .v (.lst (vals f))) (a6 := d6) (a7 := b7) (a8 := .v (kD (kept f))) (a9 := .own (.lst (([p] ++ inn f).map pD))) (a10 := c10) (a11 := c11) (a12 := .v (kD g)) (a13 := .v (.lst (vals g))) (a14 := .v (.lst (wrong f g))) (a15 := .v (fr (ggap f g))) (a16 := .v (fr (stp f))) (a17 := .v (fr (area f))) (a18 := f18) (a19 := d19) (a20 := d20) (a21 := .v (.tup [fr (ggap f g), fr (stp f), fr (area f), .bl (risD f)])) (a22 := .v (.bl (risD f))) (a23 := a23) (a24 := a24) (a25 := a25) (a26 := a26) (a27 := a27) (a28 := a28) (a29 := .un) (s := s3) v
  have e21 := q21_ok (a0 := a0) (a1 := .v (.cell 0)) (a2 := a2) (a3 := .v (kD f)) (a4 := .v (cD f)) (a6 := d6) (a7 := b7) (a8 := .v (kD (kept f))) (a9 := .own (.lst (([p] ++ inn f).map pD))) (a10 := c10) (a11 := c11) (a12 := .v (kD g)) (a13 := .v (.lst (vals g))) (a14 := .v (.lst (wrong f g))) (a15 := .v (fr (ggap f g))) (a16 := .v (fr (stp f))) (a17 := .v (fr (area f))) (a18 := f18) (a19 := d19) (a20 := d20) (a21 := .v (.tup [fr (ggap f g), fr (stp f), fr (area f), .bl (risD f)])) (a22 := .v (.bl (risD f))) (a24 := a24) (a25 := a25) (a26 := a26) (a27 := a27) (a28 := a28) (a29 := .un) (s := s3) v m18
  obtain ⟨g7, g24, g25, g26, g27, g28, s4, e22, r4⟩ := q22_ok (a0 := a0) (a2 := a2) (a6 := d6) (a7 := b7) (a8 := .v (kD (kept f))) (a9 := .own (.lst (([p] ++ inn f).map pD))) (a10 := c10) (a11 := c11) (a12 := .v (kD g)) (a13 := .v (.lst (vals g))) (a14 := .v (.lst (wrong f g))) (a15 := .v (fr (ggap f g))) (a16 := .v (fr (stp f))) (a17 := .v (fr (area f))) (a18 := f18) (a19 := d19) (a20 := d20) (a21 := .v (.tup [fr (ggap f g), fr (stp f), fr (area f), .bl (risD f)])) (a22 := .v (.bl (risD f))) (a23 := .v (.tup (r256.map fun x => .int (nw (ai f x))))) (a24 := a24) (a25 := a25) (a26 := a26) (a27 := a27) (a28 := a28) (a29 := .un) v hf r3
  refine ⟨_, s4, ?_, ⟨a0, a2, .v (kD f), .v (cD f), .v (.lst (vals f)), d6, g7, .v (kD (kept f)), .own (.lst (([p] ++ inn f).map pD)), c10, c11, .v (kD g), .v (.lst (vals g)), .v (.lst (wrong f g)), .v (fr (ggap f g)), .v (fr (stp f)), .v (fr (area f)), f18, d19, d20, .v (.tup [fr (ggap f g), fr (stp f), fr (area f), .bl (risD f)]), .v (.bl (risD f)), .v (.tup (r256.map fun x => .int (nw (ai f x)))), g24, g25, g26, g27, g28, rfl, .inr m18⟩, r4⟩
  rw [l7_eq]
  refine (seq_nx e1).trans ?_
  refine (seq_nx e2).trans ?_
  refine (seq_nx e3).trans ?_
  refine (seq_nx e4).trans ?_
  refine (seq_nx e5).trans ?_
  refine (seq_nx e6).trans ?_
  refine (seq_nx e7).trans ?_
  refine (seq_nx e8).trans ?_
  refine (seq_nx e9).trans ?_
  refine (seq_nx e10).trans ?_
  refine (seq_nx e11).trans ?_
  refine (seq_nx e12).trans ?_
  refine (seq_nx e13).trans ?_
  refine (seq_nx e14).trans ?_
  refine (seq_nx e15).trans ?_
  refine (seq_nx e16).trans ?_
  refine (seq_nx e17).trans ?_
  refine (seq_nx e18).trans ?_
  refine (seq_nx e19).trans ?_
  refine (seq_nx e20).trans ?_
  refine (seq_nx e21).trans ?_
  exact e22
theorem turns_ok {ns : List Int} : ∀ (n : Nat) (k : Int) {ρ : List SD} {s : S}, Inv ρ → Rw ns s → ∃ (ρ' : List SD) (s' : S), loopF (.nm 2) l_law_7 (rngD k n) ρ s = .nx ρ' s' ∧ Inv ρ' ∧ Rw ns s' := by
  intro n
  suffices ∀ (ds : List D) {ρ : List SD} {s : S}, Inv ρ → Rw ns s → ∃ (ρ' : List SD) (s' : S), loopF (.nm 2) l_law_7 ds ρ s = .nx ρ' s' ∧ Inv ρ' ∧ Rw ns s' from fun k ρ s => this (rngD k n)
  intro ds
  induction ds with
  | nil => exact fun i r => ⟨_, _, rfl, i, r⟩
  | cons d ds ih =>
    intro ρ s i r
    obtain ⟨a0, a2, a3, a4, a5, a6, a7, a8, a9, a10, a11, a12, a13, a14, a15, a16, a17, a18, a19, a20, a21, a22, a23, a24, a25, a26, a27, a28, rfl, h18⟩ := i
    obtain ⟨ρ1, s1, e1, i1, r1⟩ := turn_ok (a0 := a0) (a2 := .v d) (a3 := a3) (a4 := a4) (a5 := a5) (a6 := a6) (a7 := a7) (a8 := a8) (a9 := a9) (a10 := a10) (a11 := a11) (a12 := a12) (a13 := a13) (a14 := a14) (a15 := a15) (a16 := a16) (a17 := a17) (a18 := a18) (a19 := a19) (a20 := a20) (a21 := a21) (a22 := a22) (a23 := a23) (a24 := a24) (a25 := a25) (a26 := a26) (a27 := a27) (a28 := a28) r h18
    obtain ⟨ρ2, s2, e2, i2, r2⟩ := ih i1 r1
    exact ⟨ρ2, s2, by rw [loopF_nx rfl e1]; exact e2, i2, r2⟩
theorem law_true (ns : List Int) (hl : ns.length ≤ 63) (hb : ∀ z ∈ ns, PySem.Builtin.Int.intBits z ≤ 1048576) : ∃ s, F_law [scr ns] [] = .ok (.bl true) s := by
  have r0 : Rw ns [rowD ns 0 4021 0] := ⟨0, 4021, 0, rfl, by show Int.natAbs 4021 < 2 ^ 40; decide⟩
  obtain ⟨ρ', s', e, _, _⟩ := turns_ok (ns := ns) 3 0 (ρ := [.v (scr ns), .v (.cell 0), .un, .un, .un, .un, .un, .un, .un, .un, .un, .un, .un, .un, .un, .un, .un, .un, .un, .un, .un, .un, .un, .un, .un, .un, .un, .un, .un, .un]) ⟨.v (scr ns), .un, .un, .un, .un, .un, .un, .un, .un, .un, .un, .un, .un, .un, .un, .un, .un, .un, .un, .un, .un, .un, .un, .un, .un, .un, .un, .un, rfl, .inl rfl⟩ r0
  refine ⟨s', ?_⟩
  have e2 : rngOk 3 = true := by decide
  have e3 : [D.lst [scr ns, .int 0, .int 4021, .int 0]] = [rowD ns 0 4021 0] := rfl
  unfold F_law b_law
  clear r0 hl hb
  decreasing_trivial
end K02

namespace K02
open PySem PySem.Spec PyProof.Rows L2 Tv He
/-- the law from its plain statement -/
theorem facts {P : Program} {w : World} {K : PySem.W.Frag} {h : Heap} {mg : Str → Option Value} {f : Addr} (X : K.In h) (G : h.Ns mainGlobals mg) (hfa : mg ("law" : Str) = some (.ref f)) (c : SaysX fa fn [] [] exK w h K) :
    ∃ fd : FuncData, (∀ (s : Shared) (v : Value), BindsTo s fd ⟨[v], []⟩ [("script", v)]) ∧ ∀ base : Heap, K.In base → base.Ns mainGlobals mg → FnOk P w K mg base (L2.CX P w) 10 f fd ["script"] (spD K (tb K) 1 F_law) := by
  have C := cn_of X G c
  obtain ⟨fd, F⟩ := C.d_law
  have e := hfa.symm.trans C.g_law
  cases e
  have b := FunD.bindsA (ps := ["script"]) F fun _ _ _ _ _ _ us hl => match us, hl with | [_], _ => rfl
  exact ⟨fd, fun s v => b s [v] rfl, fun base _ _ => fn_ok (N := ["script", "row", "turn", "knots", "curve", "values", "k", "level", "short", "kept", "rise", "run_on", "other", "rivals", "unlike", "gap", "steep", "below", "x", "here", "slope", "told", "rising", "round_now", "found", "is_there", "first", "last", "step", "one"]) (ps := ["script"]) F sc_law (by decide) fun cdv A outer s H E hr => bo_law C hr⟩
end K02
open PySem PySem.W PySem.Calls PyProof.Rows in
theorem PySem.Challenge.cw_tintbridge_k02_whole_curves_holds : PySem.Challenge.rw_tintbridge_k02_whole_curves.Holds := by
  w_on; o_law
  refine HandSHeadRun.head_any (r := OpenLaw.row PySem.Challenge.rw_tintbridge_k02_whole_curves) (q := view (OpenLaw.row PySem.Challenge.rw_tintbridge_k02_whole_curves).prog [62]) (H := K02.hk) (ob := K02.ob) (M := 3000) (loose := K02.names) (d := HandSHeadRun.topDef (OpenLaw.row PySem.Challenge.rw_tintbridge_k02_whole_curves).prog 62) (kwd := []) K02.ob_eq
    (by kernel_rfl) (fun s => by kernel_rfl) K02.run (by kernel_rfl) (by kernel_rfl) (by kernel_rfl) (by rfl) (by first | assumption | decide +kernel) (by decide +kernel) ⟨rfl, rfl, rfl, rfl, rfl, by decide +kernel⟩ ?hw ?hc
  case hw => w_witness2
  case hc =>
    refine LamX.walk_ofTsE (l := PySem.Challenge.rw_tintbridge_k02_whole_curves) (n := 63) (k := 10) (x := "script") (CX := fun w => L2.CX (PySem.Challenge.rw_tintbridge_k02_whole_curves).prog w) rfl (by decide) (by kernel_rfl) ⟨rfl, by decide, by decide⟩ ?F (fun _ _ _ _ _ z => by obtain ⟨_, _, _, _, _, _, _, _, _, _, _, _, z⟩ := z; exact z.elim)
    intro w mg fa h Y G hmg0
    obtain ⟨K, KX, c⟩ := Y
    have hmg : mg ("law" : PySem.Str) = some (.ref fa) := by
      have e : (HandSHeadRun.topDef (OpenLaw.row PySem.Challenge.rw_tintbridge_k02_whole_curves).prog 62).name = ("law" : PySem.Str) := by kernel_rfl
      rw [← e]
      exact hmg0
    obtain ⟨fd, hb, hF⟩ := K02.facts (P := (PySem.Challenge.rw_tintbridge_k02_whole_curves).prog) (w := w) KX G hmg c
    exact ⟨K, KX, Tv.lawAt hb hF K02.law_true⟩

