import PyProof.Rows.All
import HandS.ForMost
import HandS.Exc
import HandS.ExcOwn
import HandS.CallSlots
import HandS.WordsExc
import HandS.Walk
import HandS.Zip
import HandS.Wide
import HandS.More
import HandS.Codes
import HandS.Lambda
import HandS.IsInst
import HandS.TupAny
import HandS.TupMul
import KE.GoesEnum
import KE.GoesZip
import KE.GoesMore
import HandS.Style
import HandS.Defaults
import HandS.HeadHook2
import HandS.HeadHook3
import HandS.HeadHook4
import HandS.HeadWalk
import HandS.Head0
import HandS.Head1
import HandS.Head2
import HandS.ExcInit
import HandS.ExcCtx
import KE.KExcSuper
import HandS.ExcValue
import HandS.SetFor
import PyProof.EqKinds
import HandS.Deep
import HandS.ExcField
import HandS.ExcIs
import KE.KExcIs
import HandS.HotCalls
import PyProof.ReprRoads
import HandS.EndTab
import HandS.Iter
import PySem.Challenge.RW_tintbridge_k05_whole_maps
set_option Elab.async false
set_option linter.all false
set_option maxRecDepth 100000
set_option maxHeartbeats 4000000
/-! Tv1: values as trees, their standing in the heap, the state of a frame -/
namespace Tv
open PySem PySem.Spec PyProof.Rows L2

inductive D where
  | non | bl (b : Bool) | int (i : Int) | str (x : Str)
  | tup (ds : List D) | lst (ds : List D) | frz (ds : List D)
  | ins (c : Nat) (ds : List D)
  | cell (n : Nat)
  | fn (n : Nat)
  | dic (ks : List Key) (ds : List D)
  | exc (c : Nat) (ds : List D)
  | sf (c : Nat) (ds : List D)
  | lam (n : Nat)
  | tab (n : Nat)
  deriving Inhabited

/-- addresses of classes and defs, the fields' names of a class's instances -/
structure Tb where
  cls : Nat → Addr
  fn : Nat → Addr
  fl : Nat → List Str
  self : Option Addr := none
  /-- a lambda of kind n made at an address | the name and the address of the n-th table of code objects | the caught exception: its address, its class, its dict -/
  lo : Nat → Addr → Addr → HO := fun _ _ _ => .rng 0 0
  lq : Nat → Str := fun _ => Str.empty
  tq : Nat → Str := fun _ => Str.empty
  ta : Nat → Addr := fun _ => 0
  xv : Option (Addr × Nat × Option Addr) := none

abbrev S := List D
inductive R (α : Type) where
  | ok (a : α) (s : S) | er (c : Nat) (ds : List D) (s : S) | no
def R.bind {α β : Type} (r : R α) (f : α → S → R β) : R β := match r with
  | .ok a s => f a s
  | .er c ds s => .er c ds s
  | .no => .no

inductive SD where
  | un | v (d : D) | own (d : D)
abbrev EM := List SD → S → R D
abbrev TM := List SD → S → R Bool
abbrev FM := List D → S → R D

mutual
inductive Rep (K : PySem.W.Frag) (T : Tb) (cm : List Addr) (G : Hp) : V → D → Prop
  | non : Rep K T cm G .non .non
  | bl (b : Bool) : Rep K T cm G (.bl b) (.bl b)
  | int (i : Int) : Rep K T cm G (.int i) (.int i)
  | str (x : Str) : Rep K T cm G (.str x) (.str x)
  | tup {a : Addr} {xs : List V} {ds : List D} : SqT K G a xs → Reps K T cm G xs ds → Rep K T cm G (.ref a) (.tup ds)
  | lst {a : Addr} {xs : List V} {ds : List D} : G a = some (.lst xs) → Reps K T cm G xs ds → Rep K T cm G (.ref a) (.lst ds)
  | frz {a : Addr} {xs : List V} {ds : List D} : SqL K G a xs → Reps K T cm G xs ds → Rep K T cm G (.ref a) (.frz ds)
  | ins {a dx : Addr} {c : Nat} {fs : List (Str × V)} {ds : List D} : G a = some (.ins (T.cls c) dx fs) → fs.map (·.1) = T.fl c → Reps K T cm G (fs.map (·.2)) ds → Rep K T cm G (.ref a) (.ins c ds)
  | cell {a : Addr} {n : Nat} : cm[n]? = some a → Rep K T cm G (.ref a) (.cell n)
  | fn (n : Nat) : Rep K T cm G (.ref (T.fn n)) (.fn n)
  | lam {a c : Addr} {n : Nat} : G a = some (T.lo n a c) → G c = some (LamX.CodeO c (T.lq n)) → Rep K T cm G (.ref a) (.lam n)
  | exc0 {a : Addr} {c : Nat} : T.xv = some (a, c, none) → Rep K T cm G (.ref a) (.exc c [])
  | exc1 {a dd : Addr} {c : Nat} {gs : List (Str × V)} {ds : List D} : T.xv = some (a, c, some dd) → G dd = some (.xd gs) → gs.map (·.1) = T.fl c → Reps K T cm G (gs.map (·.2)) ds → Rep K T cm G (.ref a) (.exc c ds)
  | dic {a : Addr} {kvs : List (Key × V)} {ds : List D} : Rd G a (.dK kvs) → Reps K T cm G (kvs.map (·.2)) ds → Rep K T cm G (.ref a) (.dic (kvs.map (·.1)) ds)
inductive Reps (K : PySem.W.Frag) (T : Tb) (cm : List Addr) (G : Hp) : List V → List D → Prop
  | nil : Reps K T cm G [] []
  | cons {v : V} {d : D} {vs : List V} {ds : List D} : Rep K T cm G v d → Reps K T cm G vs ds → Reps K T cm G (v :: vs) (d :: ds)
end

/-! ### growing -/
def Sub (G G' : Hp) : Prop := ∀ a o, G a = some o → G' a = some o
theorem Sub.refl (G : Hp) : Sub G G := fun _ _ h => h
theorem Sub.trans {G G1 G2 : Hp} (a : Sub G G1) (b : Sub G1 G2) : Sub G G2 := fun c o h => b c o (a c o h)
theorem Sub.rd {G G' : Hp} {a : Addr} {u : HO} (e : Sub G G') (h : Rd G a u) : Rd G' a u := by
  rcases h with h | ⟨o, h⟩
  · exact .inl (e _ _ h)
  · exact .inr ⟨o, e _ _ h⟩
theorem Sub.seqL {K : PySem.W.Frag} {G G' : Hp} {a : Addr} {xs : List V} (e : Sub G G') (h : SqL K G a xs) : SqL K G' a xs := by
  rcases h with h | h
  · exact .inl (e.rd h)
  · exact .inr h
theorem Sub.seqT {K : PySem.W.Frag} {G G' : Hp} {a : Addr} {xs : List V} (e : Sub G G') (h : SqT K G a xs) : SqT K G' a xs := by
  rcases h with h | h
  · exact .inl (e.rd h)
  · exact .inr h
def Pre (cm cm' : List Addr) : Prop := ∃ l, cm' = cm ++ l
theorem Pre.refl (cm : List Addr) : Pre cm cm := ⟨[], by simp⟩
theorem Pre.trans {a b c : List Addr} (h : Pre a b) (h' : Pre b c) : Pre a c := by
  obtain ⟨l, rfl⟩ := h
  obtain ⟨m, rfl⟩ := h'
  exact ⟨l ++ m, by simp⟩
theorem Pre.get {a b : List Addr} (h : Pre a b) {n : Nat} {x : Addr} (e : a[n]? = some x) : b[n]? = some x := by
  obtain ⟨l, rfl⟩ := h
  have hn : n < a.length := (List.getElem?_eq_some_iff.mp e).1
  rw [List.getElem?_append_left hn]
  exact e
theorem Pre.mem {a b : List Addr} (h : Pre a b) {x : Addr} (e : x ∈ a) : x ∈ b := by
  obtain ⟨l, rfl⟩ := h
  exact List.mem_append_left _ e

section
variable {K : PySem.W.Frag} {T : Tb} {cm cm' : List Addr} {G G' : Hp}
mutual
theorem Rep.mono (hc : Pre cm cm') (hg : Sub G G') : ∀ (d : D) (v : V), Rep K T cm G v d → Rep K T cm' G' v d
  | .non, _, h => by cases h; exact .non
  | .bl b, _, h => by cases h; exact .bl b
  | .int i, _, h => by cases h; exact .int i
  | .str x, _, h => by cases h; exact .str x
  | .tup ds, _, h => by
    cases h with
    | tup hs hr => exact .tup (hg.seqT hs) (Reps.mono hc hg ds _ hr)
  | .lst ds, _, h => by
    cases h with
    | lst hs hr => exact .lst (hg _ _ hs) (Reps.mono hc hg ds _ hr)
  | .frz ds, _, h => by
    cases h with
    | frz hs hr => exact .frz (hg.seqL hs) (Reps.mono hc hg ds _ hr)
  | .ins c ds, _, h => by
    cases h with
    | ins ha hn hr => exact .ins (hg _ _ ha) hn (Reps.mono hc hg ds _ hr)
  | .cell n, _, h => by
    cases h with
    | cell e => exact .cell (hc.get e)
  | .fn n, _, h => by cases h; exact .fn n
  | .dic ks ds, _, h => by
    cases h with
    | dic ha hr => exact .dic (hg.rd ha) (Reps.mono hc hg ds _ hr)
  | .exc c ds, _, h => by
    cases h with
    | exc0 e => exact .exc0 e
    | exc1 e ha hn hr => exact .exc1 e (hg _ _ ha) hn (Reps.mono hc hg ds _ hr)
  | .lam n, _, h => by
    cases h with
    | lam e e2 => exact .lam (hg _ _ e) (hg _ _ e2)
  | .sf _ _, _, h => by cases h
  | .tab _, _, h => by cases h
theorem Reps.mono (hc : Pre cm cm') (hg : Sub G G') : ∀ (ds : List D) (vs : List V), Reps K T cm G vs ds → Reps K T cm' G' vs ds
  | [], _, h => by cases h; exact .nil
  | d :: ds, _, h => by
    cases h with
    | cons h1 h2 => exact .cons (Rep.mono hc hg d _ h1) (Reps.mono hc hg ds _ h2)
end
theorem Reps.len : ∀ {vs : List V} {ds : List D}, Reps K T cm G vs ds → vs.length = ds.length
  | _, _, .nil => rfl
  | _, _, .cons _ t => by simp [Reps.len t]
theorem Reps.app : ∀ {vs ws : List V} {ds es : List D}, Reps K T cm G vs ds → Reps K T cm G ws es → Reps K T cm G (vs ++ ws) (ds ++ es)
  | _, _, _, _, .nil, h => h
  | _, _, _, _, .cons r t, h => .cons r (Reps.app t h)
theorem Reps.get : ∀ {vs : List V} {ds : List D} {i : Nat} {d : D}, Reps K T cm G vs ds → ds[i]? = some d → ∃ v, vs[i]? = some v ∧ Rep K T cm G v d
  | _, _, _, _, .nil, e => by simp at e
  | _, _, 0, _, .cons r _, e => by simp at e; subst e; exact ⟨_, rfl, r⟩
  | _, _, i + 1, d, .cons _ t, e => by
    obtain ⟨v, h1, h2⟩ := Reps.get (i := i) (d := d) t (by simpa using e)
    exact ⟨v, by simpa using h1, h2⟩
theorem Reps.getV : ∀ {vs : List V} {ds : List D} {i : Nat} {v : V}, Reps K T cm G vs ds → vs[i]? = some v → ∃ d, ds[i]? = some d ∧ Rep K T cm G v d
  | _, _, _, _, .nil, e => by simp at e
  | _, _, 0, _, .cons r _, e => by simp at e; subst e; exact ⟨_, rfl, r⟩
  | _, _, i + 1, v, .cons _ t, e => by
    obtain ⟨d, h1, h2⟩ := Reps.getV (i := i) (v := v) t (by simpa using e)
    exact ⟨d, by simpa using h1, h2⟩
theorem Reps.set {v : V} {d : D} (r : Rep K T cm G v d) : ∀ {vs : List V} {ds : List D} (i : Nat), Reps K T cm G vs ds → Reps K T cm G (vs.set i v) (ds.set i d)
  | _, _, _, .nil => .nil
  | _, _, 0, .cons _ t => .cons r t
  | _, _, i + 1, .cons q t => .cons q (Reps.set r i t)
theorem Reps.take : ∀ {vs : List V} {ds : List D} (n : Nat), Reps K T cm G vs ds → Reps K T cm G (vs.take n) (ds.take n)
  | _, _, 0, _ => .nil
  | _, _, _ + 1, .nil => .nil
  | _, _, n + 1, .cons r t => .cons r (Reps.take n t)
theorem Reps.drop : ∀ {vs : List V} {ds : List D} (n : Nat), Reps K T cm G vs ds → Reps K T cm G (vs.drop n) (ds.drop n)
  | _, _, 0, r => r
  | _, _, _ + 1, .nil => .nil
  | _, _, n + 1, .cons _ t => Reps.drop n t
theorem Reps.reverse : ∀ {vs : List V} {ds : List D}, Reps K T cm G vs ds → Reps K T cm G vs.reverse ds.reverse
  | _, _, .nil => .nil
  | _, _, .cons r t => by
    rw [List.reverse_cons, List.reverse_cons]
    exact Reps.app (Reps.reverse t) (.cons r .nil)
theorem Reps.dropLast {vs : List V} {ds : List D} (h : Reps K T cm G vs ds) : Reps K T cm G vs.dropLast ds.dropLast := by
  rw [List.dropLast_eq_take, List.dropLast_eq_take, h.len]
  exact Reps.take _ h
end

/-! ### what is hidden -/
open Classical in
noncomputable def hid (p : Addr → Prop) (H : Hp) : Hp := fun a => if p a then none else H a
theorem hid_some {p : Addr → Prop} {H : Hp} {a : Addr} {o : HO} : hid p H a = some o ↔ ¬ p a ∧ H a = some o := by
  unfold hid
  by_cases h : p a
  · rw [if_pos h]
    exact ⟨fun (z : (none : Option HO) = some o) => (by cases z), fun z => absurd h z.1⟩
  · rw [if_neg h]
    exact ⟨fun z => ⟨h, z⟩, fun z => z.2⟩
theorem hid_sub {p p' : Addr → Prop} {H H' : Hp} (h : ∀ a o, ¬ p a → H a = some o → ¬ p' a ∧ H' a = some o) : Sub (hid p H) (hid p' H') := fun a o e => by
  obtain ⟨n, e⟩ := hid_some.mp e
  exact hid_some.mpr (h a o n e)

/-- owned: the list or instance of a slot that this frame made and has not handed on -/
def Ow (σ : L2.St) (ρ : List SD) (a : Addr) : Prop := ∃ (i : Nat) (d : D), ρ[i]? = some (.own d) ∧ σ[i]? = some (some (.ref a))
def HidP (cm : List Addr) (Z : Addr → Prop) (O : Addr → Prop) : Addr → Prop := fun a => a ∈ cm ∨ Z a ∨ O a
noncomputable abbrev GV (cm : List Addr) (Z O : Addr → Prop) (H : Hp) : Hp := hid (HidP cm Z O) H

/-- the object at a is d, its parts stand in G -/
def OwnRep (K : PySem.W.Frag) (T : Tb) (cm : List Addr) (G H : Hp) (a : Addr) : D → Prop
  | .lst ds => ∃ xs, H a = some (.lst xs) ∧ Reps K T cm G xs ds
  | .ins c ds => ∃ dx fs, H a = some (.ins (T.cls c) dx fs) ∧ fs.map (·.1) = (T.fl c).take ds.length ∧ Reps K T cm G (fs.map (·.2)) ds
  | .tab n => a = T.ta n ∧ ∃ ps : Array Value, H a = some (.tbl ps) ∧ TriplesOk ps.toList ∧ ∀ (pos : Pos) (cv : Value), codeAmong pos ps.toList = some cv → ∃ c, cv = .ref c ∧ G c = some (LamX.CodeO c (T.tq n))
  | .sf c ds => T.self = some a ∧ ∃ dx fs, H a = some (.ins (T.cls c) dx fs) ∧ fs.map (·.1) = (T.fl c).take ds.length ∧ Reps K T cm G (fs.map (·.2)) ds
  | _ => False
def D.isSf : D → Bool
  | .sf _ _ => true
  | _ => false

section
variable (K : PySem.W.Frag) (T : Tb)
structure Cells (Z O : Addr → Prop) (cm : List Addr) (H : Hp) (s : S) : Prop where
  len : cm.length = s.length
  nd : cm.Nodup
  at_ : ∀ (n : Nat) (a : Addr) (d : D), cm[n]? = some a → s[n]? = some d → OwnRep K T cm (GV cm Z O H) H a d
  there : ∀ a, a ∈ cm → H a ≠ none
  zok : ∀ a, Z a → H a ≠ none
  nosf : ∀ d, d ∈ s → d.isSf = false
/-- the state of a frame: the slots, the heap, against ρ and s. B: what is to stay; Z: hidden by callers -/
structure Rel (B : Hp) (Z : Addr → Prop) (cm : List Addr) (σ : L2.St) (H : Hp) (ρ : List SD) (s : S) : Prop where
  len : ρ.length = σ.length
  val : ∀ (i : Nat) (d : D), ρ[i]? = some (.v d) → ∃ v, σ[i]? = some (some v) ∧ Rep K T cm (GV cm Z (Ow σ ρ) H) v d
  own : ∀ (i : Nat) (d : D), ρ[i]? = some (.own d) → ∃ a, σ[i]? = some (some (.ref a)) ∧ OwnRep K T cm (GV cm Z (Ow σ ρ) H) H a d ∧ a ∉ cm ∧ ¬ Z a ∧ B a = none
  apart : ∀ (i j : Nat) (d e : D) (a : Addr), ρ[i]? = some (.own d) → ρ[j]? = some (.own e) → σ[i]? = some (some (.ref a)) → σ[j]? = some (some (.ref a)) → i = j
  cells : Cells K T Z (Ow σ ρ) cm H s
  base : ∀ a o, B a = some o → H a = some o ∧ a ∉ cm
/-- all but the cells stays, the cells grow by new ones -/
structure Ext (cm : List Addr) (H : Hp) (cm' : List Addr) (H' : Hp) : Prop where
  pre : Pre cm cm'
  keep : ∀ a o, H a = some o → a ∉ cm → H' a = some o ∧ a ∉ cm'
  there : ∀ a, H a ≠ none → H' a ≠ none
end
section
variable {K : PySem.W.Frag} {T : Tb} {B : Hp} {Z O : Addr → Prop} {cm cm1 cm2 : List Addr} {σ : L2.St} {H H1 H2 : Hp} {ρ : List SD} {s s1 : S}
theorem Ext.refl (cm : List Addr) (H : Hp) : Ext cm H cm H := ⟨.refl _, fun _ _ h n => ⟨h, n⟩, fun _ h => h⟩
theorem Ext.trans (a : Ext cm H cm1 H1) (b : Ext cm1 H1 cm2 H2) : Ext cm H cm2 H2 :=
  ⟨a.pre.trans b.pre, fun x o h n => b.keep x o (a.keep x o h n).1 (a.keep x o h n).2, fun x h => b.there x (a.there x h)⟩
theorem Ext.sub (e : Ext cm H cm1 H1) : Sub (GV cm Z O H) (GV cm1 Z O H1) := hid_sub fun a o (n : ¬ HidP cm Z O a) h => by
  have nc : a ∉ cm := fun z => n (.inl z)
  obtain ⟨h1, h2⟩ := e.keep a o h nc
  refine ⟨fun (z : HidP cm1 Z O a) => ?_, h1⟩
  · rcases z with z | z
    · exact h2 z
    · exact n (.inr z)
/-- a new thing at p -/
theorem Ext.new {p : Addr} {o : HO} (h : H p = none) (hc : ∀ a, a ∈ cm → H a ≠ none) : Ext cm H cm (upd H p o) :=
  ⟨.refl _, fun a u e n => ⟨by rw [upd_ne (ne_of_none e h)]; exact e, n⟩, fun a e => by
    by_cases q : a = p
    · rw [q, upd_same]; intro z; cases z
    · rw [upd_ne q]; exact e⟩
theorem OwnRep.ext {G G1 : Hp} {a : Addr} {d : D} (r : OwnRep K T cm G H a d) (hc : Pre cm cm1) (hg : Sub G G1) (ha : ∀ o, H a = some o → H1 a = some o) : OwnRep K T cm1 G1 H1 a d := by
  cases d with
  | lst ds =>
    obtain ⟨xs, e, q⟩ := r
    exact ⟨xs, ha _ e, Reps.mono hc hg _ _ q⟩
  | ins c ds =>
    obtain ⟨dx, fs, e, n, q⟩ := r
    exact ⟨dx, fs, ha _ e, n, Reps.mono hc hg _ _ q⟩
  | sf c ds =>
    obtain ⟨es, dx, fs, e, n, q⟩ := r
    exact ⟨es, dx, fs, ha _ e, n, Reps.mono hc hg _ _ q⟩
  | tab n =>
    obtain ⟨e1, ps, e, n, q⟩ := r
    refine ⟨e1, ps, ha _ e, n, fun pos cv h => ?_⟩
    obtain ⟨c, h1, h2⟩ := q pos cv h
    exact ⟨c, h1, hg _ _ h2⟩
  | _ => exact r.elim
theorem OwnRep.there {G : Hp} {a : Addr} {d : D} (r : OwnRep K T cm G H a d) : H a ≠ none := by
  cases d with
  | lst ds =>
    obtain ⟨xs, e, q⟩ := r
    rw [e]; intro z; cases z
  | ins c ds =>
    obtain ⟨dx, fs, e, n, q⟩ := r
    rw [e]; intro z; cases z
  | sf c ds =>
    obtain ⟨es, dx, fs, e, n, q⟩ := r
    rw [e]; intro z; cases z
  | tab n =>
    obtain ⟨e1, ps, e, n, q⟩ := r
    rw [e]; intro z; cases z
  | _ => exact r.elim
/-- the state behind an expression -/
theorem Rel.ext (r : Rel K T B Z cm σ H ρ s) (e : Ext cm H cm1 H1) (c : Cells K T Z (Ow σ ρ) cm1 H1 s1) : Rel K T B Z cm1 σ H1 ρ s1 where
  len := r.len
  val := fun i d h => by
    obtain ⟨v, h1, h2⟩ := r.val i d h
    exact ⟨v, h1, Rep.mono e.pre e.sub _ _ h2⟩
  own := fun i d h => by
    obtain ⟨a, h1, h2, h3, h4, h5⟩ := r.own i d h
    have q : ∃ o, H a = some o := by
      cases z : H a with
      | none => exact absurd z h2.there
      | some o => exact ⟨o, rfl⟩
    obtain ⟨o, q⟩ := q
    refine ⟨a, h1, h2.ext e.pre e.sub (fun o z => (e.keep a o z h3).1), (e.keep a o q h3).2, h4, h5⟩
  apart := r.apart
  cells := c
  base := fun a o h => by
    obtain ⟨h1, h2⟩ := r.base a o h
    exact e.keep a o h1 h2
/-- the cells where the heap grows and no cell is touched -/
theorem Cells.grow (c : Cells K T Z O cm H s) (h : Sub H H1) : Cells K T Z O cm H1 s where
  len := c.len
  nd := c.nd
  at_ := fun n a d e1 e2 => (c.at_ n a d e1 e2).ext (.refl _) (hid_sub fun b o n e => ⟨n, h b o e⟩) fun o e => h a o e
  there := fun a m => by
    have q := c.there a m
    cases z : H a with
    | none => exact absurd z q
    | some o => rw [h a o z]; intro z; cases z
  zok := fun a m => by
    have q := c.zok a m
    cases z : H a with
    | none => exact absurd z q
    | some o => rw [h a o z]; intro z; cases z
  nosf := c.nosf
theorem Ext.grow (h : Sub H H1) : Ext cm H cm H1 := ⟨.refl _, fun a o e n => ⟨h a o e, n⟩, fun a e => by
  cases z : H a with
  | none => exact absurd z e
  | some o => rw [h a o z]; intro z; cases z⟩
theorem sub_upd {p : Addr} {o : HO} (h : H p = none) : Sub H (upd H p o) := fun a u e => by rw [upd_ne (ne_of_none e h)]; exact e
end
end Tv

/-! Tv2: what an expression is to reach; joining -/
namespace Tv
open PySem PySem.Spec PyProof.Rows L2

/-- a frame's fixed things while an expression runs -/
structure Fm where
  B : Hp
  Z : Addr → Prop
  σ : L2.St
  ρ : List SD
abbrev Fm.O (F : Fm) : Addr → Prop := Ow F.σ F.ρ
noncomputable abbrev Fm.G (F : Fm) (cm : List Addr) (H : Hp) : Hp := GV cm F.Z F.O H
abbrev FRel (K : PySem.W.Frag) (T : Tb) (F : Fm) (cm : List Addr) (H : Hp) (s : S) : Prop := Rel K T F.B F.Z cm F.σ H F.ρ s

/-- an exception of the class c with the fields' values ds -/
def ErrRep (K : PySem.W.Frag) (T : Tb) (cm : List Addr) (G H : Hp) (cls : Value) (d : Option Addr) (c : Nat) (ds : List D) : Prop :=
  cls = .ref (T.cls c) ∧ ((ds = [] ∧ d = none ∧ T.fl c = []) ∨ ∃ dx gs, d = some dx ∧ G dx = some (.xd gs) ∧ gs.map (·.1) = T.fl c ∧ Reps K T cm G (gs.map (·.2)) ds)

abbrev AK (α β : Type) := Fm → Hp → List Addr → Hp → S → β → α → Prop
section
variable (K : PySem.W.Frag) (T : Tb)
def Post {α β : Type} (F : Fm) (cm : List Addr) (H : Hp) (W : WX) (A : AK α β) (r : R α) (Q : β → Hp → Prop) : Prop := match r with
  | .ok a s' => ∀ b H' cm', Ext cm H cm' H' → FRel K T F cm' H' s' → A F H cm' H' s' b a → Q b H'
  | .er c ds s' => ∀ cls dx H' cm', Ext cm H cm' H' → FRel K T F cm' H' s' → ErrRep K T cm' (F.G cm' H') H' cls dx c ds → W cls dx F.σ H'
  | .no => False
def tP {α β : Type} (W : WX) (A : AK α β) (m : List SD → S → R α) : L2.St → Hp → (β → Hp → Prop) → Prop := fun σ H Q =>
  ∃ B Z cm ρ s, Rel K T B Z cm σ H ρ s ∧ Post K T ⟨B, Z, σ, ρ⟩ cm H W A (m ρ s) Q
/-- a value | a value, or an owned list as it stands | values | a test | a new list or instance that nobody else has -/
def AR : AK D V := fun F _ cm H _ v d => Rep K T cm (F.G cm H) v d
def AB : AK D V := fun F _ cm H _ v d => Rep K T cm (F.G cm H) v d ∨ ∃ a, v = .ref a ∧ F.O a ∧ OwnRep K T cm (F.G cm H) H a d
def AL : AK (List D) (List V) := fun F _ cm H _ v d => Reps K T cm (F.G cm H) v d
def AT : AK Bool Bool := fun _ _ _ _ _ v d => v = d
def AF : AK D V := fun F H0 cm H s v d => ∃ p ds xs, v = .ref p ∧ d = .lst ds ∧ H0 p = none ∧ p ∉ cm ∧ Rel K T F.B (fun a => F.Z a ∨ a = p) cm F.σ H F.ρ s ∧ H p = some (.lst xs) ∧ Reps K T cm (GV cm (fun a => F.Z a ∨ a = p) F.O H) xs ds
def Up {α β : Type} (A : AK α β) : Prop := ∀ F H H1 cm2 H2 s b a, (∀ x, H x ≠ none → H1 x ≠ none) → A F H1 cm2 H2 s b a → A F H cm2 H2 s b a
end
section
variable {K : PySem.W.Frag} {T : Tb}
theorem up_AR : Up (AR K T) := fun _ _ _ _ _ _ _ _ _ h => h
theorem up_AB : Up (AB K T) := fun _ _ _ _ _ _ _ _ _ h => h
theorem up_AL : Up (AL K T) := fun _ _ _ _ _ _ _ _ _ h => h
theorem up_AT : Up AT := fun _ _ _ _ _ _ _ _ _ h => h
theorem none_of_there {H H1 : Hp} {p : Addr} (h : ∀ x, H x ≠ none → H1 x ≠ none) (e : H1 p = none) : H p = none := by
  cases z : H p with
  | none => rfl
  | some o => exact absurd e (h p (by rw [z]; intro z; cases z))
theorem up_AF : Up (AF K T) := fun _ _ _ _ _ _ _ _ h z => by
  obtain ⟨p, ds, xs, e, ed, hp, r⟩ := z
  exact ⟨p, ds, xs, e, ed, none_of_there h hp, r⟩
section
variable {α β α' β' : Type} {F : Fm} {cm cm1 : List Addr} {H H1 : Hp} {W : WX} {A : AK α β} {A' : AK α' β'} {r : R α} {Q Q' : β → Hp → Prop} {s s1 : S}
theorem Post.mono (h : Post K T F cm H W A r Q) (q : ∀ b H', Q b H' → Q' b H') : Post K T F cm H W A r Q' := by
  cases r with
  | ok a s' => exact fun b H' cm' e r z => q b H' (h b H' cm' e r z)
  | er c ds s' => exact h
  | no => exact h
/-- from further on -/
theorem Post.later (h : Post K T F cm H W A r Q) (e : Ext cm H cm1 H1) (up : Up A) : Post K T F cm1 H1 W A r Q := by
  cases r with
  | ok a s' => exact fun b H' cm' e' r z => h b H' cm' (e.trans e') r (up _ _ _ _ _ _ _ _ e.there z)
  | er c ds s' => exact fun cls dx H' cm' e' r z => h cls dx H' cm' (e.trans e') r z
  | no => exact h
/-- what stands behind the first part -/
def Mid (K : PySem.W.Frag) (T : Tb) {α β α' β' : Type} (F : Fm) (cm : List Addr) (H : Hp) (W : WX) (A : AK α β) (A' : AK α' β') (f : α → S → R α') (Q : β' → Hp → Prop) : β → Hp → Prop := fun b H1 =>
  ∃ cm1 a s1, Ext cm H cm1 H1 ∧ FRel K T F cm1 H1 s1 ∧ A F H cm1 H1 s1 b a ∧ Post K T F cm1 H1 W A' (f a s1) Q
theorem Post.bind {f : α → S → R α'} {Q : β' → Hp → Prop} (h : Post K T F cm H W A' (r.bind f) Q) (up : Up A') : Post K T F cm H W A r (Mid K T F cm H W A A' f Q) := by
  cases r with
  | ok a s' => exact fun b H' cm' e r z => ⟨cm', a, s', e, r, z, Post.later h e up⟩
  | er c ds s' => exact h
  | no => exact h
/-- the first part of a joined reading -/
theorem tP.bind {m : List SD → S → R α} {f : List SD → α → S → R α'} {σ : L2.St} {Q : β' → Hp → Prop} {k : β → Hp → Prop} (A : AK α β)
    (h : tP K T W A' (fun ρ s => (m ρ s).bind (f ρ)) σ H Q) (up : Up A')
    (q : ∀ B Z cm ρ b H1, Mid K T ⟨B, Z, σ, ρ⟩ cm H W A A' (f ρ) Q b H1 → k b H1) : tP K T W A m σ H k := by
  obtain ⟨B, Z, cm, ρ, s, r, p⟩ := h
  exact ⟨B, Z, cm, ρ, s, r, (p.bind (A := A) up).mono fun b H1 z => q B Z cm ρ b H1 z⟩
theorem tP.of {m : List SD → S → R α} {σ : L2.St} {B : Hp} {Z : Addr → Prop} {ρ : List SD} (r : FRel K T ⟨B, Z, σ, ρ⟩ cm H s) (p : Post K T ⟨B, Z, σ, ρ⟩ cm H W A (m ρ s) Q) : tP K T W A m σ H Q := ⟨B, Z, cm, ρ, s, r, p⟩
/-- the end: nothing more is made -/
theorem Post.fin {a : α} {b : β} (h : Post K T F cm H W A (.ok a s) Q) (r : FRel K T F cm H s) (z : A F H cm H s b a) : Q b H := h b H cm (Ext.refl _ _) r z
/-- the end: a new thing stands at p -/
theorem FRel.grow (r : FRel K T F cm H s) (g : Sub H H1) : FRel K T F cm H1 s := Rel.ext r (Ext.grow g) (Rel.cells r |>.grow g)
theorem Post.fin_new {a : α} {b : β} (h : Post K T F cm H W A (.ok a s) Q) (r : FRel K T F cm H s) (g : Sub H H1) (z : A F H cm H1 s b a) : Q b H1 := h b H1 cm (Ext.grow g) (r.grow g) z
end

/-! ### a value is a value -/
theorem Rel.hidden {B : Hp} {Z : Addr → Prop} {cm : List Addr} {σ : L2.St} {H : Hp} {ρ : List SD} {s : S} (r : Rel K T B Z cm σ H ρ s) {a : Addr} (h : HidP cm Z (Ow σ ρ) a) : H a ≠ none := by
  rcases h with h | h | ⟨i, d, e1, e2⟩
  · exact r.cells.there a h
  · exact r.cells.zok a h
  · obtain ⟨b, q1, q2, _⟩ := r.own i d e1
    have e : b = a := by rw [q1] at e2; cases e2; rfl
    subst e
    exact q2.there
theorem FRel.new_vis {F : Fm} {cm : List Addr} {H : Hp} {s : S} (r : FRel K T F cm H s) {p : Addr} (h : H p = none) : ¬ HidP cm F.Z F.O p := fun z => Rel.hidden r z h
/-- a new thing is seen -/
theorem vis_new {F : Fm} {cm : List Addr} {H : Hp} {s : S} (r : FRel K T F cm H s) {p : Addr} {o : HO} (h : H p = none) : F.G cm (upd H p o) p = some o := hid_some.mpr ⟨r.new_vis h, upd_same⟩
theorem sub_new {F : Fm} {cm : List Addr} {H : Hp} {s : S} (r : FRel K T F cm H s) {p : Addr} {o : HO} (h : H p = none) : Sub (F.G cm H) (F.G cm (upd H p o)) := hid_sub fun a u n e => ⟨n, sub_upd h a u e⟩
theorem rep_tup {F : Fm} {cm : List Addr} {H : Hp} {s : S} (r : FRel K T F cm H s) {p : Addr} {xs : List V} {ds : List D} (h : H p = none) (q : Reps K T cm (F.G cm H) xs ds) :
    Rep K T cm (F.G cm (upd H p (.tup xs))) (.ref p) (.tup ds) := .tup (.inl (.inl (vis_new r h))) (Reps.mono (.refl _) (sub_new r h) _ _ q)
/-- a new list, its own -/
theorem rep_lst {F : Fm} {cm : List Addr} {H : Hp} {s : S} (r : FRel K T F cm H s) {p : Addr} {xs : List V} {ds : List D} (h : H p = none) (q : Reps K T cm (F.G cm H) xs ds) :
    AF K T F H cm (upd H p (.lst xs)) s (.ref p) (.lst ds) := by
  have nc : p ∉ cm := fun z => r.new_vis h (.inl z)
  have sub : Sub (F.G cm H) (GV cm (fun a => F.Z a ∨ a = p) F.O (upd H p (.lst xs))) := hid_sub fun a u n e => ⟨fun z => by
    rcases z with z | z | z
    · exact n (.inl z)
    · rcases z with z | z
      · exact n (.inr (.inl z))
      · rw [z, h] at e; cases e
    · exact n (.inr (.inr z)), sub_upd h a u e⟩
  refine ⟨p, ds, xs, rfl, rfl, h, nc, ?_, upd_same, Reps.mono (.refl _) sub _ _ q⟩
  have g := sub_upd (o := .lst xs) h
  refine ⟨r.len, fun i d e => ?_, fun i d e => ?_, r.apart, ⟨r.cells.len, r.cells.nd, fun n a d e1 e2 => ?_, fun a m => (r.cells.grow g).there a m, fun a m => ?_, r.cells.nosf⟩, fun a o e => ?_⟩
  · obtain ⟨v, h1, h2⟩ := r.val i d e
    exact ⟨v, h1, Rep.mono (.refl _) sub _ _ h2⟩
  · obtain ⟨a, h1, h2, h3, h4, h5⟩ := r.own i d e
    refine ⟨a, h1, h2.ext (.refl _) sub fun o z => g a o z, h3, fun z => ?_, h5⟩
    rcases z with z | z
    · exact h4 z
    · exact h2.there (by rw [z]; exact h)
  · exact (r.cells.at_ n a d e1 e2).ext (.refl _) sub fun o z => g a o z
  · rcases m with m | m
    · exact (r.cells.grow g).zok a m
    · rw [m, upd_same]; intro z; cases z
  · obtain ⟨h1, h2⟩ := r.base a o e
    exact ⟨g a o h1, h2⟩
/-- the new list as a value -/
theorem AF.val {F : Fm} {H0 : Hp} {cm : List Addr} {H : Hp} {s : S} {v : V} {d : D} {cm0 : List Addr} {s0 : S} (r0 : FRel K T F cm0 H0 s0) (z : AF K T F H0 cm H s v d) : Rep K T cm (F.G cm H) v d := by
  obtain ⟨p, ds, xs, rfl, rfl, hp, hc, r, e, q⟩ := z
  have nv := r0.new_vis hp
  have sub : Sub (GV cm (fun a => F.Z a ∨ a = p) F.O H) (F.G cm H) := hid_sub fun a u n e => ⟨fun z => by
    rcases z with z | z | z
    · exact n (.inl z)
    · exact n (.inr (.inl (.inl z)))
    · exact n (.inr (.inr z)), e⟩
  have vis : F.G cm H p = some (.lst xs) := hid_some.mpr ⟨fun z => by
    rcases z with z | z
    · exact hc z
    · exact nv (.inr z), e⟩
  exact .lst vis (Reps.mono (.refl _) sub _ _ q)
end
/-! ### the judgements -/
abbrev QE (X : Cx) (T : Tb) (W : WX) (e : Expr) (m : EM) : Prop := PE X e (tP X.K T W (AR X.K T) m)
abbrev QB (X : Cx) (T : Tb) (W : WX) (e : Expr) (m : EM) : Prop := PE X e (tP X.K T W (AB X.K T) m)
abbrev QF (X : Cx) (T : Tb) (W : WX) (e : Expr) (m : EM) : Prop := PE X e (tP X.K T W (AF X.K T) m)
abbrev QT (X : Cx) (T : Tb) (W : WX) (e : Expr) (m : TM) : Prop := PT X e (tP X.K T W AT m)
abbrev QW (X : Cx) (T : Tb) (W : WX) (e : Expr) (m : TM) : Prop := PW X e (tP X.K T W AT m)
abbrev QA (X : Cx) (T : Tb) (W : WX) (es : List Expr) (m : List SD → S → R (List D)) : Prop := PA X es (tP X.K T W (AL X.K T) m)
theorem _root_.L2.PE.conv {X : Cx} {e : Expr} {t t' : TE} (h : PE X e t) (c : ∀ σ H Q, t' σ H Q → t σ H Q) : PE X e t' := ⟨fun pins s σ H Q I w => h.run pins s σ H Q I (c σ H Q w)⟩
theorem _root_.L2.PT.conv {X : Cx} {e : Expr} {t t' : TT} (h : PT X e t) (c : ∀ σ H Q, t' σ H Q → t σ H Q) : PT X e t' := ⟨fun pins s σ H Q I w => h.run pins s σ H Q I (c σ H Q w)⟩
theorem _root_.L2.PW.conv {X : Cx} {e : Expr} {t t' : TT} (h : PW X e t) (c : ∀ σ H Q, t' σ H Q → t σ H Q) : PW X e t' := ⟨fun wh pins s σ H Q I w => h.run wh pins s σ H Q I (c σ H Q w)⟩
theorem _root_.L2.PA.conv {X : Cx} {es : List Expr} {t t' : TA} (h : PA X es t) (c : ∀ σ H Q, t' σ H Q → t σ H Q) : PA X es t' := ⟨fun po pins s σ H Q I w => h.run po pins s σ H Q I (c σ H Q w)⟩
section
variable {X : Cx} {T : Tb} {W : WX} {e : Expr} {m : EM}
theorem tP.imp {K : PySem.W.Frag} {T : Tb} {α β : Type} {W : WX} {A A' : AK α β} {m : List SD → S → R α} {σ : L2.St} {H : Hp} {Q : β → Hp → Prop} (h : tP K T W A' m σ H Q)
    (i : ∀ F cm0 H0 s0 cm H s b a, FRel K T F cm0 H0 s0 → Ext cm0 H0 cm H → FRel K T F cm H s → A F H0 cm H s b a → A' F H0 cm H s b a) : tP K T W A m σ H Q := by
  obtain ⟨B, Z, cm, ρ, s, r, p⟩ := h
  refine ⟨B, Z, cm, ρ, s, r, ?_⟩
  cases hm : m ρ s with
  | ok a s' => rw [hm] at p; exact fun b H' cm' e r' z => p b H' cm' e r' (i _ _ _ _ _ _ _ _ _ r e r' z)
  | er c ds s' => rw [hm] at p; exact p
  | no => rw [hm] at p; exact p
/-- a value where an owned one might stand | a new list as a value -/
theorem qb (h : QE X T W e m) : QB X T W e m := PE.conv h fun _ _ _ z => z.imp fun _ _ _ _ _ _ _ _ _ _ _ _ q => .inl q
theorem qf (h : QF X T W e m) : QE X T W e m := PE.conv h fun _ _ _ z => z.imp fun _ _ _ _ _ _ _ _ _ r _ _ q => AF.val r q
end
end Tv

/-! Tv3: expressions -/
namespace Tv
open PySem PySem.Spec PyProof.Rows L2

/-! ### what they reckon -/
def mVar (i : Nat) : EM := fun ρ s => match ρ[i]? with | some (.v d) => .ok d s | _ => .no
def mVarB (i : Nat) : EM := fun ρ s => match ρ[i]? with | some (.v d) => .ok d s | some (.own d) => .ok d s | _ => .no
def mC (d : D) : EM := fun _ s => .ok d s
def mOp (g : D → D → S → R D) (a b : EM) : EM := fun ρ s => (a ρ s).bind fun x s1 => (b ρ s1).bind fun y s2 => g x y s2
def mUn (g : D → S → R D) (a : EM) : EM := fun ρ s => (a ρ s).bind fun x s1 => g x s1
def mNil : List SD → S → R (List D) := fun _ s => .ok [] s
def mCons (a : EM) (r : List SD → S → R (List D)) : List SD → S → R (List D) := fun ρ s => (a ρ s).bind fun x s1 => (r ρ s1).bind fun xs s2 => .ok (x :: xs) s2
def mTup (a : List SD → S → R (List D)) : EM := fun ρ s => (a ρ s).bind fun xs s1 => .ok (.tup xs) s1
def mLst (a : List SD → S → R (List D)) : EM := fun ρ s => (a ρ s).bind fun xs s1 => .ok (.lst xs) s1
def mTest (a : EM) : TM := fun ρ s => (a ρ s).bind fun x s1 => match x with | .bl b => .ok b s1 | _ => .no
def mB (a : TM) : EM := fun ρ s => (a ρ s).bind fun x s1 => .ok (.bl x) s1
def mAnd (a b : TM) : TM := fun ρ s => (a ρ s).bind fun x s1 => match x with | true => b ρ s1 | false => .ok false s1
def mOr (a b : TM) : TM := fun ρ s => (a ρ s).bind fun x s1 => match x with | true => .ok true s1 | false => b ρ s1
def mNot (a : TM) : TM := fun ρ s => (a ρ s).bind fun x s1 => .ok (!x) s1
def mIf (c : TM) (a b : EM) : EM := fun ρ s => (c ρ s).bind fun x s1 => match x with | true => a ρ s1 | false => b ρ s1
def mAndV (a b : EM) : EM := fun ρ s => (a ρ s).bind fun x s1 => match x with | .bl true => b ρ s1 | .bl false => .ok (.bl false) s1 | _ => .no
def mOrV (a b : EM) : EM := fun ρ s => (a ρ s).bind fun x s1 => match x with | .bl true => .ok (.bl true) s1 | .bl false => b ρ s1 | _ => .no
def mNotV (a : EM) : EM := fun ρ s => (a ρ s).bind fun x s1 => match x with | .bl b => .ok (.bl (!b)) s1 | _ => .no
def mChain (g g' : D → D → S → R D) (a b c : EM) : EM := fun ρ s => (a ρ s).bind fun x s1 => (b ρ s1).bind fun y s2 => (g x y s2).bind fun z s3 => match z with
  | .bl true => (c ρ s3).bind fun w s4 => g' y w s4
  | .bl false => .ok (.bl false) s3
  | _ => .no

section
variable {K : PySem.W.Frag} {T : Tb} {F : Fm} {cm cm1 : List Addr} {H H1 : Hp} {s s1 : S} {v : V} {d : D}
theorem AB.ext {H0 H0' : Hp} (r : FRel K T F cm H s) (e : Ext cm H cm1 H1) (z : AB K T F H0 cm H s v d) : AB K T F H0' cm1 H1 s1 v d := by
  rcases z with z | ⟨a, rfl, o, q⟩
  · exact .inl (Rep.mono e.pre e.sub _ _ z)
  · refine .inr ⟨a, rfl, o, q.ext e.pre e.sub fun u h => (e.keep a u h ?_).1⟩
    obtain ⟨i, dd, h1, h2⟩ := o
    obtain ⟨b, q1, _, q3, _⟩ := r.own i dd h1
    have e : b = a := by rw [q1] at h2; cases h2; rfl
    rw [← e]
    exact q3
theorem AR.ext {H0 H0' : Hp} (e : Ext cm H cm1 H1) (z : AR K T F H0 cm H s v d) : AR K T F H0' cm1 H1 s1 v d := Rep.mono e.pre e.sub _ _ z
theorem AB.of (z : Rep K T cm (F.G cm H) v d) {H0 : Hp} : AB K T F H0 cm H s v d := .inl z
theorem AB.int {H0 : Hp} {i : Int} (z : AB K T F H0 cm H s v (.int i)) : v = .int i := by
  rcases z with z | ⟨a, rfl, o, q⟩
  · cases z; rfl
  · exact q.elim
theorem AB.bl {H0 : Hp} {b : Bool} (z : AB K T F H0 cm H s v (.bl b)) : v = .bl b := by
  rcases z with z | ⟨a, rfl, o, q⟩
  · cases z; rfl
  · exact q.elim
theorem AB.non {H0 : Hp} (z : AB K T F H0 cm H s v .non) : v = .non := by
  rcases z with z | ⟨a, rfl, o, q⟩
  · cases z; rfl
  · exact q.elim
theorem AB.str {H0 : Hp} {x : Str} (z : AB K T F H0 cm H s v (.str x)) : v = .str x := by
  rcases z with z | ⟨a, rfl, o, q⟩
  · cases z; rfl
  · exact q.elim
theorem Sub.hidH {p : Addr → Prop} {H : Hp} : Sub (hid p H) H := fun a o e => (hid_some.mp e).2
theorem AB.tup {H0 : Hp} {ds : List D} (z : AB K T F H0 cm H s v (.tup ds)) : ∃ a xs, v = .ref a ∧ SqT K H a xs ∧ SqT K (F.G cm H) a xs ∧ Reps K T cm (F.G cm H) xs ds := by
  rcases z with z | ⟨a, rfl, o, q⟩
  · cases z with
    | tup h1 h2 => exact ⟨_, _, rfl, Sub.hidH.seqT h1, h1, h2⟩
  · exact q.elim
theorem AB.lst {H0 : Hp} {ds : List D} (z : AB K T F H0 cm H s v (.lst ds)) : ∃ a xs, v = .ref a ∧ H a = some (.lst xs) ∧ Reps K T cm (F.G cm H) xs ds := by
  rcases z with z | ⟨a, rfl, o, q⟩
  · cases z with
    | lst h1 h2 => exact ⟨_, _, rfl, Sub.hidH _ _ h1, h2⟩
  · obtain ⟨xs, h1, h2⟩ := q
    exact ⟨a, xs, rfl, h1, h2⟩
theorem AB.frz {H0 : Hp} {ds : List D} (z : AB K T F H0 cm H s v (.frz ds)) : ∃ a xs, v = .ref a ∧ SqL K H a xs ∧ Reps K T cm (F.G cm H) xs ds := by
  rcases z with z | ⟨a, rfl, o, q⟩
  · cases z with
    | frz h1 h2 => exact ⟨_, _, rfl, Sub.hidH.seqL h1, h2⟩
  · exact q.elim
theorem AB.ins {H0 : Hp} {c : Nat} {ds : List D} (z : AB K T F H0 cm H s v (.ins c ds)) : ∃ a dx fs, v = .ref a ∧ H a = some (.ins (T.cls c) dx fs) ∧ (fs.map (·.1) = (T.fl c).take ds.length) ∧ Reps K T cm (F.G cm H) (fs.map (·.2)) ds := by
  rcases z with z | ⟨a, rfl, o, q⟩
  · cases z with
    | @ins a dx c fs ds h1 h2 h3 =>
      have hl := h3.len
      rw [List.length_map] at hl
      have hl2 := congrArg List.length h2
      rw [List.length_map] at hl2
      exact ⟨_, _, _, rfl, Sub.hidH _ _ h1, by rw [h2, ← hl, hl2, List.take_length], h3⟩
  · obtain ⟨dx, xs, h1, h2, h3⟩ := q
    exact ⟨a, dx, xs, rfl, h1, h2, h3⟩
/-- a list or a tuple: its items -/
def seqD : D → Option (List D)
  | .tup ds => some ds | .lst ds => some ds | .frz ds => some ds | _ => none
theorem AB.seq {H0 : Hp} {ds : List D} (h : seqD d = some ds) (z : AB K T F H0 cm H s v d) : ∃ a xs, v = .ref a ∧ (SqL K H a xs ∨ SqT K H a xs) ∧ Reps K T cm (F.G cm H) xs ds := by
  cases d with
  | tup es =>
    obtain rfl : es = ds := Option.some.inj h
    obtain ⟨a, xs, e, h1, _, h2⟩ := z.tup
    exact ⟨a, xs, e, .inr h1, h2⟩
  | lst es =>
    obtain rfl : es = ds := Option.some.inj h
    obtain ⟨a, xs, e, h1, h2⟩ := z.lst
    exact ⟨a, xs, e, .inl (.of h1), h2⟩
  | frz es =>
    obtain rfl : es = ds := Option.some.inj h
    obtain ⟨a, xs, e, h1, h2⟩ := z.frz
    exact ⟨a, xs, e, .inl h1, h2⟩
  | _ => cases h
end

/-! ### names, constants -/
section
variable {X : Cx} {T : Tb} {W : WX} {a b c e : Expr} {es : List Expr} {ma mb mc : EM} {pos : Pos}
theorem qv (i : Nat) {x : Str} {pos : Pos} (hN : X.N[i]? = some x := by rfl) (hv : Vis X.env.scope x := by first | exact Or.inl rfl | exact Or.inr (Or.inl rfl) | exact Or.inr (Or.inr rfl)) (hd : (x == ("__debug__" : Str)) = false := by decide)
    (hcd : (x == ("__classdict__" : Str)) = false := by decide) : QE X T W (.Name x pos) (mVar i) := PE.conv (pe_var hN hv hd hcd) fun σ H Q h => by
  obtain ⟨B, Z, cm, ρ, s, r, p⟩ := h
  unfold mVar at p
  cases e : ρ[i]? with
  | none => rw [e] at p; exact p.elim
  | some z =>
    rw [e] at p
    cases z with
    | v d =>
      obtain ⟨v, h1, h2⟩ := r.val i d e
      exact ⟨v, h1, p.fin (F := ⟨B, Z, σ, ρ⟩) r h2⟩
    | un => exact p.elim
    | own d => exact p.elim
theorem qvB (i : Nat) {x : Str} {pos : Pos} (hN : X.N[i]? = some x := by rfl) (hv : Vis X.env.scope x := by first | exact Or.inl rfl | exact Or.inr (Or.inl rfl) | exact Or.inr (Or.inr rfl)) (hd : (x == ("__debug__" : Str)) = false := by decide)
    (hcd : (x == ("__classdict__" : Str)) = false := by decide) : QB X T W (.Name x pos) (mVarB i) := PE.conv (pe_var hN hv hd hcd) fun σ H Q h => by
  obtain ⟨B, Z, cm, ρ, s, r, p⟩ := h
  unfold mVarB at p
  cases e : ρ[i]? with
  | none => rw [e] at p; exact p.elim
  | some z =>
    rw [e] at p
    cases z with
    | v d =>
      obtain ⟨v, h1, h2⟩ := r.val i d e
      exact ⟨v, h1, p.fin (F := ⟨B, Z, σ, ρ⟩) r (.inl h2)⟩
    | un => exact p.elim
    | own d =>
      obtain ⟨v, h1, h2, _⟩ := r.own i d e
      exact ⟨.ref v, h1, p.fin (F := ⟨B, Z, σ, ρ⟩) r (.inr ⟨v, rfl, ⟨i, d, e, h1⟩, h2⟩)⟩
theorem q_c {v : V} {d : D} (h : PE X e (tC v)) (hr : ∀ cm G, Rep X.K T cm G v d) : QE X T W e (mC d) := PE.conv h fun σ H Q h => by
  obtain ⟨B, Z, cm, ρ, s, r, p⟩ := h
  exact p.fin (F := ⟨B, Z, σ, ρ⟩) r (hr _ _)
theorem q_int {i : Int} {j} : QE X T W (.Constant (.int i) j pos) (mC (.int i)) := q_c pe_int fun _ _ => .int i
theorem q_bl {i : Bool} {j} : QE X T W (.Constant (.bool i) j pos) (mC (.bl i)) := q_c pe_bl fun _ _ => .bl i
theorem q_non {j} : QE X T W (.Constant .none j pos) (mC .non) := q_c pe_non fun _ _ => .non
theorem q_str {x : Str} {j} : QE X T W (.Constant (.str x) j pos) (mC (.str x)) := q_c pe_str fun _ _ => .str x
/-- a constant of the module: an int, a text -/
theorem q_gint {x : Str} {i : Int} {t : Tok} (hg : Gl X x) (hm : X.mg x = some (.int i t)) (hd : (x == ("__debug__" : Str)) = false := by decide) : QE X T W (.Name x pos) (mC (.int i)) := q_c (v := .int i) (pe_glob hg hm ⟨t, rfl⟩ hd) fun _ _ => .int i
theorem q_gstr {x y : Str} {t : Tok} (hg : Gl X x) (hm : X.mg x = some (.str y t)) (hd : (x == ("__debug__" : Str)) = false := by decide) : QE X T W (.Name x pos) (mC (.str y)) := q_c (v := .str y) (pe_glob hg hm ⟨t, rfl⟩ hd) fun _ _ => .str y

/-! ### two operands -/
def O2 (X : Cx) (T : Tb) (A : AK D V) (r : R2) (g : D → D → S → R D) : Prop := ∀ (F : Fm) (cm : List Addr) (H : Hp) (s : S) (W : WX) (x y : V) (dx dy : D) (Q : VK),
  FRel X.K T F cm H s → AB X.K T F H cm H s x dx → AB X.K T F H cm H s y dy → Post X.K T F cm H W A (g dx dy s) Q → r x y H Q
theorem tOp_of {A : AK D V} {r : R2} {g : D → D → S → R D} (hg : O2 X T A r g) (up : Up A) {σ : L2.St} {H : Hp} {Q : VK} (h : tP X.K T W A (mOp g ma mb) σ H Q) :
    tOp r (tP X.K T W (AB X.K T) ma) (tP X.K T W (AB X.K T) mb) σ H Q := by
  refine h.bind (AB X.K T) up fun B Z cm ρ x H1 ⟨cm1, dx, s1, e1, r1, a1, p1⟩ => ?_
  refine ⟨B, Z, cm1, ρ, s1, r1, (p1.bind (A := AB X.K T) up).mono fun y H2 ⟨cm2, dy, s2, e2, r2, a2, p2⟩ => ?_⟩
  exact hg ⟨B, Z, σ, ρ⟩ cm2 H2 s2 W x y dx dy Q r2 (a1.ext r1 e2) a2 p2
theorem q_op {A : AK D V} {op : Operator} {r : R2} {g : D → D → S → R D} (ho : OpR X (binaryOp op) r) (hg : O2 X T A r g) (up : Up A) (ha : QB X T W a ma) (hb : QB X T W b mb) : PE X (.BinOp a op b pos) (tP X.K T W A (mOp g ma mb)) :=
  PE.conv (pe_op ho ha hb) fun _ _ _ h => tOp_of hg up h
theorem q_cmp {op : CmpOp} {r : R2} {g : D → D → S → R D} (ho : OpR X (compareOp op) r) (hg : O2 X T (AR X.K T) r g) (ha : QB X T W a ma) (hb : QB X T W b mb) (hm : behindInMarks op b = false) : QE X T W (.Compare a [op] [b] pos) (mOp g ma mb) :=
  PE.conv (pe_cmpR ho ha hb hm) fun _ _ _ h => tOp_of hg up_AR h
theorem tTest_of {t : TE} (hc : ∀ σ H Q, tP X.K T W (AR X.K T) ma σ H Q → t σ H Q) {σ : L2.St} {H : Hp} {Q : Bool → Hp → Prop} (h : tP X.K T W AT (mTest ma) σ H Q) : tTest t σ H Q := by
  refine hc _ _ _ (h.bind (AR X.K T) up_AT fun B Z cm ρ x H1 ⟨cm1, dx, s1, e1, r1, a1, p1⟩ => ?_)
  cases dx with
  | bl k =>
    cases a1
    exact ⟨k, rfl, p1.fin r1 rfl⟩
  | _ => exact p1.elim
theorem qt_cmp {op : CmpOp} {r : R2} {g : D → D → S → R D} (ho : OpR X (compareOp op) r) (hg : O2 X T (AR X.K T) r g) (ha : QB X T W a ma) (hb : QB X T W b mb) (hm : behindInMarks op b = false) : QT X T W (.Compare a [op] [b] pos) (mTest (mOp g ma mb)) :=
  PT.conv (pt_cmpR ho ha hb hm) fun _ _ _ h => tTest_of (fun _ _ _ h => tOp_of hg up_AR h) h
theorem qt_val (h : QE X T W e ma) (he : ∀ whole, isTrue e X.env whole = (do let v ← whole; standAt e.pos; holding [v] (truthy v)) := by intro _; rfl) : QT X T W e (mTest ma) :=
  PT.conv (pt_val h he) fun _ _ _ h => tTest_of (fun _ _ _ h => h) h

/-! ### tests joined -/
variable {ta tb tc : TM} {rest : List Expr}
theorem qw_and1 (ha : QT X T W a ta) : QW X T W (.BoolOp .And [a] pos) ta := pw_and1 ha
theorem qw_or1 (ha : QT X T W a ta) : QW X T W (.BoolOp .Or [a] pos) ta := pw_or1 ha
theorem qw_and (ha : QT X T W a ta) (hb : QW X T W (.BoolOp .And (b :: rest) pos) tb) : QW X T W (.BoolOp .And (a :: b :: rest) pos) (mAnd ta tb) := PW.conv (pw_and ha hb) fun σ H Q h => by
  refine h.bind AT up_AT fun B Z cm ρ x H1 ⟨cm1, dx, s1, e1, r1, a1, p1⟩ => ?_
  cases a1
  cases x with
  | true =>
    rw [if_pos rfl]
    exact ⟨B, Z, cm1, ρ, s1, r1, p1⟩
  | false =>
    rw [if_neg Bool.false_ne_true]
    exact p1.fin r1 rfl
theorem qw_or (ha : QT X T W a ta) (hb : QW X T W (.BoolOp .Or (b :: rest) pos) tb) : QW X T W (.BoolOp .Or (a :: b :: rest) pos) (mOr ta tb) := PW.conv (pw_or ha hb) fun σ H Q h => by
  refine h.bind AT up_AT fun B Z cm ρ x H1 ⟨cm1, dx, s1, e1, r1, a1, p1⟩ => ?_
  cases a1
  cases x with
  | true =>
    rw [if_pos rfl]
    exact p1.fin r1 rfl
  | false =>
    rw [if_neg Bool.false_ne_true]
    exact ⟨B, Z, cm1, ρ, s1, r1, p1⟩
theorem qw_pt (h : QW X T W e ta) : QT X T W e ta := PW.pt h
theorem qt_not (ha : QT X T W a ta) : QT X T W (.UnaryOp .Not a pos) (mNot ta) := PT.conv (pt_not ha) fun σ H Q h => by
  refine h.bind AT up_AT fun B Z cm ρ x H1 ⟨cm1, dx, s1, e1, r1, a1, p1⟩ => ?_
  cases a1
  exact p1.fin r1 rfl
/-- as values -/
theorem q_one {op} (h : QE X T W a ma) : QE X T W (.BoolOp op [a] pos) ma := pe_one h
theorem q_and (ha : QE X T W a ma) (hb : QE X T W (.BoolOp .And (b :: rest) pos) mb) : QE X T W (.BoolOp .And (a :: b :: rest) pos) (mAndV ma mb) := PE.conv (pe_and ha hb) fun σ H Q h => by
  refine h.bind (AR X.K T) up_AR fun B Z cm ρ x H1 ⟨cm1, dx, s1, e1, r1, a1, p1⟩ => ?_
  cases dx with
  | bl k =>
    cases a1
    cases k with
    | true => exact ⟨true, rfl, by rw [if_pos rfl]; exact ⟨B, Z, cm1, ρ, s1, r1, p1⟩⟩
    | false => exact ⟨false, rfl, by rw [if_neg Bool.false_ne_true]; exact p1.fin r1 (.bl false)⟩
  | _ => exact p1.elim
theorem q_or (ha : QE X T W a ma) (hb : QE X T W (.BoolOp .Or (b :: rest) pos) mb) : QE X T W (.BoolOp .Or (a :: b :: rest) pos) (mOrV ma mb) := PE.conv (pe_or ha hb) fun σ H Q h => by
  refine h.bind (AR X.K T) up_AR fun B Z cm ρ x H1 ⟨cm1, dx, s1, e1, r1, a1, p1⟩ => ?_
  cases dx with
  | bl k =>
    cases a1
    cases k with
    | true => exact ⟨true, rfl, by rw [if_pos rfl]; exact p1.fin r1 (.bl true)⟩
    | false => exact ⟨false, rfl, by rw [if_neg Bool.false_ne_true]; exact ⟨B, Z, cm1, ρ, s1, r1, p1⟩⟩
  | _ => exact p1.elim
theorem q_not (ha : QE X T W a ma) : QE X T W (.UnaryOp .Not a pos) (mNotV ma) := PE.conv (pe_not ha) fun σ H Q h => by
  refine h.bind (AR X.K T) up_AR fun B Z cm ρ x H1 ⟨cm1, dx, s1, e1, r1, a1, p1⟩ => ?_
  cases dx with
  | bl k =>
    cases a1
    exact ⟨k, rfl, p1.fin r1 (.bl _)⟩
  | _ => exact p1.elim
theorem q_ifExp {A : AK D V} (hc : QT X T W c tc) (up : Up A) (ha : PE X a (tP X.K T W A ma)) (hb : PE X b (tP X.K T W A mb)) : PE X (.IfExp c a b pos) (tP X.K T W A (mIf tc ma mb)) := PE.conv (pe_ifExp hc ha hb) fun σ H Q h => by
  refine h.bind AT up fun B Z cm ρ x H1 ⟨cm1, dx, s1, e1, r1, a1, p1⟩ => ?_
  cases a1
  cases x with
  | true =>
    rw [if_pos rfl]
    exact ⟨B, Z, cm1, ρ, s1, r1, p1⟩
  | false =>
    rw [if_neg Bool.false_ne_true]
    exact ⟨B, Z, cm1, ρ, s1, r1, p1⟩
theorem q_if (hc : QT X T W c tc) (ha : QE X T W a ma) (hb : QE X T W b mb) : QE X T W (.IfExp c a b pos) (mIf tc ma mb) := q_ifExp hc up_AR ha hb
theorem q_ifF (hc : QT X T W c tc) (ha : QF X T W a ma) (hb : QF X T W b mb) : QF X T W (.IfExp c a b pos) (mIf tc ma mb) := q_ifExp hc up_AF ha hb
theorem tChain_of {r r' : R2} {g g' : D → D → S → R D} (hg : O2 X T (AR X.K T) r g) (hg' : O2 X T (AR X.K T) r' g') {σ : L2.St} {H : Hp} {Q : VK} (h : tP X.K T W (AR X.K T) (mChain g g' ma mb mc) σ H Q) :
    tChain r r' (tP X.K T W (AB X.K T) ma) (tP X.K T W (AB X.K T) mb) (tP X.K T W (AB X.K T) mc) σ H Q := by
  refine h.bind (AB X.K T) up_AR fun B Z cm ρ x H1 ⟨cm1, dx, s1, e1, r1, a1, p1⟩ => ?_
  refine ⟨B, Z, cm1, ρ, s1, r1, (p1.bind (A := AB X.K T) up_AR).mono fun y H2 ⟨cm2, dy, s2, e2, r2, a2, p2⟩ => ?_⟩
  refine hg ⟨B, Z, σ, ρ⟩ cm2 H2 s2 W x y dx dy _ r2 (a1.ext r1 e2) a2 ((p2.bind (A := AR X.K T) up_AR).mono fun z H3 ⟨cm3, dz, s3, e3, r3, a3, p3⟩ => ?_)
  cases dz with
  | bl k =>
    cases a3
    refine ⟨k, rfl, ?_⟩
    cases k with
    | true =>
      rw [if_pos rfl]
      refine ⟨B, Z, cm3, ρ, s3, r3, (p3.bind (A := AB X.K T) up_AR).mono fun w H4 ⟨cm4, dw, s4, e4, r4, a4, p4⟩ => ?_⟩
      exact hg' ⟨B, Z, σ, ρ⟩ cm4 H4 s4 W y w dy dw Q r4 (a2.ext r2 (e3.trans e4)) a4 p4
    | false =>
      rw [if_neg Bool.false_ne_true]
      exact p3.fin r3 (.bl false)
  | _ => exact p3.elim
end
end Tv

/-! Tv4: operators, comparisons, subscripts -/
namespace Tv
open PySem PySem.Spec PyProof.Rows L2

/-! ### what they reckon -/
def gAdd : D → D → S → R D := fun x y s => match x, y with
  | .int i, .int j => .ok (.int (i + j)) s
  | .str a, .str b => if a.length + b.length ≤ sizeLine then .ok (.str (a ++ b)) s else .no
  | .tup a, .tup b => if a.length + b.length ≤ sizeLine then .ok (.tup (a ++ b)) s else .no
  | _, _ => .no
def gCat : D → D → S → R D := fun x y s => match x, y with
  | .lst a, .lst b => if a.length + b.length ≤ sizeLine then .ok (.lst (a ++ b)) s else .no
  | _, _ => .no
def gRep : D → D → S → R D := fun x y s => match x, y with
  | .lst a, .int k => if k < 2 ^ 63 ∧ -(2 ^ 63) ≤ k ∧ a.length * k.toNat ≤ sizeLine then .ok (.lst (List.replicate k.toNat a).flatten) s else .no
  | _, _ => .no
def gSub : D → D → S → R D := fun x y s => match x, y with
  | .int i, .int j => .ok (.int (i - j)) s
  | _, _ => .no
def gMul : D → D → S → R D := fun x y s => match x, y with
  | .int i, .int j => if i.natAbs.log2 + j.natAbs.log2 < 1000000 then .ok (.int (i * j)) s else .no
  | .tup a, .int k => if a ≠ [] ∧ 2 ≤ k ∧ k ≤ 1000 ∧ a.length ≤ 1000 then .ok (.tup (List.replicate k.toNat a).flatten) s else .no
  | _, _ => .no
def gDiv : D → D → S → R D := fun x y s => match x, y with
  | .int i, .int j => if 0 < j ∧ j.natAbs.log2 < 9000 then .ok (.int (i / j)) s else .no
  | _, _ => .no
def gMod : D → D → S → R D := fun x y s => match x, y with
  | .int i, .int j => if 0 < j then .ok (.int (i % j)) s else .no
  | _, _ => .no
def gPow : D → D → S → R D := fun x y s => match x, y with
  | .int i, .int j => if 0 ≤ j ∧ j ≤ 1000000 ∧ i.natAbs < 2 ^ 64 then .ok (.int (i ^ j.toNat)) s else .no
  | _, _ => .no
def gLt : D → D → S → R D := fun x y s => match x, y with
  | .int i, .int j => .ok (.bl (decide (i < j))) s
  | .str i, .str j => .ok (.bl (decide (i.cps.toList < j.cps.toList))) s
  | _, _ => .no
def gLe : D → D → S → R D := fun x y s => match x, y with
  | .int i, .int j => .ok (.bl (decide (i ≤ j))) s
  | _, _ => .no
def gGt : D → D → S → R D := fun x y s => match x, y with
  | .int i, .int j => .ok (.bl (decide (j < i))) s
  | _, _ => .no
def gGe : D → D → S → R D := fun x y s => match x, y with
  | .int i, .int j => .ok (.bl (decide (j ≤ i))) s
  | _, _ => .no
def gNeg : D → S → R D := fun x s => match x with
  | .int i => .ok (.int (-i)) s
  | _ => .no
mutual
def D.py : D → Option PyData
  | .non => some .none
  | .bl b => some (.bool b)
  | .int i => some (.int i)
  | .str x => some (.str x)
  | .tup ds => (D.pys ds).map .tuple
  | .lst ds => (D.pys ds).map .list
  | _ => none
def D.pys : List D → Option (List PyData)
  | [] => some []
  | d :: ds => match d.py, D.pys ds with
    | some a, some b => some (a :: b)
    | _, _ => none
end
def eqD (x y : D) : Option Bool := match x.py, y.py with
  | some a, some b => if SeqAt.shaped a = true ∧ SeqAt.shaped b = true then some (PyData.eqv a b) else none
  | _, _ => none
def gEq : D → D → S → R D := fun x y s => match eqD x y with
  | some b => .ok (.bl b) s
  | none => .no
def gNe : D → D → S → R D := fun x y s => match eqD x y with
  | some b => .ok (.bl (!b)) s
  | none => .no
def isNon : D → Bool
  | .non => true | _ => false
def gIs : D → D → S → R D := fun x y s => match y with
  | .non => .ok (.bl (isNon x)) s
  | _ => .no
def gIsNot : D → D → S → R D := fun x y s => match y with
  | .non => .ok (.bl (!isNon x)) s
  | _ => .no
def gIx : D → D → S → R D := fun x y s => match x, y with
  | .tup a, .int i => match atI a i with | some d => .ok d s | none => .no
  | .lst a, .int i => match atI a i with | some d => .ok d s | none => .no
  | .frz a, .int i => match atI a i with | some d => .ok d s | none => .no
  | .str z, .int i => if z.length ≤ sizeLine then match atI z.cps.toList i with | some c => .ok (.str ⟨#[c]⟩) s | none => .no else .no
  | .cell n, .int i => match s[n]? with
    | some (.lst a) => match atI a i with | some d => .ok d s | none => .no
    | _ => .no
  | _, _ => .no

section
variable {X : Cx} {T : Tb}
theorem post_no {K : PySem.W.Frag} {T : Tb} {α β : Type} {F : Fm} {cm : List Addr} {H : Hp} {W : WX} {A : AK α β} {Q : β → Hp → Prop} {P : Prop} (h : Post K T F cm H W A .no Q) : P := h.elim
def rAddAll (K : PySem.W.Frag) : R2 := fun x y H Q => rI0 (fun i j => .int (i + j)) x y H Q ∨ ((∃ i j, x = .str i ∧ y = .str j ∧ i.length + j.length ≤ sizeLine ∧ Q (.str (i ++ j)) H) ∨ rCatA K x y H Q)
theorem op_addAll : OpR X (binaryOp .Add) (rAddAll X.K) := op_add.or (op_add_str.or op_catA)
theorem o2_add : O2 X T (AR X.K T) (rAddAll X.K) gAdd := by
  intro F cm H s W x y dx dy Q r a b p
  unfold gAdd at p
  split at p
  · cases a.int
    cases b.int
    exact .inl ⟨_, _, rfl, rfl, p.fin r (.int _)⟩
  · split at p
    · cases a.str
      cases b.str
      exact .inr (.inl ⟨_, _, rfl, rfl, by assumption, p.fin r (.str _)⟩)
    · exact p.elim
  · split at p
    · rename_i ds es hl
      obtain ⟨p1, xs, rfl, h1, h2, h3⟩ := a.tup
      obtain ⟨p2, ys, rfl, k1, k2, k3⟩ := b.tup
      have l1 := h3.len
      have l2 := k3.len
      refine .inr (.inr ⟨p1, p2, xs, ys, rfl, rfl, h1, k1, by omega, fun e => ?_, fun _ e => ?_, fun _ _ q hq => ?_⟩)
      · subst e
        cases h3
        exact p.fin r (.tup k2 k3)
      · subst e
        cases k3
        exact p.fin r (.tup h2 (by rw [List.append_nil]; exact h3))
      · exact p.fin_new r (sub_upd hq) (rep_tup r hq (h3.app k3))
    · exact p.elim
  · exact p.elim
theorem o2_cat : O2 X T (AF X.K T) rCat gCat := by
  intro F cm H s W x y dx dy Q r a b p
  unfold gCat at p
  split at p
  · split at p
    · obtain ⟨p1, xs, rfl, h1, h3⟩ := a.lst
      obtain ⟨p2, ys, rfl, k1, k3⟩ := b.lst
      have l1 := h3.len
      have l2 := k3.len
      exact ⟨p1, p2, xs, ys, rfl, rfl, h1, k1, by omega, fun q hq => p.fin_new r (sub_upd hq) (rep_lst r hq (h3.app k3))⟩
    · exact p.elim
  · exact p.elim
theorem Reps.rep {K : PySem.W.Frag} {T : Tb} {cm : List Addr} {G : Hp} {xs : List V} {ds : List D} (h : Reps K T cm G xs ds) : ∀ n : Nat, Reps K T cm G (List.replicate n xs).flatten (List.replicate n ds).flatten
  | 0 => .nil
  | n + 1 => by
    rw [List.replicate_succ, List.replicate_succ, List.flatten_cons, List.flatten_cons]
    exact h.app (Reps.rep h n)
theorem o2_rep : O2 X T (AF X.K T) rRep gRep := by
  intro F cm H s W x y dx dy Q r a b p
  unfold gRep at p
  split at p
  · split at p
    · rename_i hk
      obtain ⟨p1, xs, rfl, h1, h3⟩ := a.lst
      cases b.int
      have l1 := h3.len
      exact ⟨p1, _, xs, rfl, rfl, h1, hk.2.1, hk.1, by rw [l1]; exact hk.2.2, fun q hq => p.fin_new r (sub_upd hq) (rep_lst r hq (h3.rep _))⟩
    · exact p.elim
  · exact p.elim
theorem o2_sub : O2 X T (AR X.K T) (rI0 fun i j => .int (i - j)) gSub := by
  intro F cm H s W x y dx dy Q r a b p
  unfold gSub at p
  split at p
  · cases a.int
    cases b.int
    exact ⟨_, _, rfl, rfl, p.fin r (.int _)⟩
  · exact p.elim
def rMulAll (K : PySem.W.Frag) : R2 := fun x y H Q => rI CMulW (fun i j => .int (i * j)) x y H Q ∨ rRepT K x y H Q
theorem op_mulAll : OpR X (binaryOp .Mult) (rMulAll X.K) := op_mulW.or op_repT
theorem o2_mul : O2 X T (AR X.K T) (rMulAll X.K) gMul := by
  intro F cm H s W x y dx dy Q r a b p
  unfold gMul at p
  split at p
  · split at p
    · rename_i hk
      cases a.int
      cases b.int
      exact .inl ⟨_, _, rfl, rfl, hk, p.fin r (.int _)⟩
    · exact p.elim
  · split at p
    · rename_i hk
      obtain ⟨p1, xs, rfl, h1, _, h3⟩ := a.tup
      cases b.int
      have l1 := h3.len
      refine .inr ⟨p1, _, xs, rfl, rfl, h1, fun e => ?_, hk.2.1, hk.2.2.1, by omega, fun q hq => p.fin_new r (sub_upd hq) (rep_tup r hq (h3.rep _))⟩
      subst e
      cases h3
      exact hk.1 rfl
    · exact p.elim
  · exact p.elim
theorem o2_div : O2 X T (AR X.K T) (rI CDivW fun i j => .int (i / j)) gDiv := by
  intro F cm H s W x y dx dy Q r a b p
  unfold gDiv at p
  split at p
  · split at p
    · rename_i hk
      cases a.int
      cases b.int
      exact ⟨_, _, rfl, rfl, hk, p.fin r (.int _)⟩
    · exact p.elim
  · exact p.elim
theorem o2_mod : O2 X T (AR X.K T) (rI (fun _ j => 0 < j) fun i j => .int (i % j)) gMod := by
  intro F cm H s W x y dx dy Q r a b p
  unfold gMod at p
  split at p
  · split at p
    · rename_i hk
      cases a.int
      cases b.int
      exact ⟨_, _, rfl, rfl, hk, p.fin r (.int _)⟩
    · exact p.elim
  · exact p.elim
theorem o2_pow : O2 X T (AR X.K T) (rI CPow fun i j => .int (i ^ j.toNat)) gPow := by
  intro F cm H s W x y dx dy Q r a b p
  unfold gPow at p
  split at p
  · split at p
    · rename_i hk
      cases a.int
      cases b.int
      exact ⟨_, _, rfl, rfl, hk, p.fin r (.int _)⟩
    · exact p.elim
  · exact p.elim
def rLtAll : R2 := fun x y H Q => rI0 (fun i j => .bl (decide (i < j))) x y H Q ∨ ∃ i j, x = .str i ∧ y = .str j ∧ Q (.bl (decide (i.cps.toList < j.cps.toList))) H
theorem op_ltAll : OpR X (compareOp .Lt) rLtAll := op_lt.or op_lt_str
theorem o2_lt : O2 X T (AR X.K T) rLtAll gLt := by
  intro F cm H s W x y dx dy Q r a b p
  unfold gLt at p
  split at p
  · cases a.int
    cases b.int
    exact .inl ⟨_, _, rfl, rfl, p.fin r (.bl _)⟩
  · cases a.str
    cases b.str
    exact .inr ⟨_, _, rfl, rfl, p.fin r (.bl _)⟩
  · exact p.elim
theorem o2_le : O2 X T (AR X.K T) (rI0 fun i j => .bl (decide (i ≤ j))) gLe := by
  intro F cm H s W x y dx dy Q r a b p
  unfold gLe at p
  split at p
  · cases a.int
    cases b.int
    exact ⟨_, _, rfl, rfl, p.fin r (.bl _)⟩
  · exact p.elim
theorem o2_gt : O2 X T (AR X.K T) (rI0 fun i j => .bl (decide (j < i))) gGt := by
  intro F cm H s W x y dx dy Q r a b p
  unfold gGt at p
  split at p
  · cases a.int
    cases b.int
    exact ⟨_, _, rfl, rfl, p.fin r (.bl _)⟩
  · exact p.elim
theorem o2_ge : O2 X T (AR X.K T) (rI0 fun i j => .bl (decide (j ≤ i))) gGe := by
  intro F cm H s W x y dx dy Q r a b p
  unfold gGe at p
  split at p
  · cases a.int
    cases b.int
    exact ⟨_, _, rfl, rfl, p.fin r (.bl _)⟩
  · exact p.elim
mutual
theorem dp_of {K : PySem.W.Frag} {cm : List Addr} {G H : Hp} (hs : Sub G H) : ∀ (d : D) (v : V) (p : PyData), Rep K T cm G v d → d.py = some p → Dp K H v p
  | .non, _, _, h, e => by cases h; cases e; exact .non
  | .bl b, _, _, h, e => by cases h; cases e; exact .bl b
  | .int b, _, _, h, e => by cases h; cases e; exact .int b
  | .str b, _, _, h, e => by cases h; cases e; exact .str b
  | .tup ds, _, _, h, e => by
    cases h with
    | tup h1 h2 =>
      unfold D.py at e
      cases q : D.pys ds with
      | none => rw [q] at e; cases e
      | some l =>
        rw [q] at e
        cases e
        exact .tup (hs.seqT h1) (dps_of hs ds _ _ h2 q)
  | .lst ds, _, _, h, e => by
    cases h with
    | lst h1 h2 =>
      unfold D.py at e
      cases q : D.pys ds with
      | none => rw [q] at e; cases e
      | some l =>
        rw [q] at e
        cases e
        exact .lst (.of (hs _ _ h1)) (dps_of hs ds _ _ h2 q)
  | .frz _, _, _, _, e => by cases e
  | .ins _ _, _, _, _, e => by cases e
  | .cell _, _, _, _, e => by cases e
  | .fn _, _, _, _, e => by cases e
  | .dic _ _, _, _, _, e => by cases e
  | .exc _ _, _, _, _, e => by cases e
theorem dps_of {K : PySem.W.Frag} {cm : List Addr} {G H : Hp} (hs : Sub G H) : ∀ (ds : List D) (vs : List V) (ps : List PyData), Reps K T cm G vs ds → D.pys ds = some ps → DpAll K H vs ps
  | [], _, _, h, e => by cases h; cases e; exact .nil
  | d :: ds, _, _, h, e => by
    cases h with
    | cons h1 h2 =>
      unfold D.pys at e
      cases q1 : d.py with
      | none => rw [q1] at e; cases e
      | some a =>
        cases q2 : D.pys ds with
        | none => rw [q1, q2] at e; cases e
        | some b =>
          rw [q1, q2] at e
          cases e
          exact .cons (dp_of hs d _ _ h1 q1) (dps_of hs ds _ _ h2 q2)
end
theorem AB.dp {K : PySem.W.Frag} {F : Fm} {H0 H : Hp} {cm : List Addr} {s : S} {v : V} {d : D} {p : PyData} (z : AB K T F H0 cm H s v d) (e : d.py = some p) : Dp K H v p := by
  rcases z with z | ⟨a, rfl, o, q⟩
  · exact dp_of Sub.hidH _ _ _ z e
  · cases d with
    | lst ds =>
      obtain ⟨xs, h1, h2⟩ := q
      unfold D.py at e
      cases q : D.pys ds with
      | none => rw [q] at e; cases e
      | some l =>
        rw [q] at e
        cases e
        exact .lst (.of h1) (dps_of Sub.hidH ds _ _ h2 q)
    | ins _ _ => cases e
    | sf _ _ => cases e
    | tab _ => cases e
    | _ => exact q.elim
theorem eqD_some {x y : D} {b : Bool} (h : eqD x y = some b) : ∃ p q, x.py = some p ∧ y.py = some q ∧ SeqAt.shaped p = true ∧ SeqAt.shaped q = true ∧ b = PyData.eqv p q := by
  unfold eqD at h
  split at h
  · rename_i e1 e2
    split at h
    · rename_i hs
      exact ⟨_, _, e1, e2, hs.1, hs.2, (Option.some.inj h).symm⟩
    · cases h
  · cases h
theorem o2_eq : O2 X T (AR X.K T) (rEqD X.K) gEq := by
  intro F cm H s W x y dx dy Q r a b p
  unfold gEq at p
  split at p
  · rename_i h
    obtain ⟨u, v, e1, e2, s1, s2, rfl⟩ := eqD_some h
    exact ⟨u, v, a.dp e1, b.dp e2, s1, s2, p.fin r (.bl _)⟩
  · exact p.elim
theorem o2_ne : O2 X T (AR X.K T) (rNeD X.K) gNe := by
  intro F cm H s W x y dx dy Q r a b p
  unfold gNe at p
  split at p
  · rename_i h
    obtain ⟨u, v, e1, e2, s1, s2, rfl⟩ := eqD_some h
    exact ⟨u, v, a.dp e1, b.dp e2, s1, s2, p.fin r (.bl _)⟩
  · exact p.elim
theorem AB.isNon {K : PySem.W.Frag} {F : Fm} {H0 H : Hp} {cm : List Addr} {s : S} {v : V} {d : D} (z : AB K T F H0 cm H s v d) : decide (v = .non) = isNon d := by
  rcases z with z | ⟨a, rfl, o, q⟩
  · cases z <;> first | rfl | exact decide_eq_false (fun z => nomatch z)
  · cases d with
    | lst ds => exact decide_eq_false (fun z => nomatch z)
    | ins c ds => exact decide_eq_false (fun z => nomatch z)
    | sf c ds => exact decide_eq_false (fun z => nomatch z)
    | tab n => exact decide_eq_false (fun z => nomatch z)
    | _ => exact q.elim
theorem o2_is : O2 X T (AR X.K T) (fun x y H Q => y = .non ∧ Q (.bl (decide (x = .non))) H) gIs := by
  intro F cm H s W x y dx dy Q r a b p
  unfold gIs at p
  split at p
  · refine ⟨b.non, ?_⟩
    rw [a.isNon]
    exact p.fin r (.bl _)
  · exact p.elim
theorem o2_isNot : O2 X T (AR X.K T) (fun x y H Q => y = .non ∧ Q (.bl (!decide (x = .non))) H) gIsNot := by
  intro F cm H s W x y dx dy Q r a b p
  unfold gIsNot at p
  split at p
  · refine ⟨b.non, ?_⟩
    rw [a.isNon]
    exact p.fin r (.bl _)
  · exact p.elim
/-! ### subscripts -/
theorem atI_len {α β : Type} {xs : List α} {ds : List β} (h : xs.length = ds.length) {i : Int} {d : β} (e : atI ds i = some d) : ∃ j : Nat, ds[j]? = some d ∧ atI xs i = xs[j]? := by
  unfold atI at e ⊢
  rw [h]
  cases q : ixN ds.length i with
  | none => rw [q] at e; cases e
  | some j =>
    rw [q] at e
    exact ⟨j, e, rfl⟩
theorem Reps.atI {K : PySem.W.Frag} {cm : List Addr} {G : Hp} {xs : List V} {ds : List D} (h : Reps K T cm G xs ds) {i : Int} {d : D} (e : L2.atI ds i = some d) : ∃ v, L2.atI xs i = some v ∧ Rep K T cm G v d := by
  obtain ⟨j, e1, e2⟩ := atI_len h.len e
  obtain ⟨v, h1, h2⟩ := h.get e1
  exact ⟨v, e2.trans h1, h2⟩
theorem o2_ix : O2 X T (AR X.K T) (rIx X.K) gIx := by
  intro F cm H s W x y dx dy Q r a b p
  unfold gIx at p
  split at p
  · split at p
    · rename_i e
      obtain ⟨p1, xs, rfl, h1, _, h3⟩ := a.tup
      cases b.int
      obtain ⟨v, e1, e2⟩ := h3.atI e
      exact .inr (.inl ⟨p1, xs, _, v, rfl, rfl, h1, e1, p.fin r e2⟩)
    · exact p.elim
  · split at p
    · rename_i e
      obtain ⟨p1, xs, rfl, h1, h3⟩ := a.lst
      cases b.int
      obtain ⟨v, e1, e2⟩ := h3.atI e
      exact .inl ⟨p1, xs, _, v, rfl, rfl, .of h1, e1, p.fin r e2⟩
    · exact p.elim
  · split at p
    · rename_i e
      obtain ⟨p1, xs, rfl, h1, h3⟩ := a.frz
      cases b.int
      obtain ⟨v, e1, e2⟩ := h3.atI e
      exact .inl ⟨p1, xs, _, v, rfl, rfl, h1, e1, p.fin r e2⟩
    · exact p.elim
  · split at p
    · rename_i hl
      split at p
      · rename_i e
        cases a.str
        cases b.int
        exact .inr (.inr ⟨_, _, _, rfl, rfl, hl, e, p.fin r (.str _)⟩)
      · exact p.elim
    · exact p.elim
  · split at p
    · rename_i n i o es e0
      split at p
      · rename_i e
        cases b.int
        have hc : ∃ c, x = .ref c ∧ cm[n]? = some c := by
          rcases a with z | ⟨c, rfl, o, q⟩
          · cases z with
            | cell h => exact ⟨_, rfl, h⟩
          · exact q.elim
        obtain ⟨c, rfl, hc⟩ := hc
        obtain ⟨xs, h1, h3⟩ := r.cells.at_ n c _ hc e0
        obtain ⟨v, e1, e2⟩ := h3.atI e
        exact .inl ⟨c, xs, _, v, rfl, rfl, .of h1, e1, p.fin r e2⟩
      · exact p.elim
    · exact p.elim
  · exact p.elim

/-! ### in short -/
variable {W : WX} {a b c e : Expr} {ma mb mc : EM} {pos : Pos}
theorem q_add (ha : QB X T W a ma) (hb : QB X T W b mb) : QE X T W (.BinOp a .Add b pos) (mOp gAdd ma mb) := q_op op_addAll o2_add up_AR ha hb
theorem q_cat (ha : QB X T W a ma) (hb : QB X T W b mb) : QF X T W (.BinOp a .Add b pos) (mOp gCat ma mb) := q_op op_cat o2_cat up_AF ha hb
theorem q_rep (ha : QB X T W a ma) (hb : QB X T W b mb) : QF X T W (.BinOp a .Mult b pos) (mOp gRep ma mb) := q_op op_rep o2_rep up_AF ha hb
theorem q_sub (ha : QB X T W a ma) (hb : QB X T W b mb) : QE X T W (.BinOp a .Sub b pos) (mOp gSub ma mb) := q_op op_sub o2_sub up_AR ha hb
theorem q_mul (ha : QB X T W a ma) (hb : QB X T W b mb) : QE X T W (.BinOp a .Mult b pos) (mOp gMul ma mb) := q_op op_mulAll o2_mul up_AR ha hb
theorem q_div (ha : QB X T W a ma) (hb : QB X T W b mb) : QE X T W (.BinOp a .FloorDiv b pos) (mOp gDiv ma mb) := q_op op_fdivW o2_div up_AR ha hb
theorem q_mod (ha : QB X T W a ma) (hb : QB X T W b mb) : QE X T W (.BinOp a .Mod b pos) (mOp gMod ma mb) := q_op op_mod o2_mod up_AR ha hb
theorem q_pow (ha : QB X T W a ma) (hb : QB X T W b mb) : QE X T W (.BinOp a .Pow b pos) (mOp gPow ma mb) := q_op op_pow o2_pow up_AR ha hb
theorem q_lt (ha : QB X T W a ma) (hb : QB X T W b mb) : QE X T W (.Compare a [.Lt] [b] pos) (mOp gLt ma mb) := q_cmp op_ltAll o2_lt ha hb (nomark _)
theorem q_le (ha : QB X T W a ma) (hb : QB X T W b mb) : QE X T W (.Compare a [.LtE] [b] pos) (mOp gLe ma mb) := q_cmp op_le o2_le ha hb (nomark _)
theorem q_gt (ha : QB X T W a ma) (hb : QB X T W b mb) : QE X T W (.Compare a [.Gt] [b] pos) (mOp gGt ma mb) := q_cmp op_gt o2_gt ha hb (nomark _)
theorem q_ge (ha : QB X T W a ma) (hb : QB X T W b mb) : QE X T W (.Compare a [.GtE] [b] pos) (mOp gGe ma mb) := q_cmp op_ge o2_ge ha hb (nomark _)
theorem q_eq (hu : X.A.units + 64 < cLine) (ha : QB X T W a ma) (hb : QB X T W b mb) : QE X T W (.Compare a [.Eq] [b] pos) (mOp gEq ma mb) := q_cmp (op_eqD hu) o2_eq ha hb (nomark _)
theorem q_ne (hu : X.A.units + 64 < cLine) (ha : QB X T W a ma) (hb : QB X T W b mb) : QE X T W (.Compare a [.NotEq] [b] pos) (mOp gNe ma mb) := q_cmp (op_neD hu) o2_ne ha hb (nomark _)
theorem q_is (ha : QB X T W a ma) (hb : QB X T W b mb) : QE X T W (.Compare a [.Is] [b] pos) (mOp gIs ma mb) := q_cmp op_isN o2_is ha hb (nomark _)
theorem q_isNot (ha : QB X T W a ma) (hb : QB X T W b mb) : QE X T W (.Compare a [.IsNot] [b] pos) (mOp gIsNot ma mb) := q_cmp op_notN o2_isNot ha hb (nomark _)
theorem qt_lt (ha : QB X T W a ma) (hb : QB X T W b mb) : QT X T W (.Compare a [.Lt] [b] pos) (mTest (mOp gLt ma mb)) := qt_cmp op_ltAll o2_lt ha hb (nomark _)
theorem qt_le (ha : QB X T W a ma) (hb : QB X T W b mb) : QT X T W (.Compare a [.LtE] [b] pos) (mTest (mOp gLe ma mb)) := qt_cmp op_le o2_le ha hb (nomark _)
theorem qt_gt (ha : QB X T W a ma) (hb : QB X T W b mb) : QT X T W (.Compare a [.Gt] [b] pos) (mTest (mOp gGt ma mb)) := qt_cmp op_gt o2_gt ha hb (nomark _)
theorem qt_ge (ha : QB X T W a ma) (hb : QB X T W b mb) : QT X T W (.Compare a [.GtE] [b] pos) (mTest (mOp gGe ma mb)) := qt_cmp op_ge o2_ge ha hb (nomark _)
theorem qt_eq (hu : X.A.units + 64 < cLine) (ha : QB X T W a ma) (hb : QB X T W b mb) : QT X T W (.Compare a [.Eq] [b] pos) (mTest (mOp gEq ma mb)) := qt_cmp (op_eqD hu) o2_eq ha hb (nomark _)
theorem qt_ne (hu : X.A.units + 64 < cLine) (ha : QB X T W a ma) (hb : QB X T W b mb) : QT X T W (.Compare a [.NotEq] [b] pos) (mTest (mOp gNe ma mb)) := qt_cmp (op_neD hu) o2_ne ha hb (nomark _)
theorem qt_is (ha : QB X T W a ma) (hb : QB X T W b mb) : QT X T W (.Compare a [.Is] [b] pos) (mTest (mOp gIs ma mb)) := qt_cmp op_isN o2_is ha hb (nomark _)
theorem qt_isNot (ha : QB X T W a ma) (hb : QB X T W b mb) : QT X T W (.Compare a [.IsNot] [b] pos) (mTest (mOp gIsNot ma mb)) := qt_cmp op_notN o2_isNot ha hb (nomark _)
theorem q_chain {op op' : CmpOp} {r r' : R2} {g g' : D → D → S → R D} (ho : OpR X (compareOp op) r) (hg : O2 X T (AR X.K T) r g) (ho' : OpR X (compareOp op') r') (hg' : O2 X T (AR X.K T) r' g') (ha : QB X T W a ma) (hb : QB X T W b mb) (hc : QB X T W c mc)
    (hm : lastMarks [op, op'] [b, c] = false := by with_unfolding_all rfl) : QE X T W (.Compare a [op, op'] [b, c] pos) (mChain g g' ma mb mc) := PE.conv (pe_chain ho ho' ha hb hc hm) fun _ _ _ h => tChain_of hg hg' h
theorem qt_chain {op op' : CmpOp} {r r' : R2} {g g' : D → D → S → R D} (ho : OpR X (compareOp op) r) (hg : O2 X T (AR X.K T) r g) (ho' : OpR X (compareOp op') r') (hg' : O2 X T (AR X.K T) r' g') (ha : QB X T W a ma) (hb : QB X T W b mb) (hc : QB X T W c mc)
    (hm : lastMarks [op, op'] [b, c] = false := by with_unfolding_all rfl) : QT X T W (.Compare a [op, op'] [b, c] pos) (mTest (mChain g g' ma mb mc)) := PT.conv (pt_chain ho ho' ha hb hc hm) fun _ _ _ h => tTest_of (fun _ _ _ h => tChain_of hg hg' h) h
theorem q_ix (ha : QB X T W a ma) (hb : QB X T W b mb) (hs : PlainIx b := by exact fun _ _ => rfl) : QE X T W (.Subscript a b pos) (mOp gIx ma mb) := PE.conv (pe_ix ix_seq ha hb hs) fun _ _ _ h => tOp_of o2_ix up_AR h
theorem q_neg (ha : QB X T W a ma) : QE X T W (.UnaryOp .USub a pos) (mUn gNeg ma) := PE.conv (pe_un un_neg ha) fun σ H Q h => by
  refine h.bind (AB X.K T) up_AR fun B Z cm ρ x H1 ⟨cm1, dx, s1, e1, r1, a1, p1⟩ => ?_
  unfold gNeg at p1
  dsimp only at p1
  split at p1
  · cases a1.int
    exact ⟨_, rfl, p1.fin r1 (.int _)⟩
  · exact p1.elim
end
end Tv

/-! Tv5: argument lists, displays, built-ins, fields, slices -/
namespace Tv
open PySem PySem.Spec PyProof.Rows L2

inductive ABs (K : PySem.W.Frag) (T : Tb) (F : Fm) (H0 : Hp) (cm : List Addr) (H : Hp) (s : S) : List V → List D → Prop
  | nil : ABs K T F H0 cm H s [] []
  | cons {v : V} {d : D} {vs : List V} {ds : List D} : AB K T F H0 cm H s v d → ABs K T F H0 cm H s vs ds → ABs K T F H0 cm H s (v :: vs) (d :: ds)
def ALn (K : PySem.W.Frag) (T : Tb) (n : Nat) : AK (List D) (List V) := fun F _ cm H _ vs ds => Reps K T cm (F.G cm H) vs ds ∧ vs.length = n
def ALB (K : PySem.W.Frag) (T : Tb) (n : Nat) : AK (List D) (List V) := fun F H0 cm H s vs ds => ABs K T F H0 cm H s vs ds ∧ vs.length = n
abbrev LM := List SD → S → R (List D)
abbrev QS (X : Cx) (T : Tb) (W : WX) (n : Nat) (es : List Expr) (m : LM) : Prop := PA X es (tP X.K T W (ALn X.K T n) m)
abbrev QSB (X : Cx) (T : Tb) (W : WX) (n : Nat) (es : List Expr) (m : LM) : Prop := PA X es (tP X.K T W (ALB X.K T n) m)
theorem up_ALn {K : PySem.W.Frag} {T : Tb} {n : Nat} : Up (ALn K T n) := fun _ _ _ _ _ _ _ _ _ h => h
theorem ABs.ext {K : PySem.W.Frag} {T : Tb} {F : Fm} {cm cm1 : List Addr} {H H1 : Hp} {s s1 : S} {H0 H0' : Hp} (r : FRel K T F cm H s) (e : Ext cm H cm1 H1) : ∀ {vs : List V} {ds : List D}, ABs K T F H0 cm H s vs ds → ABs K T F H0' cm1 H1 s1 vs ds
  | _, _, .nil => .nil
  | _, _, .cons a t => .cons (a.ext r e) (ABs.ext r e t)
theorem ABs.h0 {K : PySem.W.Frag} {T : Tb} {F : Fm} {cm : List Addr} {H : Hp} {s s1 : S} {H0 H0' : Hp} : ∀ {vs : List V} {ds : List D}, ABs K T F H0 cm H s vs ds → ABs K T F H0' cm H s1 vs ds
  | _, _, .nil => .nil
  | _, _, .cons a t => .cons a (ABs.h0 t)
theorem up_ALB {K : PySem.W.Frag} {T : Tb} {n : Nat} : Up (ALB K T n) := fun F H H1 cm2 H2 s b a _ h => ⟨ABs.h0 (H0 := H1) (s := s) h.1, h.2⟩
section
variable {X : Cx} {T : Tb} {W : WX} {n : Nat} {e : Expr} {es : List Expr} {m : EM} {lm : LM} {pos : Pos}
theorem qs_nil : QS X T W 0 [] mNil := PA.conv pa_nil fun σ H Q h => by
  obtain ⟨B, Z, cm, ρ, s, r, p⟩ := h
  exact p.fin (F := ⟨B, Z, σ, ρ⟩) r ⟨.nil, rfl⟩
theorem qs_cons (ha : QE X T W e m) (hr : QS X T W n es lm) (hs : starEach (e :: es) X.env = (false, eval e X.env) :: starEach es X.env := by rfl) : QS X T W (n + 1) (e :: es) (mCons m lm) := PA.conv (pa_cons ha hr hs) fun σ H Q h => by
  refine h.bind (AR X.K T) up_ALn fun B Z cm ρ x H1 ⟨cm1, dx, s1, e1, r1, a1, p1⟩ => ?_
  refine ⟨B, Z, cm1, ρ, s1, r1, (p1.bind (A := ALn X.K T n) up_ALn).mono fun y H2 ⟨cm2, dy, s2, e2, r2, a2, p2⟩ => ?_⟩
  exact p2.fin r2 ⟨.cons (AR.ext (H0' := H) (s1 := s2) e2 a1) a2.1, by rw [List.length_cons, a2.2]⟩
theorem qb_nil : QSB X T W 0 [] mNil := PA.conv pa_nil fun σ H Q h => by
  obtain ⟨B, Z, cm, ρ, s, r, p⟩ := h
  exact p.fin (F := ⟨B, Z, σ, ρ⟩) r ⟨.nil, rfl⟩
theorem qb_cons (ha : QB X T W e m) (hr : QSB X T W n es lm) (hs : starEach (e :: es) X.env = (false, eval e X.env) :: starEach es X.env := by rfl) : QSB X T W (n + 1) (e :: es) (mCons m lm) := PA.conv (pa_cons ha hr hs) fun σ H Q h => by
  refine h.bind (AB X.K T) up_ALB fun B Z cm ρ x H1 ⟨cm1, dx, s1, e1, r1, a1, p1⟩ => ?_
  refine ⟨B, Z, cm1, ρ, s1, r1, (p1.bind (A := ALB X.K T n) up_ALB).mono fun y H2 ⟨cm2, dy, s2, e2, r2, a2, p2⟩ => ?_⟩
  exact p2.fin r2 ⟨.cons (a1.ext r1 e2) (a2.1.h0), by rw [List.length_cons, a2.2]⟩
theorem q_tup {x1} (h : QS X T W n es lm) (hn : n ≤ 1000 := by decide) : QE X T W (.Tuple es x1 pos) (mTup lm) := PE.conv (pe_tup h) fun σ H Q h => by
  refine h.bind (ALn X.K T n) up_AR fun B Z cm ρ x H1 ⟨cm1, dx, s1, e1, r1, a1, p1⟩ => ?_
  refine ⟨by rw [a1.2, sizeLine_eq]; omega, fun p hp => ?_⟩
  exact p1.fin_new r1 (sub_upd hp) (rep_tup r1 hp a1.1)
theorem q_lst (h : QS X T W n es lm) (hn : n ≤ 1000 := by decide) : QF X T W (.List es pos) (mLst lm) := PE.conv (pe_lst h) fun σ H Q h => by
  refine h.bind (ALn X.K T n) up_AF fun B Z cm ρ x H1 ⟨cm1, dx, s1, e1, r1, a1, p1⟩ => ?_
  refine ⟨by rw [a1.2, sizeLine_eq]; omega, fun p hp => ?_⟩
  exact p1.fin_new r1 (sub_upd hp) (rep_lst r1 hp a1.1)

/-! ### built-ins by name -/
def mCall (g : List D → S → R D) (lm : LM) : EM := fun ρ s => (lm ρ s).bind fun ds s1 => g ds s1
def OC (X : Cx) (T : Tb) (A : AK D V) (r : List V → Hp → VK → Prop) (g : List D → S → R D) : Prop := ∀ (F : Fm) (cm : List Addr) (H : Hp) (s : S) (W : WX) (xs : List V) (ds : List D) (Q : VK),
  FRel X.K T F cm H s → ABs X.K T F H cm H s xs ds → Post X.K T F cm H W A (g ds s) Q → r xs H Q
theorem tCB_of {A : AK D V} {r : List V → Hp → VK → Prop} {g : List D → S → R D} (hg : OC X T A r g) (up : Up A) {σ : L2.St} {H : Hp} {Q : VK} (h : tP X.K T W A (mCall g lm) σ H Q) : tCB r (tP X.K T W (ALB X.K T n) lm) σ H Q := by
  refine h.bind (ALB X.K T n) up fun B Z cm ρ x H1 ⟨cm1, dx, s1, e1, r1, a1, p1⟩ => ?_
  exact hg _ _ _ _ _ _ _ _ r1 a1.1.h0 p1
theorem q_callB {A : AK D V} {id : String} {x : Str} {p : Pos} {r : List V → Hp → VK → Prop} {g : List D → S → R D} (hc : CallR X (.builtin id) r) (hg : OC X T A r g) (up : Up A) (hgl : Gl X x) (hm : X.mg x = none) (hv : bootBuiltins x = some (.builtin id)) (ha : QSB X T W n (e :: es) lm) (hn : x ≠ "__name__" := by decide) (hdb : (x == ("__debug__" : Str)) = false := by decide)
    (he : starEach (e :: es) X.env = (false, eval e X.env) :: starEach es X.env := by rfl) (hpl : (backTo pos (starEach es X.env)).any (·.1) = false := by rfl) : PE X (.Call (.Name x p) (e :: es) [] pos) (tP X.K T W A (mCall g lm)) :=
  PE.conv (pe_callB hc hgl hm hv ha hn hdb he hpl) fun _ _ _ h => tCB_of hg up h
theorem q_callTy {A : AK D V} {id : String} {x : Str} {p : Pos} {r : List V → Hp → VK → Prop} {g : List D → S → R D} (hc : CallR X (.type id) r) (hg : OC X T A r g) (up : Up A) (hgl : Gl X x) (hm : X.mg x = none) (hv : bootBuiltins x = some (.type id)) (ha : QSB X T W n (e :: es) lm) (hn : x ≠ "__name__" := by decide) (hdb : (x == ("__debug__" : Str)) = false := by decide)
    (he : starEach (e :: es) X.env = (false, eval e X.env) :: starEach es X.env := by rfl) (hpl : (backTo pos (starEach es X.env)).any (·.1) = false := by rfl) : PE X (.Call (.Name x p) (e :: es) [] pos) (tP X.K T W A (mCall g lm)) :=
  PE.conv (pe_callTy hc hgl hm hv ha hn hdb he hpl) fun _ _ _ h => tCB_of hg up h

def gLen : List D → S → R D := fun ds s => match ds with
  | [.tup a] => .ok (.int a.length) s
  | [.lst a] => .ok (.int a.length) s
  | [.frz a] => .ok (.int a.length) s
  | [.str z] => if z.length ≤ sizeLine then .ok (.int z.length) s else .no
  | _ => .no
def rLenAll (K : PySem.W.Frag) : List V → Hp → VK → Prop := fun xs H Q => (∃ p ys, xs = [.ref p] ∧ (SqL K H p ys ∨ SqT K H p ys) ∧ Q (.int ys.length) H) ∨ ∃ z, xs = [.str z] ∧ z.length ≤ sizeLine ∧ Q (.int z.length) H
theorem call_lenAll : CallR X (.builtin "len") (rLenAll X.K) := call_len_seq.or call_len_str
theorem oc_len : OC X T (AR X.K T) (rLenAll X.K) gLen := by
  intro F cm H s W xs ds Q r a p
  unfold gLen at p
  split at p
  · cases a with
    | cons a t =>
      cases t
      obtain ⟨c, ys, rfl, h1, _, h3⟩ := a.tup
      exact .inl ⟨c, ys, rfl, .inr h1, by rw [h3.len]; exact p.fin r (.int _)⟩
  · cases a with
    | cons a t =>
      cases t
      obtain ⟨c, ys, rfl, h1, h3⟩ := a.lst
      exact .inl ⟨c, ys, rfl, .inl (.of h1), by rw [h3.len]; exact p.fin r (.int _)⟩
  · cases a with
    | cons a t =>
      cases t
      obtain ⟨c, ys, rfl, h1, h3⟩ := a.frz
      exact .inl ⟨c, ys, rfl, .inl h1, by rw [h3.len]; exact p.fin r (.int _)⟩
  · split at p
    · cases a with
      | cons a t =>
        cases t
        cases a.str
        exact .inr ⟨_, rfl, by assumption, p.fin r (.int _)⟩
    · exact p.elim
  · exact p.elim
def gAbs : List D → S → R D := fun ds s => match ds with
  | [.int i] => .ok (.int (if i < 0 then -i else i)) s
  | _ => .no
theorem oc_abs : OC X T (AR X.K T) (fun xs H Q => ∃ i, xs = [.int i] ∧ Q (.int (if i < 0 then -i else i)) H) gAbs := by
  intro F cm H s W xs ds Q r a p
  unfold gAbs at p
  split at p
  · cases a with
    | cons a t =>
      cases t
      cases a.int
      exact ⟨_, rfl, p.fin r (.int _)⟩
  · exact p.elim
def gMin : List D → S → R D := fun ds s => match ds with
  | [.int i, .int j] => .ok (.int (if j < i then j else i)) s
  | _ => .no
theorem oc_min : OC X T (AR X.K T) (fun xs H Q => ∃ i j, xs = [.int i, .int j] ∧ Q (.int (if j < i then j else i)) H) gMin := by
  intro F cm H s W xs ds Q r a p
  unfold gMin at p
  split at p
  · cases a with
    | cons a t =>
      cases t with
      | cons b t =>
        cases t
        cases a.int
        cases b.int
        exact ⟨_, _, rfl, p.fin r (.int _)⟩
  · exact p.elim
def gMax : List D → S → R D := fun ds s => match ds with
  | [.int i, .int j] => .ok (.int (if j > i then j else i)) s
  | _ => .no
theorem oc_max : OC X T (AR X.K T) (fun xs H Q => ∃ i j, xs = [.int i, .int j] ∧ Q (.int (if j > i then j else i)) H) gMax := by
  intro F cm H s W xs ds Q r a p
  unfold gMax at p
  split at p
  · cases a with
    | cons a t =>
      cases t with
      | cons b t =>
        cases t
        cases a.int
        cases b.int
        exact ⟨_, _, rfl, p.fin r (.int _)⟩
  · exact p.elim
def gInt : List D → S → R D := fun ds s => match ds with
  | [.int i] => .ok (.int i) s
  | [.bl b] => .ok (.int (if b then 1 else 0)) s
  | _ => .no
theorem oc_int : OC X T (AR X.K T) (fun xs H Q => (∃ i, xs = [.int i] ∧ Q (.int i) H) ∨ ∃ k, xs = [.bl k] ∧ Q (.int (if k then 1 else 0)) H) gInt := by
  intro F cm H s W xs ds Q r a p
  unfold gInt at p
  split at p
  · cases a with
    | cons a t =>
      cases t
      cases a.int
      exact .inl ⟨_, rfl, p.fin r (.int _)⟩
  · cases a with
    | cons a t =>
      cases t
      cases a.bl
      exact .inr ⟨_, rfl, p.fin r (.int _)⟩
  · exact p.elim
def bls : List D → Option (List Bool)
  | [] => some []
  | .bl b :: r => (bls r).map (b :: ·)
  | _ :: _ => none
theorem bls_of {K : PySem.W.Frag} {cm : List Addr} {G : Hp} : ∀ {ds : List D} {bs : List Bool} {xs : List V}, bls ds = some bs → Reps K T cm G xs ds → xs = bs.map V.bl
  | [], bs, xs, h, r => by
    cases r
    cases h
    rfl
  | d :: ds, bs, xs, h, r => by
    cases r with
    | cons r1 r2 =>
      cases d with
      | bl b =>
        unfold bls at h
        cases q : bls ds with
        | none => rw [q] at h; cases h
        | some cs =>
          rw [q] at h
          cases h
          cases r1
          rw [bls_of q r2]
          rfl
      | _ => cases h
def gAll : List D → S → R D := fun ds s => match ds with
  | [.lst a] => match bls a with | some bs => .ok (.bl (bs.all id)) s | none => .no
  | _ => .no
def gAny : List D → S → R D := fun ds s => match ds with
  | [.lst a] => match bls a with | some bs => .ok (.bl (bs.any id)) s | none => .no
  | _ => .no
theorem oc_all : OC X T (AR X.K T) (rAll X.K) gAll := by
  intro F cm H s W xs ds Q r a p
  unfold gAll at p
  split at p
  · split at p
    · rename_i e
      cases a with
      | cons a t =>
        cases t
        obtain ⟨c, ys, rfl, h1, h3⟩ := a.lst
        obtain rfl := bls_of e h3
        exact ⟨c, _, rfl, .of h1, p.fin r (.bl _)⟩
    · exact p.elim
  · exact p.elim
theorem oc_any : OC X T (AR X.K T) (rAny X.K) gAny := by
  intro F cm H s W xs ds Q r a p
  unfold gAny at p
  split at p
  · split at p
    · rename_i e
      cases a with
      | cons a t =>
        cases t
        obtain ⟨c, ys, rfl, h1, h3⟩ := a.lst
        obtain rfl := bls_of e h3
        exact ⟨c, _, rfl, .of h1, p.fin r (.bl _)⟩
    · exact p.elim
  · exact p.elim
def gTuple : List D → S → R D := fun ds s => match ds with
  | [.tup a] => .ok (.tup a) s
  | [.lst a] => .ok (.tup a) s
  | [.frz a] => .ok (.tup a) s
  | _ => .no
theorem oc_tuple : OC X T (AR X.K T) (fun xs H Q => ∃ p ys, xs = [.ref p] ∧ ((SqL X.K H p ys ∧ ∀ l, H l = none → Q (.ref l) (upd H l (.tup ys))) ∨ (SqT X.K H p ys ∧ Q (.ref p) H))) gTuple := by
  intro F cm H s W xs ds Q r a p
  unfold gTuple at p
  split at p
  · cases a with
    | cons a t =>
      cases t
      obtain ⟨c, ys, rfl, h1, h2, h3⟩ := a.tup
      exact ⟨c, ys, rfl, .inr ⟨h1, p.fin r (.tup h2 h3)⟩⟩
  · cases a with
    | cons a t =>
      cases t
      obtain ⟨c, ys, rfl, h1, h3⟩ := a.lst
      exact ⟨c, ys, rfl, .inl ⟨.of h1, fun q hq => p.fin_new r (sub_upd hq) (rep_tup r hq h3)⟩⟩
  · cases a with
    | cons a t =>
      cases t
      obtain ⟨c, ys, rfl, h1, h3⟩ := a.frz
      exact ⟨c, ys, rfl, .inl ⟨h1, fun q hq => p.fin_new r (sub_upd hq) (rep_tup r hq h3)⟩⟩
  · exact p.elim
def gList : List D → S → R D := fun ds s => match ds with
  | [.tup a] => .ok (.lst a) s
  | [.lst a] => .ok (.lst a) s
  | [.frz a] => .ok (.lst a) s
  | _ => .no
theorem oc_list : OC X T (AF X.K T) (fun xs H Q => ∃ p ys, xs = [.ref p] ∧ (SqL X.K H p ys ∨ SqT X.K H p ys) ∧ ∀ l, H l = none → Q (.ref l) (upd H l (.lst ys))) gList := by
  intro F cm H s W xs ds Q r a p
  unfold gList at p
  split at p
  · cases a with
    | cons a t =>
      cases t
      obtain ⟨c, ys, rfl, h1, h2, h3⟩ := a.tup
      exact ⟨c, ys, rfl, .inr h1, fun q hq => p.fin_new r (sub_upd hq) (rep_lst r hq h3)⟩
  · cases a with
    | cons a t =>
      cases t
      obtain ⟨c, ys, rfl, h1, h3⟩ := a.lst
      exact ⟨c, ys, rfl, .inl (.of h1), fun q hq => p.fin_new r (sub_upd hq) (rep_lst r hq h3)⟩
  · cases a with
    | cons a t =>
      cases t
      obtain ⟨c, ys, rfl, h1, h3⟩ := a.frz
      exact ⟨c, ys, rfl, .inl h1, fun q hq => p.fin_new r (sub_upd hq) (rep_lst r hq h3)⟩
  · exact p.elim
def intsD : List D → Option (List Int)
  | [] => some []
  | .int b :: r => (intsD r).map (b :: ·)
  | _ :: _ => none
theorem intsD_of {K : PySem.W.Frag} {cm : List Addr} {G : Hp} : ∀ {ds : List D} {bs : List Int} {xs : List V}, intsD ds = some bs → Reps K T cm G xs ds → xs = bs.map V.int
  | [], bs, xs, h, r => by
    cases r
    cases h
    rfl
  | d :: ds, bs, xs, h, r => by
    cases r with
    | cons r1 r2 =>
      cases d with
      | int b =>
        unfold intsD at h
        cases q : intsD ds with
        | none => rw [q] at h; cases h
        | some cs =>
          rw [q] at h
          cases h
          cases r1
          rw [intsD_of q r2]
          rfl
      | _ => cases h

/-! ### fields -/
def fldIx (fl : List Str) (f : Str) : Option Nat := match fl with
  | [] => none
  | g :: r => if f = g then some 0 else (fldIx r f).map (· + 1)
theorem lookup_fld {f : Str} : ∀ {fs : List (Str × V)} {j : Nat}, fldIx (fs.map (·.1)) f = some j → fs.lookup f = (fs.map (·.2))[j]?
  | [], j, h => by cases h
  | (g, v) :: r, j, h => by
    have h : (if f = g then some 0 else (fldIx (r.map (·.1)) f).map (· + 1)) = some j := h
    by_cases e : f = g
    · rw [if_pos e] at h
      cases h
      subst e
      simp [List.lookup]
    · rw [if_neg e] at h
      have e' : (f == g) = false := by simpa using e
      cases q : fldIx (r.map (·.1)) f with
      | none =>
        have h' : (fldIx (r.map (·.1)) f).map (· + 1) = some j := h
        rw [q] at h'
        cases h'
      | some i =>
        have h' : (fldIx (r.map (·.1)) f).map (· + 1) = some j := h
        rw [q] at h'
        cases h'
        show List.lookup f ((g, v) :: r) = _
        rw [List.lookup_cons, e']
        exact lookup_fld q
/-- ixs: for each class that may stand here the field's place -/
def mFld (ixs : List (Nat × Nat)) (m : EM) : EM := fun ρ s => (m ρ s).bind fun x s1 => match x with
  | .ins c ds => match ixs.lookup c with
    | some j => match ds[j]? with | some d => .ok d s1 | none => .no
    | none => .no
  | .cell n => match s1[n]? with
    | some (.ins c ds) => match ixs.lookup c with
      | some j => match ds[j]? with | some d => .ok d s1 | none => .no
      | none => .no
    | _ => .no
  | _ => .no
/-- what the classes give -/
def ClsOk (K : PySem.W.Frag) (T : Tb) (c : Nat) : Prop := Cls K (T.cls c) ∧ ∀ f ∈ T.fl c, NoAttr K (T.cls c) f
def FldOk (T : Tb) (f : Str) (ixs : List (Nat × Nat)) : Prop := ∀ p ∈ ixs, fldIx (T.fl p.1) f = some p.2
theorem fldIx_mem {f : Str} : ∀ {l : List Str} {j : Nat}, fldIx l f = some j → f ∈ l
  | [], j, h => by cases h
  | g :: r, j, h => by
    unfold fldIx at h
    by_cases e : f = g
    · rw [e]; exact List.mem_cons_self
    · rw [if_neg e] at h
      cases q : fldIx r f with
      | none => rw [q] at h; cases h
      | some i => exact List.mem_cons_of_mem _ (fldIx_mem q)
theorem fldIx_take {f : Str} : ∀ {l : List Str} {j n : Nat}, fldIx l f = some j → j < n → fldIx (l.take n) f = some j
  | [], j, n, h, _ => by cases h
  | g :: r, j, 0, h, hj => absurd hj (Nat.not_lt_zero _)
  | g :: r, j, n + 1, h, hj => by
    unfold fldIx at h ⊢
    rw [List.take_succ_cons]
    by_cases e : f = g
    · rw [if_pos e] at h
      show (if f = g then some 0 else _) = _
      rw [if_pos e]
      exact h
    · rw [if_neg e] at h
      show (if f = g then some 0 else (fldIx (r.take n) f).map (· + 1)) = _
      rw [if_neg e]
      cases q : fldIx r f with
      | none => rw [q] at h; cases h
      | some i =>
        rw [q] at h
        cases h
        have hj : i + 1 < n + 1 := hj
        rw [fldIx_take q (by omega)]
        rfl
theorem lookup_mem {α β : Type} [BEq α] [LawfulBEq α] {a : α} {b : β} : ∀ {l : List (α × β)}, l.lookup a = some b → (a, b) ∈ l
  | [], h => by cases h
  | (c, d) :: r, h => by
    rw [List.lookup_cons] at h
    cases q : a == c with
    | true =>
      rw [q] at h
      cases h
      rw [eq_of_beq q]
      exact List.mem_cons_self
    | false =>
      rw [q] at h
      exact List.mem_cons_of_mem _ (lookup_mem h)
theorem q_fld {f : Str} {ixs : List (Nat × Nat)} (hc : ∀ p ∈ ixs, ClsOk X.K T p.1) (hf : FldOk T f ixs) (he : QB X T W e m) (hb : attributeBase e f X.env (eval e X.env) = eval e X.env := by rfl) : QE X T W (.Attribute e f pos) (mFld ixs m) := PE.conv (pe_fld he hb) fun σ H Q h => by
  refine h.bind (AB X.K T) up_AR fun B Z cm ρ x H1 ⟨cm1, dx, s1, e1, r1, a1, p1⟩ => ?_
  have key : ∀ (a dxx : Addr) (fs : List (Str × V)) (c : Nat) (ds : List D) (j : Nat) (d : D), H1 a = some (.ins (T.cls c) dxx fs) → fs.map (·.1) = (T.fl c).take ds.length → Reps X.K T cm1 (Fm.G ⟨B, Z, σ, ρ⟩ cm1 H1) (fs.map (·.2)) ds → ixs.lookup c = some j → ds[j]? = some d →
      Post X.K T ⟨B, Z, σ, ρ⟩ cm1 H1 W (AR X.K T) (.ok d s1) Q → ∃ a' C dx fs v, V.ref a = .ref a' ∧ H1 a' = some (.ins C dx fs) ∧ Cls X.K C ∧ NoAttr X.K C f ∧ fs.lookup f = some v ∧ Q v H1 := fun a dxx fs c ds j d ha hn hr hl hd pp => by
    have hm := lookup_mem hl
    obtain ⟨v, h1, h2⟩ := hr.get hd
    have hx := hf _ hm
    have hj : j < ds.length := (List.getElem?_eq_some_iff.mp hd).1
    have hx2 : fldIx (fs.map (·.1)) f = some j := by rw [hn]; exact fldIx_take hx hj
    exact ⟨a, _, dxx, fs, v, rfl, ha, (hc _ hm).1, (hc _ hm).2 f (fldIx_mem hx), by rw [lookup_fld hx2]; exact h1, pp.fin r1 h2⟩
  dsimp only at p1
  split at p1
  · split at p1
    · rename_i hl
      split at p1
      · rename_i hd
        obtain ⟨a, dxx, fs, rfl, ha, hn, hr⟩ := a1.ins
        exact key a dxx fs _ _ _ _ ha hn hr hl hd p1
      · exact p1.elim
    · exact p1.elim
  · split at p1
    · rename_i n o c ds e0
      split at p1
      · rename_i hl
        split at p1
        · rename_i hd
          have hc' : ∃ a, x = .ref a ∧ cm1[n]? = some a := by
            rcases a1 with z | ⟨c, rfl, o, q⟩
            · cases z with
              | cell h => exact ⟨_, rfl, h⟩
            · exact q.elim
          obtain ⟨a, rfl, hca⟩ := hc'
          obtain ⟨dxx, fs, h1, h2, h3⟩ := r1.cells.at_ n a _ hca e0
          exact key a dxx fs _ _ _ _ h1 h2 h3 hl hd p1
        · exact p1.elim
      · exact p1.elim
    · exact p1.elim
  · exact p1.elim

/-! ### slices -/
def cutD {α : Type} (xs : List α) (lo hi : Option Int) : List α := (xs.drop (HT.sIx xs.length 0 lo)).take (HT.sIx xs.length xs.length hi - HT.sIx xs.length 0 lo)
def gSlice (x : D) (lo hi : Option Int) (s : S) : R D := match x with
  | .tup a => .ok (.tup (cutD a lo hi)) s
  | .str z => if z.length ≤ sizeLine then .ok (.str (cutS z lo hi)) s else .no
  | _ => .no
def gSliceL (x : D) (lo hi : Option Int) (s : S) : R D := match x with
  | .lst a => .ok (.lst (cutD a lo hi)) s
  | .frz a => .ok (.lst (cutD a lo hi)) s
  | _ => .no
abbrev OM := List SD → S → R (Option Int)
def mNoPart : OM := fun _ s => .ok none s
def mPart (m : EM) : OM := fun ρ s => (m ρ s).bind fun x s1 => match x with | .int i => .ok (some i) s1 | _ => .no
def mSlice (g : D → Option Int → Option Int → S → R D) (m : EM) (lo hi : OM) : EM := fun ρ s => (m ρ s).bind fun x s1 => (lo ρ s1).bind fun l s2 => (hi ρ s2).bind fun u s3 => g x l u s3
def AO : AK (Option Int) (Option Int) := fun _ _ _ _ _ v d => v = d
theorem up_AO : Up AO := fun _ _ _ _ _ _ _ _ _ h => h
abbrev QO (X : Cx) (T : Tb) (W : WX) (e : Option Expr) (m : OM) : Prop := PO X e (tP X.K T W AO m)
theorem _root_.L2.PO.conv {X : Cx} {e : Option Expr} {t t' : TO} (h : PO X e t) (c : ∀ σ H Q, t' σ H Q → t σ H Q) : PO X e t' := ⟨fun pins s σ H Q I w => h.run pins s σ H Q I (c σ H Q w)⟩
theorem qo_none : QO X T W none mNoPart := PO.conv po_none fun σ H Q h => by
  obtain ⟨B, Z, cm, ρ, s, r, p⟩ := h
  exact p.fin (F := ⟨B, Z, σ, ρ⟩) r rfl
theorem qo_some (he : QE X T W e m) : QO X T W (some e) (mPart m) := PO.conv (po_some he) fun σ H Q h => by
  refine h.bind (AR X.K T) up_AO fun B Z cm ρ x H1 ⟨cm1, dx, s1, e1, r1, a1, p1⟩ => ?_
  cases dx with
  | int i =>
    cases a1
    exact ⟨i, rfl, p1.fin r1 rfl⟩
  | _ => exact p1.elim
def OSl (X : Cx) (T : Tb) (A : AK D V) (r : V → Option Int → Option Int → Hp → VK → Prop) (g : D → Option Int → Option Int → S → R D) : Prop := ∀ (F : Fm) (cm : List Addr) (H : Hp) (s : S) (W : WX) (x : V) (d : D) (lo hi : Option Int) (Q : VK),
  FRel X.K T F cm H s → AB X.K T F H cm H s x d → Post X.K T F cm H W A (g d lo hi s) Q → r x lo hi H Q
theorem tSl_of {A : AK D V} {r : V → Option Int → Option Int → Hp → VK → Prop} {g : D → Option Int → Option Int → S → R D} {lo hi : OM} (hg : OSl X T A r g) (up : Up A) {σ : L2.St} {H : Hp} {Q : VK} (h : tP X.K T W A (mSlice g m lo hi) σ H Q) :
    tSl r (tP X.K T W (AB X.K T) m) (tP X.K T W AO lo) (tP X.K T W AO hi) σ H Q := by
  refine h.bind (AB X.K T) up fun B Z cm ρ x H1 ⟨cm1, dx, s1, e1, r1, a1, p1⟩ => ?_
  refine ⟨B, Z, cm1, ρ, s1, r1, (p1.bind (A := AO) up).mono fun l H2 ⟨cm2, dl, s2, e2, r2, a2, p2⟩ => ?_⟩
  refine ⟨B, Z, cm2, ρ, s2, r2, (p2.bind (A := AO) up).mono fun u H3 ⟨cm3, du, s3, e3, r3, a3, p3⟩ => ?_⟩
  cases a2
  cases a3
  exact hg _ _ _ _ _ _ _ _ _ _ r3 (a1.ext r1 (e2.trans e3)) p3
theorem Reps.cut {K : PySem.W.Frag} {cm : List Addr} {G : Hp} {xs : List V} {ds : List D} (h : Reps K T cm G xs ds) (lo hi : Option Int) : Reps K T cm G (cutV xs lo hi) (cutD ds lo hi) := by
  unfold cutV cutD
  rw [h.len]
  exact Reps.take _ (Reps.drop _ h)
theorem cutD_whole {α : Type} {xs : List α} {lo hi : Option Int} (h : HT.sIx xs.length 0 lo = 0 ∧ HT.sIx xs.length xs.length hi = xs.length) : cutD xs lo hi = xs := by
  unfold cutD
  rw [h.1, h.2, List.drop_zero, Nat.sub_zero, List.take_length]

theorem osl_tup : OSl X T (AR X.K T) (fun x lo hi H Q => rSlA X.K x lo hi H Q ∨ rSlS x lo hi H Q) gSlice := by
  intro F cm H s W x d lo hi Q r a p
  unfold gSlice at p
  split at p
  · obtain ⟨c, xs, rfl, h1, h2, h3⟩ := a.tup
    refine .inl ⟨c, xs, rfl, h1, fun hw => ?_, fun hw q hq => ?_⟩
    · refine p.fin r (.tup h2 ?_)
      rw [cutD_whole (by rw [← h3.len]; exact hw)]
      exact h3
    · exact p.fin_new r (sub_upd hq) (rep_tup r hq (h3.cut lo hi))
  · split at p
    · cases a.str
      exact .inr ⟨_, rfl, by assumption, p.fin r (.str _)⟩
    · exact p.elim
  · exact p.elim
theorem osl_lst : OSl X T (AF X.K T) (rSlL X.K) gSliceL := by
  intro F cm H s W x d lo hi Q r a p
  unfold gSliceL at p
  split at p
  · obtain ⟨c, xs, rfl, h1, h3⟩ := a.lst
    exact ⟨c, xs, rfl, .of h1, fun q hq => p.fin_new r (sub_upd hq) (rep_lst r hq (h3.cut lo hi))⟩
  · obtain ⟨c, xs, rfl, h1, h3⟩ := a.frz
    exact ⟨c, xs, rfl, h1, fun q hq => p.fin_new r (sub_upd hq) (rep_lst r hq (h3.cut lo hi))⟩
  · exact p.elim
variable {lo hi : Option Expr} {lom him : OM} {p2 : Pos}
theorem q_slice (he : QB X T W e m) (hl : QO X T W lo lom) (hh : QO X T W hi him) : QE X T W (.Subscript e (.Slice lo hi none p2) pos) (mSlice gSlice m lom him) :=
  PE.conv (pe_slice (sl_tupA.or sl_str) he hl hh) fun _ _ _ h => tSl_of osl_tup up_AR h
theorem q_sliceL (he : QB X T W e m) (hl : QO X T W lo lom) (hh : QO X T W hi him) : QF X T W (.Subscript e (.Slice lo hi none p2) pos) (mSlice gSliceL m lom him) :=
  PE.conv (pe_slice sl_list he hl hh) fun _ _ _ h => tSl_of osl_lst up_AF h
/-! built-ins in short -/
variable {p : Pos}
theorem q_len (hg : Gl X "len") (hm : X.mg "len" = none) (ha : QB X T W e m) (hs : starEach [e] X.env = (false, eval e X.env) :: starEach [] X.env := by rfl) (hpl : (backTo pos (starEach [] X.env)).any (·.1) = false := by rfl) : QE X T W (.Call (.Name "len" p) [e] [] pos) (mCall gLen (mCons m mNil)) :=
  q_callB call_lenAll oc_len up_AR hg hm PySem.boot_len (qb_cons ha qb_nil hs) (by decide) (by decide) hs hpl
theorem q_abs (hg : Gl X "abs") (hm : X.mg "abs" = none) (ha : QB X T W e m) (hs : starEach [e] X.env = (false, eval e X.env) :: starEach [] X.env := by rfl) (hpl : (backTo pos (starEach [] X.env)).any (·.1) = false := by rfl) : QE X T W (.Call (.Name "abs" p) [e] [] pos) (mCall gAbs (mCons m mNil)) :=
  q_callB call_abs oc_abs up_AR hg hm PyProof.Rows.boot_abs (qb_cons ha qb_nil hs) (by decide) (by decide) hs hpl
theorem q_all (hc : X.calm = true) (hg : Gl X "all") (hm : X.mg "all" = none) (ha : QB X T W e m) (hs : starEach [e] X.env = (false, eval e X.env) :: starEach [] X.env := by rfl) (hpl : (backTo pos (starEach [] X.env)).any (·.1) = false := by rfl) : QE X T W (.Call (.Name "all" p) [e] [] pos) (mCall gAll (mCons m mNil)) :=
  q_callB (cr_all hc) oc_all up_AR hg hm PyProof.Rows.boot_all (qb_cons ha qb_nil hs) (by decide) (by decide) hs hpl
theorem q_any (hc : X.calm = true) (hg : Gl X "any") (hm : X.mg "any" = none) (ha : QB X T W e m) (hs : starEach [e] X.env = (false, eval e X.env) :: starEach [] X.env := by rfl) (hpl : (backTo pos (starEach [] X.env)).any (·.1) = false := by rfl) : QE X T W (.Call (.Name "any" p) [e] [] pos) (mCall gAny (mCons m mNil)) :=
  q_callB (cr_any hc) oc_any up_AR hg hm PyProof.Rows.boot_any (qb_cons ha qb_nil hs) (by decide) (by decide) hs hpl
theorem q_tupleOf (hg : Gl X "tuple") (hm : X.mg "tuple" = none) (ha : QB X T W e m) (hs : starEach [e] X.env = (false, eval e X.env) :: starEach [] X.env := by rfl) (hpl : (backTo pos (starEach [] X.env)).any (·.1) = false := by rfl) : QE X T W (.Call (.Name "tuple" p) [e] [] pos) (mCall gTuple (mCons m mNil)) :=
  q_callTy call_tuple_of oc_tuple up_AR hg hm PyProof.Rows.boot_tuple (qb_cons ha qb_nil hs) (by decide) (by decide) hs hpl
theorem q_listOf (hg : Gl X "list") (hm : X.mg "list" = none) (ha : QB X T W e m) (hs : starEach [e] X.env = (false, eval e X.env) :: starEach [] X.env := by rfl) (hpl : (backTo pos (starEach [] X.env)).any (·.1) = false := by rfl) : QF X T W (.Call (.Name "list" p) [e] [] pos) (mCall gList (mCons m mNil)) :=
  q_callTy call_list_of oc_list up_AF hg hm PyProof.Rows.boot_list (qb_cons ha qb_nil hs) (by decide) (by decide) hs hpl
theorem q_intOf (hg : Gl X "int") (hm : X.mg "int" = none) (ha : QB X T W e m) (hs : starEach [e] X.env = (false, eval e X.env) :: starEach [] X.env := by rfl) (hpl : (backTo pos (starEach [] X.env)).any (·.1) = false := by rfl) : QE X T W (.Call (.Name "int" p) [e] [] pos) (mCall gInt (mCons m mNil)) :=
  q_callTy call_int1 oc_int up_AR hg hm PyProof.Rows.boot_int (qb_cons ha qb_nil hs) (by decide) (by decide) hs hpl
variable {e2 : Expr} {m2 : EM}
theorem q_min2 (hc : X.calm = true) (hg : Gl X "min") (hm : X.mg "min" = none) (ha : QB X T W e m) (hb : QB X T W e2 m2) (hs : starEach [e, e2] X.env = (false, eval e X.env) :: starEach [e2] X.env := by rfl) (hs2 : starEach [e2] X.env = (false, eval e2 X.env) :: starEach [] X.env := by rfl) (hpl : (backTo pos (starEach [e2] X.env)).any (·.1) = false := by rfl) :
    QE X T W (.Call (.Name "min" p) [e, e2] [] pos) (mCall gMin (mCons m (mCons m2 mNil))) := q_callB (call_min2 hc) oc_min up_AR hg hm PyProof.Rows.boot_min (qb_cons ha (qb_cons hb qb_nil hs2) hs) (by decide) (by decide) hs hpl
theorem q_max2 (hc : X.calm = true) (hg : Gl X "max") (hm : X.mg "max" = none) (ha : QB X T W e m) (hb : QB X T W e2 m2) (hs : starEach [e, e2] X.env = (false, eval e X.env) :: starEach [e2] X.env := by rfl) (hs2 : starEach [e2] X.env = (false, eval e2 X.env) :: starEach [] X.env := by rfl) (hpl : (backTo pos (starEach [e2] X.env)).any (·.1) = false := by rfl) :
    QE X T W (.Call (.Name "max" p) [e, e2] [] pos) (mCall gMax (mCons m (mCons m2 mNil))) := q_callB (call_max2 hc) oc_max up_AR hg hm PyProof.Rows.boot_max (qb_cons ha (qb_cons hb qb_nil hs2) hs) (by decide) (by decide) hs hpl

/-! ### isinstance -/
/-- what isinstance asks of an own class -/
structure InsT (K : PySem.W.Frag) (C : Addr) : Prop where
  cl : Cls K C
  ha : PySem.W.findIn K (.ref C) "__class__" = some (some (.builtin "object.__class__"))
  hn : PySem.W.specialIn K (.builtin "object.__class__") "__get__" = some (some (.builtin "getset_descriptor.__get__"))
  htk : PySem.W.takesIn K (.builtin "object.__class__") = some true
  hm : PySem.W.mroIn K C (.type "object") = some true
def tyD (T : Tb) (d : D) : Option Value := match d with
  | .non => some (.type "NoneType")
  | .bl _ => some (.type "bool")
  | .int _ => some (.type "int")
  | .str _ => some (.type "str")
  | .tup _ => some (.type "tuple")
  | .lst _ => some (.type "list")
  | .dic _ _ => some (.type "dict")
  | .ins c _ => some (.ref (T.cls c))
  | _ => none
theorem tyX_of {F : Fm} {H0 H : Hp} {cm : List Addr} {s : S} {v : V} {d : D} {t : Value} (hi : ∀ c ds, d = .ins c ds → InsT X.K (T.cls c)) (z : AB X.K T F H0 cm H s v d) (h : tyD T d = some t) : TyX X.K H v t := by
  cases d with
  | non => cases h; cases z.non; exact .base .non
  | bl b => cases h; cases z.bl; exact .base (.bl b)
  | int b => cases h; cases z.int; exact .base (.int b)
  | str b => cases h; cases z.str; exact .base (.str b)
  | tup ds =>
    cases h
    obtain ⟨a, xs, rfl, h1, _⟩ := z.tup
    rcases h1 with (h1 | ⟨o, h1⟩) | ⟨o, its, n, h1, h2, _⟩
    · exact .base (.tup h1)
    · exact .fTuple h1
    · exact .kTuple h1 h2
  | lst ds =>
    cases h
    obtain ⟨a, xs, rfl, h1, _⟩ := z.lst
    exact .base (.lst h1)
  | ins c ds =>
    cases h
    obtain ⟨a, dx, fs, rfl, h1, _⟩ := z.ins
    have q := hi c ds rfl
    exact .base (.ins h1 q.cl q.ha q.hn q.htk q.hm)
  | dic ks ds =>
    cases h
    rcases z with z | ⟨a, rfl, o, q⟩
    · cases z with
      | dic h1 _ =>
        rcases Sub.hidH.rd h1 with h1 | ⟨o, h1⟩
        · exact .base (.dK h1)
        · exact .fDict h1
    · exact q.elim
  | _ => cases h
/-- k: for each class number that may come, the answer; kb: for the built-in types -/
def gIsi (k : D → Option Bool) (m : EM) : EM := fun ρ s => (m ρ s).bind fun x s1 => match k x with | some b => .ok (.bl b) s1 | none => .no
def IsiOk (K : PySem.W.Frag) (T : Tb) (cv : Value) (k : D → Option Bool) : Prop := ∀ d b, k d = some b → (∀ c ds, d = .ins c ds → InsT K (T.cls c)) ∧ ∃ t, tyD T d = some t ∧ PySem.W.kitOne K t cv = some b
theorem q_isi1 {k : D → Option Bool} {c : V} {cv : Value} {te : TE} (hk : IsiOk X.K T cv k) (hcv : ClsV c cv) (he2 : PE X e2 (tC c)) (hg : Gl X "isinstance") (hm : X.mg "isinstance" = none) (ha : QB X T W e m)
    (hs : starEach [e, e2] X.env = (false, eval e X.env) :: starEach [e2] X.env := by rfl) (hs2 : starEach [e2] X.env = (false, eval e2 X.env) :: starEach [] X.env := by rfl) (hpl : (backTo pos (starEach [e2] X.env)).any (·.1) = false := by rfl) :
    QE X T W (.Call (.Name "isinstance" p) [e, e2] [] pos) (gIsi k m) := PE.conv (pe_callB call_isi hg hm PyProof.Rows.boot_isinstance (pa_cons ha (pa_cons he2 pa_nil hs2) hs) (by decide) (by decide) hs hpl) fun σ H Q h => by
  refine h.bind (AB X.K T) up_AR fun B Z cm ρ x H1 ⟨cm1, dx, s1, e1, r1, a1, p1⟩ => ?_
  dsimp only at p1
  split at p1
  · rename_i b hb
    obtain ⟨hi, t, ht, hkit⟩ := hk _ _ hb
    exact ⟨x, c, t, cv, b, rfl, hcv, tyX_of hi a1 ht, hkit, p1.fin r1 (.bl _)⟩
  · exact p1.elim
/-- a tuple of classes -/
def IsiTOk (K : PySem.W.Frag) (T : Tb) (cvs : List Value) (k : D → Option Bool) : Prop := ∀ d b, k d = some b → (∀ c ds, d = .ins c ds → InsT K (T.cls c)) ∧ ∃ t, tyD T d = some t ∧ PySem.W.kitAny K t cvs = some b
theorem q_isi2 {k : D → Option Bool} {c1 c2 : V} {v1 v2 : Value} {a1 a2 : Expr} {x1 : Nat} {tpos : Pos} (hk : IsiTOk X.K T [v1, v2] k) (hcv1 : ClsV c1 v1) (hcv2 : ClsV c2 v2) (ha1 : PE X a1 (tC c1)) (ha2 : PE X a2 (tC c2)) (hg : Gl X "isinstance") (hm : X.mg "isinstance" = none) (ha : QB X T W e m)
    (hs : starEach [e, .Tuple [a1, a2] x1 tpos] X.env = (false, eval e X.env) :: starEach [.Tuple [a1, a2] x1 tpos] X.env := by rfl) (hs2 : starEach [.Tuple [a1, a2] x1 tpos] X.env = (false, eval (.Tuple [a1, a2] x1 tpos) X.env) :: starEach [] X.env := by rfl) (hpl : (backTo pos (starEach [.Tuple [a1, a2] x1 tpos] X.env)).any (·.1) = false := by rfl)
    (ht1 : starEach [a1, a2] X.env = (false, eval a1 X.env) :: starEach [a2] X.env := by rfl) (ht2 : starEach [a2] X.env = (false, eval a2 X.env) :: starEach [] X.env := by rfl) :
    QE X T W (.Call (.Name "isinstance" p) [e, .Tuple [a1, a2] x1 tpos] [] pos) (gIsi k m) := PE.conv (pe_callB call_isiT hg hm PyProof.Rows.boot_isinstance (pa_cons ha (pa_cons (pe_tup (pa_cons ha1 (pa_cons ha2 pa_nil ht2) ht1)) pa_nil hs2) hs) (by decide) (by decide) hs hpl) fun σ H Q h => by
  refine h.bind (AB X.K T) up_AR fun B Z cm ρ x H1 ⟨cm1, dx, s1, e1, r1, a1, p1⟩ => ?_
  refine ⟨by show 2 ≤ sizeLine; decide, fun q hq => ?_⟩
  have r2 := r1.grow (sub_upd (o := .tup [c1, c2]) hq)
  have a2 : AB X.K T ⟨B, Z, σ, ρ⟩ H cm1 _ s1 x dx := a1.ext r1 (Ext.grow (sub_upd (o := .tup [c1, c2]) hq))
  dsimp only at p1
  split at p1
  · rename_i b hb
    obtain ⟨hi, t, ht, hkit⟩ := hk _ _ hb
    exact ⟨x, q, [c1, c2], t, [v1, v2], b, rfl, upd_same, .cons hcv1 (.cons hcv2 .nil), tyX_of hi a2 ht, hkit, p1.fin_new r1 (sub_upd hq) (.bl _)⟩
  · exact p1.elim
end
end Tv

/-! Tv6: statements -/
namespace Tv
open PySem PySem.Spec PyProof.Rows L2

inductive SR where
  | nx (ρ : List SD) (s : S) | rt (d : D) (s : S) | bk (ρ : List SD) (s : S) | ct (ρ : List SD) (s : S) | er (c : Nat) (ds : List D) (ρ : List SD) (s : S) | no
abbrev SM := List SD → S → SR

section
variable {K : PySem.W.Frag} {T : Tb} {B : Hp} {Z : Addr → Prop} {cm cm1 : List Addr} {σ : L2.St} {H H1 : Hp} {ρ : List SD} {s s1 : S}
/-! ### the slots change -/
theorem set_get {α : Type} {l : List α} {i j : Nat} {x y : α} (h : (l.set i x)[j]? = some y) : (j = i ∧ i < l.length ∧ y = x) ∨ (j ≠ i ∧ l[j]? = some y) := by
  by_cases e : j = i
  · subst e
    by_cases hl : j < l.length
    · rw [List.getElem?_set_self hl] at h
      exact .inl ⟨rfl, hl, (Option.some.inj h).symm⟩
    · rw [List.getElem?_eq_none (by rw [List.length_set]; omega)] at h
      cases h
  · rw [List.getElem?_set_ne (Ne.symm e)] at h
    exact .inr ⟨e, h⟩
/-- fewer owned ones: what was seen is seen -/
theorem Rel.slots {σ' : L2.St} {ρ' : List SD} (r : Rel K T B Z cm σ H ρ s) (len : ρ'.length = σ'.length) (O : ∀ a, Ow σ' ρ' a → Ow σ ρ a)
    (val : Sub (GV cm Z (Ow σ ρ) H) (GV cm Z (Ow σ' ρ') H) → ∀ (i : Nat) (d : D), ρ'[i]? = some (.v d) → ∃ v, σ'[i]? = some (some v) ∧ Rep K T cm (GV cm Z (Ow σ' ρ') H) v d)
    (own : ∀ (i : Nat) (d : D), ρ'[i]? = some (.own d) → ρ[i]? = some (.own d) ∧ σ'[i]? = σ[i]?) : Rel K T B Z cm σ' H ρ' s := by
  have sub : Sub (GV cm Z (Ow σ ρ) H) (GV cm Z (Ow σ' ρ') H) := hid_sub fun a u n e => ⟨fun z => by
    rcases z with z | z | z
    · exact n (.inl z)
    · exact n (.inr (.inl z))
    · exact n (.inr (.inr (O a z))), e⟩
  refine ⟨len, val sub, fun i d e => ?_, fun i j d e a h1 h2 h3 h4 => ?_, ⟨r.cells.len, r.cells.nd, fun n a d e1 e2 => (r.cells.at_ n a d e1 e2).ext (.refl _) sub fun o z => z, r.cells.there, r.cells.zok, r.cells.nosf⟩, r.base⟩
  · obtain ⟨e1, e2⟩ := own i d e
    obtain ⟨a, h1, h2, h3⟩ := r.own i d e1
    exact ⟨a, e2.trans h1, h2.ext (.refl _) sub fun o z => z, h3⟩
  · obtain ⟨e1, e2⟩ := own i d h1
    obtain ⟨e3, e4⟩ := own j e h2
    exact r.apart i j d e a e1 e3 (e2.symm.trans h3) (e4.symm.trans h4)
theorem Rel.set {i : Nat} {v : V} {d : D} (r : Rel K T B Z cm σ H ρ s) (q : Rep K T cm (GV cm Z (Ow σ ρ) H) v d) : Rel K T B Z cm (σ.set i (some v)) H (ρ.set i (.v d)) s := by
  refine r.slots (by rw [List.length_set, List.length_set]; exact r.len) (fun a ⟨j, e, h1, h2⟩ => ?_) (fun sub j e h => ?_) (fun j e h => ?_)
  · rcases set_get h1 with ⟨_, _, z⟩ | ⟨n, z⟩
    · cases z
    · rw [List.getElem?_set_ne (Ne.symm n)] at h2
      exact ⟨j, e, z, h2⟩
  · rcases set_get h with ⟨rfl, hl, z⟩ | ⟨n, z⟩
    · cases z
      refine ⟨v, ?_, Rep.mono (.refl _) sub _ _ q⟩
      rw [List.getElem?_set_self (by rw [← r.len]; exact hl)]
    · obtain ⟨w, h1, h2⟩ := r.val j e z
      refine ⟨w, ?_, Rep.mono (.refl _) sub _ _ h2⟩
      rw [List.getElem?_set_ne (Ne.symm n)]
      exact h1
  · rcases set_get h with ⟨_, _, z⟩ | ⟨n, z⟩
    · cases z
    · exact ⟨z, List.getElem?_set_ne (Ne.symm n)⟩
/-- a slot forgotten -/
theorem Rel.unset {i : Nat} (r : Rel K T B Z cm σ H ρ s) : Rel K T B Z cm σ H (ρ.set i .un) s := by
  refine r.slots (by rw [List.length_set]; exact r.len) (fun a ⟨j, e, h1, h2⟩ => ?_) (fun sub j e h => ?_) (fun j e h => ?_)
  · rcases set_get h1 with ⟨_, _, z⟩ | ⟨n, z⟩
    · cases z
    · exact ⟨j, e, z, h2⟩
  · rcases set_get h with ⟨_, _, z⟩ | ⟨n, z⟩
    · cases z
    · obtain ⟨w, h1, h2⟩ := r.val j e z
      exact ⟨w, h1, Rep.mono (.refl _) sub _ _ h2⟩
  · rcases set_get h with ⟨_, _, z⟩ | ⟨n, z⟩
    · cases z
    · exact ⟨z, rfl⟩
/-- the owned list of slot i handed on: from now on a value -/
def frz (i : Nat) (ρ : List SD) : List SD := match ρ[i]? with
  | some (.own (.lst ds)) => ρ.set i (.v (.lst ds))
  | _ => ρ
theorem Rel.frz {i : Nat} (r : Rel K T B Z cm σ H ρ s) : Rel K T B Z cm σ H (Tv.frz i ρ) s := by
  unfold Tv.frz
  split
  · rename_i ds e0
    obtain ⟨a, h1, ⟨xs, h2, h3⟩, h4, h5, h6⟩ := r.own i _ e0
    refine r.slots (by rw [List.length_set]; exact r.len) (fun b ⟨j, e, q1, q2⟩ => ?_) (fun sub j e h => ?_) (fun j e h => ?_)
    · rcases set_get q1 with ⟨_, _, z⟩ | ⟨n, z⟩
      · cases z
      · exact ⟨j, e, z, q2⟩
    · rcases set_get h with ⟨rfl, hl, z⟩ | ⟨n, z⟩
      · cases z
        refine ⟨.ref a, h1, .lst (hid_some.mpr ⟨fun z => ?_, h2⟩) (Reps.mono (.refl _) sub _ _ h3)⟩
        rcases z with z | z | ⟨k, e, q1, q2⟩
        · exact h4 z
        · exact h5 z
        · rcases set_get q1 with ⟨_, _, z⟩ | ⟨n, z⟩
          · cases z
          · exact n (r.apart k j _ _ a z e0 q2 h1)
      · obtain ⟨w, h1, h2⟩ := r.val j e z
        exact ⟨w, h1, Rep.mono (.refl _) sub _ _ h2⟩
    · rcases set_get h with ⟨_, _, z⟩ | ⟨n, z⟩
      · cases z
      · exact ⟨z, rfl⟩
  · exact r
/-- a new list to a slot of its own -/
theorem Rel.setOwn {F : Fm} {i : Nat} {v : V} {d : D} {cm0 : List Addr} {H0 : Hp} {s0 : S} (r0 : FRel K T F cm0 H0 s0) (hi : i < F.ρ.length) (z : AF K T F H0 cm H s v d) :
    Rel K T F.B F.Z cm (F.σ.set i (some v)) H (F.ρ.set i (.own d)) s := by
  obtain ⟨p, ds, xs, rfl, rfl, hp, hc, r, hx, q⟩ := z
  have hiσ : i < F.σ.length := by rw [← r0.len]; exact hi
  have nZ : ¬ F.Z p := fun z => r0.cells.zok p z hp
  have sub : Sub (GV cm (fun a => F.Z a ∨ a = p) F.O H) (GV cm F.Z (Ow (F.σ.set i (some (.ref p))) (F.ρ.set i (.own (.lst ds)))) H) := hid_sub fun a u n e => ⟨fun z => by
    rcases z with z | z | ⟨j, e, q1, q2⟩
    · exact n (.inl z)
    · exact n (.inr (.inl (.inl z)))
    · rcases set_get q1 with ⟨rfl, _, z⟩ | ⟨nj, z⟩
      · rw [List.getElem?_set_self hiσ] at q2
        cases q2
        exact n (.inr (.inl (.inr rfl)))
      · rw [List.getElem?_set_ne (Ne.symm nj)] at q2
        exact n (.inr (.inr ⟨j, e, z, q2⟩)), e⟩
  refine ⟨by rw [List.length_set, List.length_set]; exact r.len, fun j e h => ?_, fun j e h => ?_, fun j k e f a h1 h2 h3 h4 => ?_,
    ⟨r.cells.len, r.cells.nd, fun n a d e1 e2 => (r.cells.at_ n a d e1 e2).ext (.refl _) sub fun o z => z, r.cells.there, fun a m => r.cells.zok a (.inl m), r.cells.nosf⟩, r.base⟩
  · rcases set_get h with ⟨_, _, z⟩ | ⟨n, z⟩
    · cases z
    · obtain ⟨w, h1, h2⟩ := r.val j e z
      refine ⟨w, ?_, Rep.mono (.refl _) sub _ _ h2⟩
      rw [List.getElem?_set_ne (Ne.symm n)]
      exact h1
  · rcases set_get h with ⟨rfl, hl, z⟩ | ⟨n, z⟩
    · cases z
      refine ⟨p, ?_, ⟨xs, hx, Reps.mono (.refl _) sub _ _ q⟩, hc, nZ, ?_⟩
      · rw [List.getElem?_set_self hiσ]
      · cases b : F.B p with
        | none => rfl
        | some o =>
          have := (r0.base p o b).1
          rw [hp] at this
          cases this
    · obtain ⟨a, h1, h2, h3, h4, h5⟩ := r.own j e z
      refine ⟨a, ?_, h2.ext (.refl _) sub fun o z => z, h3, fun q => h4 (.inl q), h5⟩
      rw [List.getElem?_set_ne (Ne.symm n)]
      exact h1
  · have key : ∀ (j : Nat) (e : D), (F.ρ.set i (.own (.lst ds)))[j]? = some (.own e) → (F.σ.set i (some (.ref p)))[j]? = some (some (V.ref a)) → (j = i ∧ a = p) ∨ (j ≠ i ∧ F.ρ[j]? = some (.own e) ∧ F.σ[j]? = some (some (.ref a)) ∧ a ≠ p) := fun j e q1 q2 => by
      rcases set_get q1 with ⟨rfl, _, z⟩ | ⟨nj, z⟩
      · rw [List.getElem?_set_self hiσ] at q2
        cases q2
        exact .inl ⟨rfl, rfl⟩
      · rw [List.getElem?_set_ne (Ne.symm nj)] at q2
        obtain ⟨b, h1, _, _, h4, _⟩ := r.own j e z
        rw [q2] at h1
        cases h1
        exact .inr ⟨nj, z, q2, fun e => h4 (.inr e)⟩
    rcases key j e h1 h3 with ⟨e1, e2⟩ | ⟨n1, z1, z2, z3⟩
    · rcases key k f h2 h4 with ⟨e3, e4⟩ | ⟨n2, y1, y2, y3⟩
      · rw [e1, e3]
      · exact absurd e2 y3
    · rcases key k f h2 h4 with ⟨e3, e4⟩ | ⟨n2, y1, y2, y3⟩
      · exact absurd e4 z3
      · exact r.apart j k e f a z1 y1 z2 y2
theorem GV_mut {cm : List Addr} {Z O O' : Addr → Prop} {H : Hp} {a : Addr} {o : HO} (h : HidP cm Z O a) (e : ∀ b, O' b ↔ O b) : GV cm Z O' (upd H a o) = GV cm Z O H := by
  funext b
  have hp : HidP cm Z O' b ↔ HidP cm Z O b := by
    unfold HidP
    rw [e b]
  by_cases hb : HidP cm Z O b
  · show hid _ _ b = hid _ _ b
    unfold hid
    rw [if_pos hb, if_pos (hp.mpr hb)]
  · show hid _ _ b = hid _ _ b
    unfold hid
    rw [if_neg hb, if_neg (fun z => hb (hp.mp z)), upd_ne (fun z : b = a => hb (by rw [z]; exact h))]
theorem ow_set {i : Nat} {d d' : D} (h : ρ[i]? = some (.own d)) (b : Addr) : Ow σ (ρ.set i (.own d')) b ↔ Ow σ ρ b := by
  have hi : i < ρ.length := (List.getElem?_eq_some_iff.mp h).1
  constructor
  · rintro ⟨j, e, h1, h2⟩
    rcases set_get h1 with ⟨rfl, _, _⟩ | ⟨n, z⟩
    · exact ⟨j, d, h, h2⟩
    · exact ⟨j, e, z, h2⟩
  · rintro ⟨j, e, h1, h2⟩
    by_cases hj : j = i
    · subst hj
      exact ⟨j, d', by rw [List.getElem?_set_self hi], h2⟩
    · exact ⟨j, e, by rw [List.getElem?_set_ne (Ne.symm hj)]; exact h1, h2⟩
/-- the owned thing of slot i changes -/
theorem Rel.mutOwn {i : Nat} {a : Addr} {d d' : D} {o : HO} (r : Rel K T B Z cm σ H ρ s) (h : ρ[i]? = some (.own d)) (ha : σ[i]? = some (some (.ref a))) (q : OwnRep K T cm (GV cm Z (Ow σ ρ) H) (upd H a o) a d') :
    Rel K T B Z cm σ (upd H a o) (ρ.set i (.own d')) s := by
  obtain ⟨a', h1, h2, h3, h4, h5⟩ := r.own i d h
  have ea : a' = a := by rw [h1] at ha; cases ha; rfl
  subst ea
  have hO : Ow σ ρ a' := ⟨i, d, h, h1⟩
  have hi : i < ρ.length := (List.getElem?_eq_some_iff.mp h).1
  have eG : GV cm Z (Ow σ (ρ.set i (.own d'))) (upd H a' o) = GV cm Z (Ow σ ρ) H := GV_mut (.inr (.inr hO)) (ow_set h)
  have keep : ∀ b, b ≠ a' → ∀ u, H b = some u → upd H a' o b = some u := fun b n u e => by rw [upd_ne n]; exact e
  have there : ∀ b, H b ≠ none → upd H a' o b ≠ none := fun b e => by
    by_cases hb : b = a'
    · rw [hb, upd_same]; intro z; cases z
    · rw [upd_ne hb]; exact e
  refine ⟨by rw [List.length_set]; exact r.len, fun j e z => ?_, fun j e z => ?_, fun j k e f b q1 q2 q3 q4 => ?_, ⟨r.cells.len, r.cells.nd, fun n b e e1 e2 => ?_, fun b m => there b (r.cells.there b m), fun b m => there b (r.cells.zok b m), r.cells.nosf⟩, fun b u e => ?_⟩
  · rw [eG]
    rcases set_get z with ⟨_, _, z⟩ | ⟨n, z⟩
    · cases z
    · exact r.val j e z
  · rw [eG]
    rcases set_get z with ⟨rfl, _, z⟩ | ⟨n, z⟩
    · cases z
      exact ⟨a', h1, q, h3, h4, h5⟩
    · obtain ⟨b, k1, k2, k3⟩ := r.own j e z
      have nb : b ≠ a' := fun e' => n (r.apart j i e d a' z h (e' ▸ k1) h1)
      exact ⟨b, k1, k2.ext (.refl _) (Sub.refl _) (keep b nb), k3⟩
  · have key : ∀ (j : Nat) (e : D), (ρ.set i (.own d'))[j]? = some (.own e) → ∃ e', ρ[j]? = some (.own e') := fun j e z => by
      rcases set_get z with ⟨rfl, _, z⟩ | ⟨n, z⟩
      · exact ⟨d, h⟩
      · exact ⟨e, z⟩
    obtain ⟨_, z1⟩ := key j e q1
    obtain ⟨_, z2⟩ := key k f q2
    exact r.apart j k _ _ b z1 z2 q3 q4
  · rw [eG]
    have nb : b ≠ a' := fun e' => h3 (e' ▸ List.mem_of_getElem? e1)
    exact (r.cells.at_ n b e e1 e2).ext (.refl _) (Sub.refl _) (keep b nb)
  · obtain ⟨k1, k2⟩ := r.base b u e
    refine ⟨keep b (fun z => ?_) u k1, k2⟩
    rw [z, h5] at e
    cases e
/-- a cell changes -/
theorem Rel.mutCell {n : Nat} {a : Addr} {d' : D} {o : HO} (r : Rel K T B Z cm σ H ρ s) (h : cm[n]? = some a) (q : OwnRep K T cm (GV cm Z (Ow σ ρ) H) (upd H a o) a d') (hsf : d'.isSf = false := by rfl) :
    Rel K T B Z cm σ (upd H a o) ρ (s.set n d') := by
  have hm : a ∈ cm := List.mem_of_getElem? h
  have hn : n < cm.length := (List.getElem?_eq_some_iff.mp h).1
  have hns : n < s.length := by rw [← r.cells.len]; exact hn
  have eG : GV cm Z (Ow σ ρ) (upd H a o) = GV cm Z (Ow σ ρ) H := GV_mut (.inl hm) fun _ => Iff.rfl
  have keep : ∀ b, b ≠ a → ∀ u, H b = some u → upd H a o b = some u := fun b n u e => by rw [upd_ne n]; exact e
  have there : ∀ b, H b ≠ none → upd H a o b ≠ none := fun b e => by
    by_cases hb : b = a
    · rw [hb, upd_same]; intro z; cases z
    · rw [upd_ne hb]; exact e
  refine ⟨r.len, fun j e z => ?_, fun j e z => ?_, r.apart, ⟨by rw [List.length_set]; exact r.cells.len, r.cells.nd, fun k b e e1 e2 => ?_, fun b m => there b (r.cells.there b m), fun b m => there b (r.cells.zok b m), fun d hd => (List.mem_or_eq_of_mem_set hd).elim (r.cells.nosf d) fun e => by rw [e]; exact hsf⟩, fun b u e => ?_⟩
  · rw [eG]; exact r.val j e z
  · rw [eG]
    obtain ⟨b, k1, k2, k3, k4⟩ := r.own j e z
    exact ⟨b, k1, k2.ext (.refl _) (Sub.refl _) (keep b fun e' => k3 (e' ▸ hm)), k3, k4⟩
  · rw [eG]
    rcases set_get e2 with ⟨rfl, _, z⟩ | ⟨nk, z⟩
    · cases z
      have eb : b = a := by rw [e1] at h; cases h; rfl
      subst eb
      exact q
    · have nb : b ≠ a := fun e' => nk (by
        subst e'
        obtain ⟨l1, g1⟩ := List.getElem?_eq_some_iff.mp e1
        obtain ⟨l2, g2⟩ := List.getElem?_eq_some_iff.mp h
        exact (List.getElem_inj r.cells.nd).mp (g1.trans g2.symm))
      exact (r.cells.at_ k b e e1 z).ext (.refl _) (Sub.refl _) (keep b nb)
  · obtain ⟨k1, k2⟩ := r.base b u e
    exact ⟨keep b (fun z => k2 (z ▸ hm)) u k1, k2⟩
/-- a new list becomes a cell -/
theorem Rel.newCell {F : Fm} {v : V} {d : D} {cm0 : List Addr} {H0 : Hp} {s0 : S} (r0 : FRel K T F cm0 H0 s0) (z : AF K T F H0 cm H s v d) :
    ∃ p, v = .ref p ∧ Rel K T F.B F.Z (cm ++ [p]) F.σ H F.ρ (s ++ [d]) := by
  obtain ⟨p, ds, xs, rfl, rfl, hp, hc, r, hx, q⟩ := z
  have nZ : ¬ F.Z p := fun z => r0.cells.zok p z hp
  have sub : Sub (GV cm (fun a => F.Z a ∨ a = p) F.O H) (GV (cm ++ [p]) F.Z F.O H) := hid_sub fun a u n e => ⟨fun z => by
    rcases z with z | z | z
    · rcases List.mem_append.mp z with z | z
      · exact n (.inl z)
      · exact n (.inr (.inl (.inr (List.mem_singleton.mp z))))
    · exact n (.inr (.inl (.inl z)))
    · exact n (.inr (.inr z)), e⟩
  have pre : Pre cm (cm ++ [p]) := ⟨[p], rfl⟩
  refine ⟨p, rfl, r.len, fun j e h => ?_, fun j e h => ?_, r.apart, ⟨by rw [List.length_append, List.length_append, r.cells.len]; rfl, ?_, fun n a d e1 e2 => ?_, fun a m => ?_, fun a m => r.cells.zok a (.inl m), fun d hd => (List.mem_append.mp hd).elim (r.cells.nosf d) fun e => by rw [List.mem_singleton.mp e]; rfl⟩, fun a o e => ?_⟩
  · obtain ⟨w, h1, h2⟩ := r.val j e h
    exact ⟨w, h1, Rep.mono pre sub _ _ h2⟩
  · obtain ⟨a, h1, h2, h3, h4, h5⟩ := r.own j e h
    refine ⟨a, h1, h2.ext pre sub fun o z => z, fun z => ?_, fun q => h4 (.inl q), h5⟩
    rcases List.mem_append.mp z with z | z
    · exact h3 z
    · exact h4 (.inr (List.mem_singleton.mp z))
  · exact List.nodup_append.mpr ⟨r.cells.nd, by simp, fun a h1 b h2 e => hc (by rw [← List.mem_singleton.mp h2, ← e]; exact h1)⟩
  · by_cases hn : n < cm.length
    · rw [List.getElem?_append_left hn] at e1
      rw [List.getElem?_append_left (by rw [← r.cells.len]; exact hn)] at e2
      exact (r.cells.at_ n a d e1 e2).ext pre sub fun o z => z
    · have hn' : cm.length ≤ n := by omega
      rw [List.getElem?_append_right hn'] at e1
      rw [List.getElem?_append_right (by rw [← r.cells.len]; exact hn')] at e2
      have e0 : n - cm.length = 0 := by
        have := (List.getElem?_eq_some_iff.mp e1).1
        simp at this
        omega
      have e0' : n - s.length = 0 := by rw [← r.cells.len]; exact e0
      rw [e0] at e1
      rw [e0'] at e2
      cases e1
      cases e2
      exact ⟨xs, hx, Reps.mono pre sub _ _ q⟩
  · rcases List.mem_append.mp m with m | m
    · exact r.cells.there a m
    · rw [List.mem_singleton.mp m, hx]; intro z; cases z
  · obtain ⟨k1, k2⟩ := r.base a o e
    refine ⟨k1, fun z => ?_⟩
    rcases List.mem_append.mp z with z | z
    · exact k2 z
    · rw [List.mem_singleton.mp z] at e
      have := (r0.base p o e).1
      rw [hp] at this
      cases this
end
end Tv

/-! Tv7: statements' readings and rules -/
namespace Tv
open PySem PySem.Spec PyProof.Rows L2

section
variable (K : PySem.W.Frag) (T : Tb)
def PostS (B : Hp) (Z : Addr → Prop) (cm0 : List Addr) (W : WX) (r : SR) (D : Ends) : Prop := match r with
  | .nx ρ s => ∀ σ H cm, Pre cm0 cm → Rel K T B Z cm σ H ρ s → D.nx σ H
  | .bk ρ s => ∀ σ H cm, Pre cm0 cm → Rel K T B Z cm σ H ρ s → D.bk σ H
  | .ct ρ s => ∀ σ H cm, Pre cm0 cm → Rel K T B Z cm σ H ρ s → D.ct σ H
  | .rt d s => ∀ v σ H cm ρ, Pre cm0 cm → Rel K T B Z cm σ H ρ s → Rep K T cm (GV cm Z (Ow σ ρ) H) v d → D.rt v H
  | .er c ds ρ s => ∀ cls dx σ H cm, Pre cm0 cm → Rel K T B Z cm σ H ρ s → ErrRep K T cm (GV cm Z (Ow σ ρ) H) H cls dx c ds → W cls dx σ H
  | .no => False
def tS (W : WX) (m : SM) : TS := fun D σ H => ∃ B Z cm ρ s, Rel K T B Z cm σ H ρ s ∧ PostS K T B Z cm W (m ρ s) D
end
abbrev QSt (X : Cx) (T : Tb) (W : WX) (st : Stmt) (m : SM) : Prop := PS X st (tS X.K T W m)
abbrev QSs (X : Cx) (T : Tb) (W : WX) (st : List Stmt) (m : SM) : Prop := PSs X st (tS X.K T W m)
theorem _root_.L2.PS.conv {X : Cx} {e : Stmt} {t t' : TS} (h : PS X e t) (c : ∀ D σ H, t' D σ H → t D σ H) : PS X e t' := ⟨fun pins s σ H D I w => h.run pins s σ H D I (c D σ H w)⟩
theorem _root_.L2.PSs.conv {X : Cx} {e : List Stmt} {t t' : TS} (h : PSs X e t) (c : ∀ D σ H, t' D σ H → t D σ H) : PSs X e t' := ⟨fun pins s σ H D I w => h.run pins s σ H D I (c D σ H w)⟩
section
variable {K : PySem.W.Frag} {T : Tb} {B : Hp} {Z : Addr → Prop} {cm cm1 : List Addr} {W : WX} {r : SR} {Ed : Ends}
theorem PostS.later (h : PostS K T B Z cm W r Ed) (p : Pre cm cm1) : PostS K T B Z cm1 W r Ed := by
  cases r with
  | nx ρ s => exact fun σ H c q => h σ H c (p.trans q)
  | bk ρ s => exact fun σ H c q => h σ H c (p.trans q)
  | ct ρ s => exact fun σ H c q => h σ H c (p.trans q)
  | rt d s => exact fun v σ H c ρ q => h v σ H c ρ (p.trans q)
  | er c ds ρ s => exact fun cls dx σ H c q => h cls dx σ H c (p.trans q)
  | no => exact h

/-! ### what they reckon -/
def mNext : SM := fun ρ s => .nx ρ s
def mSeq (a b : SM) : SM := fun ρ s => match a ρ s with
  | .nx ρ' s' => b ρ' s'
  | .rt d s' => .rt d s'
  | .bk ρ' s' => .bk ρ' s'
  | .ct ρ' s' => .ct ρ' s'
  | .er c ds ρ' s' => .er c ds ρ' s'
  | .no => .no
/-- an expression, then what is done with its value -/
def mE (a : EM) (k : D → List SD → S → SR) : SM := fun ρ s => match a ρ s with
  | .ok d s' => k d ρ s'
  | .er c ds s' => .er c ds ρ s'
  | .no => .no
def mSet (i : Nat) (a : EM) : SM := mE a fun d ρ s => .nx (ρ.set i (.v d)) s
def mSetO (i : Nat) (a : EM) : SM := mE a fun d ρ s => if i < ρ.length then .nx (ρ.set i (.own d)) s else .no
def mDrop (a : EM) : SM := mE a fun _ ρ s => .nx ρ s
def mRet (a : EM) : SM := mE a fun d _ s => .rt d s
def mRetN : SM := fun _ s => .rt .non s
def mBrk : SM := fun ρ s => .bk ρ s
def mCnt : SM := fun ρ s => .ct ρ s
def mNever : SM := fun _ _ => .no
def mIfS (c : TM) (a b : SM) : SM := fun ρ s => match c ρ s with
  | .ok true s' => a ρ s'
  | .ok false s' => b ρ s'
  | .er k ds s' => .er k ds ρ s'
  | .no => .no
def mFrz (i : Nat) (a : SM) : SM := fun ρ s => a (frz i ρ) s
end

section
variable {X : Cx} {T : Tb} {W : WX} {st : Stmt} {rest : List Stmt} {a b : SM} {e c : Expr} {m : EM} {tc : TM} {pos : Pos}
/-- from an expression's reading to what stands behind it -/
theorem tE_of {α β : Type} {K : PySem.W.Frag} {B : Hp} {Z : Addr → Prop} {cm : List Addr} {σ : L2.St} {H : Hp} {ρ : List SD} {A : AK α β} {Q : β → Hp → Prop} {x : R α}
    (ok : ∀ d s', x = .ok d s' → ∀ b H' cm', Ext cm H cm' H' → Rel K T B Z cm' σ H' ρ s' → A ⟨B, Z, σ, ρ⟩ H cm' H' s' b d → Q b H')
    (er : ∀ c ds s', x = .er c ds s' → ∀ cls dx H' cm', Ext cm H cm' H' → Rel K T B Z cm' σ H' ρ s' → ErrRep K T cm' (GV cm' Z (Ow σ ρ) H') H' cls dx c ds → W cls dx σ H')
    (no : x = .no → False) : Post K T ⟨B, Z, σ, ρ⟩ cm H W A x Q := by
  cases x with
  | ok d s' => exact ok d s' rfl
  | er c ds s' => exact er c ds s' rfl
  | no => exact no rfl
theorem mE_of {K : PySem.W.Frag} {A : AK D V} {k : D → List SD → S → SR} {D0 : Ends} {σ : L2.St} {H : Hp} {Q : VK} (h : tS K T W (mE m k) D0 σ H)
    (q : ∀ B Z cm0 s0 cm H' ρ d s v, Pre cm0 cm → FRel K T ⟨B, Z, σ, ρ⟩ cm0 H s0 → FRel K T ⟨B, Z, σ, ρ⟩ cm H' s → A ⟨B, Z, σ, ρ⟩ H cm H' s v d → PostS K T B Z cm W (k d ρ s) D0 → Q v H') : tP K T W A m σ H Q := by
  obtain ⟨B, Z, cm, ρ, s, r, p⟩ := h
  refine ⟨B, Z, cm, ρ, s, r, tE_of (fun d s' e b H' cm' ex r' z => ?_) (fun c ds s' e cls dx H' cm' ex r' z => ?_) (fun e => ?_)⟩
  · unfold mE at p
    rw [e] at p
    exact q B Z cm s cm' H' ρ d s' b ex.pre r r' z (p.later ex.pre)
  · unfold mE at p
    rw [e] at p
    exact p cls dx σ H' cm' ex.pre r' z
  · unfold mE at p
    rw [e] at p
    exact p
theorem qss_nil : QSs X T W [] mNext := PSs.conv pss_nil fun D σ H h => by
  obtain ⟨B, Z, cm, ρ, s, r, p⟩ := h
  exact p σ H cm (.refl _) r
theorem qss_cons (h1 : QSt X T W st a) (h2 : QSs X T W rest b) : QSs X T W (st :: rest) (mSeq a b) := PSs.conv (pss_cons h1 h2) fun D σ H h => by
  obtain ⟨B, Z, cm, ρ, s, r, p⟩ := h
  refine ⟨B, Z, cm, ρ, s, r, ?_⟩
  unfold mSeq at p
  cases e : a ρ s with
  | nx ρ' s' => rw [e] at p; exact fun σ' H' cm' q r' => ⟨B, Z, cm', ρ', s', r', p.later q⟩
  | rt d s' => rw [e] at p; exact p
  | bk ρ' s' => rw [e] at p; exact p
  | ct ρ' s' => rw [e] at p; exact p
  | er c ds ρ' s' => rw [e] at p; exact p
  | no => rw [e] at p; exact p
theorem qss_one (h1 : QSt X T W st a) : QSs X T W [st] a := pss_one h1
theorem q_pass : QSt X T W (.Pass pos) mNext := PS.conv ps_pass fun D σ H h => by
  obtain ⟨B, Z, cm, ρ, s, r, p⟩ := h
  exact p σ H cm (.refl _) r
theorem q_break : QSt X T W (.Break pos) mBrk := PS.conv ps_break fun D σ H h => by
  obtain ⟨B, Z, cm, ρ, s, r, p⟩ := h
  exact p σ H cm (.refl _) r
theorem q_continue : QSt X T W (.Continue pos) mCnt := PS.conv ps_continue fun D σ H h => by
  obtain ⟨B, Z, cm, ρ, s, r, p⟩ := h
  exact p σ H cm (.refl _) r
theorem q_never : QSt X T W st mNever := PS.conv ps_never fun D σ H h => by
  obtain ⟨B, Z, cm, ρ, s, r, p⟩ := h
  exact p
theorem qs_frz {i : Nat} (h : QSt X T W st a) : QSt X T W st (mFrz i a) := PS.conv h fun D σ H h => by
  obtain ⟨B, Z, cm, ρ, s, r, p⟩ := h
  exact ⟨B, Z, cm, _, s, r.frz, p⟩
theorem q_ifS {sa sb : List Stmt} (hc : QT X T W c tc) (ha : QSs X T W sa a) (hb : QSs X T W sb b) : QSt X T W (.If c sa sb pos) (mIfS tc a b) := PS.conv (ps_if hc ha hb) fun D σ H h => by
  obtain ⟨B, Z, cm, ρ, s, r, p⟩ := h
  refine ⟨B, Z, cm, ρ, s, r, tE_of (fun d s' e b H' cm' ex r' z => ?_) (fun c ds s' e cls dx H' cm' ex r' z => ?_) (fun e => ?_)⟩
  · unfold mIfS at p
    rw [e] at p
    cases z
    cases d with
    | true => rw [if_pos rfl]; exact ⟨B, Z, cm', ρ, s', r', p.later ex.pre⟩
    | false => rw [if_neg Bool.false_ne_true]; exact ⟨B, Z, cm', ρ, s', r', p.later ex.pre⟩
  · unfold mIfS at p
    rw [e] at p
    exact p cls dx σ H' cm' ex.pre r' z
  · unfold mIfS at p
    rw [e] at p
    exact p
theorem q_expr (he : QE X T W e m) (hs : swapsWith e none pos.line X.env = pure false := by rfl) : QSt X T W (.Expr e pos) (mDrop m) := PS.conv (ps_expr he hs) fun D σ H h =>
  mE_of (A := AR X.K T) h fun B Z cm0 s0 cm H' ρ d s v pre r0 r z p => p σ H' cm (.refl _) r
theorem q_doc {x j p1} : QSt X T W (.Expr (.Constant (.str x) j p1) pos) mNext := PS.conv ps_doc fun D σ H h => by
  obtain ⟨B, Z, cm, ρ, s, r, p⟩ := h
  exact p σ H cm (.refl _) r
theorem q_ret (he : QE X T W e m) : QSt X T W (.Return (some e) pos) (mRet m) := PS.conv (ps_ret he) fun D σ H h =>
  mE_of (A := AR X.K T) h fun B Z cm0 s0 cm H' ρ d s v pre r0 r z p => p v σ H' cm ρ (.refl _) r z
theorem q_retN : QSt X T W (.Return none pos) mRetN := PS.conv ps_retN fun D σ H h => by
  obtain ⟨B, Z, cm, ρ, s, r, p⟩ := h
  exact p .non σ H cm ρ (.refl _) r .non
theorem q_set {i : Nat} {x : Str} {pos' : Pos} (hN : X.N.Nodup) (hi : X.N[i]? = some x := by rfl) (hx : Loc X.env.scope x := by first | exact Or.inl rfl | exact Or.inr rfl) (he : QE X T W e m) (hs : swapsWith e (some (.Name x pos')) pos.line X.env = pure false := by rfl) (hf : X.fn x = true ∨ X.env.scope.names.lookup x = some .local := by first | exact .inl rfl | exact .inr rfl | assumption) :
    QSt X T W (.Assign [.Name x pos'] e pos) (mSet i m) := PS.conv (ps_set hN hi hx he hs hf) fun D σ H h =>
  mE_of (A := AR X.K T) h fun B Z cm0 s0 cm H' ρ d s v pre r0 r z p => p (σ.set i (some v)) H' cm (.refl _) (Rel.set r z)
theorem q_setO {i : Nat} {x : Str} {pos' : Pos} (hN : X.N.Nodup) (hi : X.N[i]? = some x := by rfl) (hx : Loc X.env.scope x := by first | exact Or.inl rfl | exact Or.inr rfl) (he : QF X T W e m) (hs : swapsWith e (some (.Name x pos')) pos.line X.env = pure false := by rfl) (hf : X.fn x = true ∨ X.env.scope.names.lookup x = some .local := by first | exact .inl rfl | exact .inr rfl | assumption) :
    QSt X T W (.Assign [.Name x pos'] e pos) (mSetO i m) := PS.conv (ps_set hN hi hx he hs hf) fun D σ H h =>
  mE_of (A := AF X.K T) h fun B Z cm0 s0 cm H' ρ d s v pre r0 r z p => by
    split at p
    · rename_i hl
      exact p (σ.set i (some v)) H' cm (.refl _) (Rel.setOwn r0 hl z)
    · exact p.elim

/-! ### while -/
def loopW (c : TM) (b : SM) : Nat → SM
  | 0 => fun _ _ => .no
  | n + 1 => fun ρ s => match c ρ s with
    | .ok true s1 => match b ρ s1 with
      | .nx ρ' s' => loopW c b n ρ' s'
      | .ct ρ' s' => loopW c b n ρ' s'
      | .bk ρ' s' => .nx ρ' s'
      | .rt d s' => .rt d s'
      | .er k ds ρ' s' => .er k ds ρ' s'
      | .no => .no
    | .ok false s1 => .nx ρ s1
    | .er k ds s1 => .er k ds ρ s1
    | .no => .no
def mWhile (fuel : List SD → S → Nat) (c : TM) (b : SM) : SM := fun ρ s => loopW c b (fuel ρ s) ρ s
theorem q_while {fuel : List SD → S → Nat} {body : List Stmt} (hp : PassesOwn (model X.prog X.w) X.A X.env X.xe) (hc : QT X T W c tc) (hb : QSs X T W body b) : QSt X T W (.While c body [] pos) (mWhile fuel tc b) := PS.conv (ps_while hp hc hb) fun D σ H h => by
  obtain ⟨B, Z, cm0, ρ, s, r, p⟩ := h
  refine ⟨fun n σ H => ∃ cm ρ s, Pre cm0 cm ∧ Rel X.K T B Z cm σ H ρ s ∧ PostS X.K T B Z cm W (loopW tc b n ρ s) D, ⟨fuel ρ s, cm0, ρ, s, .refl _, r, p⟩, ?_⟩
  rintro n σ H ⟨cm, ρ, s, pre, r, p⟩
  cases n with
  | zero => exact p.elim
  | succ n =>
    refine ⟨B, Z, cm, ρ, s, r, tE_of (fun d s' e bb H' cm' ex r' z => ?_) (fun c ds s' e cls dx H' cm' ex r' z => ?_) (fun e => ?_)⟩
    · unfold loopW at p
      rw [e] at p
      cases z
      cases d with
      | false =>
        rw [if_neg Bool.false_ne_true]
        exact p σ H' cm' ex.pre r'
      | true =>
        rw [if_pos rfl]
        dsimp only at p
        refine ⟨_, fun σ' H' q => ⟨n, Nat.lt_succ_self n, q⟩, B, Z, cm', ρ, s', r', ?_⟩
        cases eb : b ρ s' with
        | nx ρ2 s2 => rw [eb] at p; exact fun σ' H' c q r2 => ⟨c, ρ2, s2, pre.trans (ex.pre.trans q), r2, p.later (ex.pre.trans q)⟩
        | ct ρ2 s2 => rw [eb] at p; exact fun σ' H' c q r2 => ⟨c, ρ2, s2, pre.trans (ex.pre.trans q), r2, p.later (ex.pre.trans q)⟩
        | bk ρ2 s2 => rw [eb] at p; exact fun σ' H' c q r2 => p σ' H' c (ex.pre.trans q) r2
        | rt d2 s2 => rw [eb] at p; exact fun v σ' H' c ρ' q r2 z => p v σ' H' c ρ' (ex.pre.trans q) r2 z
        | er k2 ds2 ρ2 s2 => rw [eb] at p; exact fun cls dx σ' H' c q r2 z => p cls dx σ' H' c (ex.pre.trans q) r2 z
        | no => rw [eb] at p; exact p
    · unfold loopW at p
      rw [e] at p
      exact p cls dx σ H' cm' ex.pre r' z
    · unfold loopW at p
      rw [e] at p
      exact p
end
end Tv

/-! TvW: enumerate and zip over lists and tuples in any mix, as walks of the layer -/
namespace TvW
open PySem PySem.Spec PyProof.Rows L2

/-- b: a tuple | a list -/
def SqB (K : PySem.W.Frag) (b : Bool) (H : Hp) (a : Addr) (xs : List V) : Prop := match b with | true => SqT K H a xs | false => SqL K H a xs
def IterB (b : Bool) (h : Heap) (it a : Addr) (i : Nat) : Prop := match b with | true => h.IsTupleIter it a i | false => h.IsListIter it a i
def IsB (b : Bool) (h : Heap) (a : Addr) (its : Array Value) : Prop := match b with | true => h.IsTuple a its | false => h.IsList a its
def objB (b : Bool) (a : Addr) : Obj := match b with
  | true => { cls := .type "tuple_iterator", data := .fields #[.ref a, .int 0 0] }
  | false => { cls := .type "list_iterator", data := .fields #[.ref a, .int 0 0] }
theorem drawsB {prog : Program} {w : World} {A : Around} (hh : A.handled = none) (b : Bool) (it l : Addr) (hne : l ≠ it) (items : Array Value) :
    Draws prog w A it [it, l] items.size (fun i v => items[i]? = some v) (fun i h => IterB b h it l i ∧ IsB b h l items) := by
  cases b with
  | true => exact Draws.tuple hh it l hne items
  | false => exact Draws.list hh it l hne items
theorem beginsB (b : Bool) (a : Addr) (items : Array Value) : Begins (.ref a) (objB b a) (fun h => IsB b h a items) := by
  cases b with
  | true => exact begins_tuple a items
  | false => exact begins_list a items
theorem IterB.new {b : Bool} {h : Heap} {it a : Addr} (e : h.get? it = some (objB b a)) : IterB b h it a 0 := by
  cases b with
  | true => exact ⟨_, e, rfl, rfl⟩
  | false => exact ⟨_, e, rfl, rfl⟩
theorem IterB.obj {b : Bool} {h : Heap} {it a : Addr} {i : Nat} (e : IterB b h it a i) : ∃ o vs T, h.get? it = some o ∧ o.data = .fields vs ∧ o.cls = .type T ∧ T ≠ "list" ∧ T ≠ "tuple" := by
  cases b with
  | true =>
    obtain ⟨o, h1, h2, h3⟩ := e
    exact ⟨o, _, _, h1, h3, h2, by decide, by decide⟩
  | false =>
    obtain ⟨o, h1, h2, h3⟩ := e
    exact ⟨o, _, _, h1, h3, h2, by decide, by decide⟩
theorem IterB.keep {b : Bool} {h h' : Heap} {it a : Addr} {i : Nat} (e : IterB b h it a i) (k : ∀ o, h.get? it = some o → h'.get? it = some o) : IterB b h' it a i := by
  cases b with
  | true =>
    obtain ⟨o, h1, h2, h3⟩ := e
    exact ⟨o, k _ h1, h2, h3⟩
  | false =>
    obtain ⟨o, h1, h2, h3⟩ := e
    exact ⟨o, k _ h1, h2, h3⟩
theorem IsB.obj {b : Bool} {h : Heap} {a : Addr} {its : Array Value} (e : IsB b h a its) : ∃ o n, h.get? a = some o ∧ o.data = .seq its n := by
  cases b with
  | true =>
    obtain ⟨o, h1, h2, n, h3⟩ := e
    exact ⟨o, n, h1, h3⟩
  | false =>
    obtain ⟨o, h1, h2, n, h3⟩ := e
    exact ⟨o, n, h1, h3⟩
theorem ne_fs {h : Heap} {a b : Addr} {o o' : Obj} {vs : Array Value} {its : Array Value} {n : Nat} (h1 : h.get? a = some o) (d1 : o.data = .fields vs) (h2 : h.get? b = some o') (d2 : o'.data = .seq its n) : a ≠ b := fun e => by
  rw [e, h2] at h1
  cases h1
  rw [d2] at d1
  cases d1
section
variable {X : Cx} {pins : List (Addr × Obj)} {σ : L2.St} {H : Hp} {s : Shared}
theorem inv_B {b : Bool} {a : Addr} {xs : List V} (I : Inv X pins σ H s) (h : SqB X.K b H a xs) : ∃ its : List Value, Vals xs its ∧ IsB b s.heap a its.toArray ∧ xs.length = its.length := by
  cases b with
  | true =>
    obtain ⟨its, r, t, _⟩ := I.tuple h
    exact ⟨its, r, t, r.length⟩
  | false =>
    obtain ⟨its, r, t, _⟩ := I.list h
    exact ⟨its, r, t.isList, r.length⟩
theorem inv_B_inj {b : Bool} {a : Addr} {xs ys : List V} (I : Inv X pins σ H s) (h : SqB X.K b H a xs) (h' : SqB X.K b H a ys) : xs = ys := by
  cases b with
  | true => exact I.tuple_inj h h'
  | false => exact I.list_inj h h'
end

/-! ### enumerate -/
def IteB (K : PySem.W.Frag) (b : Bool) (a : Addr) : It :=
  ⟨fun i H => ∃ (xs : List V) (x : V), SqB K b H a xs ∧ xs[i]? = some x, fun i H v H' => ∃ T x, v = .ref T ∧ H T = none ∧ H' = upd H T (.tup [.int (i : Nat), x]) ∧ ∀ xs, SqB K b H a xs → xs[i]? = some x, fun i H => ∃ xs : List V, SqB K b H a xs ∧ xs.length = i⟩
theorem turn_enumB {P : Program} {w : World} {K : PySem.W.Frag} {elts : List Expr} {kk : Nat} {tpos : Pos} (b : Bool) (a e it : Addr) :
    Turn P w K (.Tuple elts kk tpos) (IteB K b a) [e, it] e (fun i h => (∃ old, IsEnum h e it ((i : Nat) : Int) old) ∧ IterB b h it a i ∧ e ≠ it) where
  mem := by simp
  obj := fun i h st c hc => by
    obtain ⟨⟨old, he⟩, hi, _⟩ := st
    obtain ⟨o, vs, T, h1, h2, h3⟩ := hi.obj
    have e' : c = e ∨ c = it := by simpa using hc
    rcases e' with z | z
    · rw [z]; exact ⟨_, he, fun v q => nomatch q⟩
    · rw [z]; exact ⟨o, h1, fun v q => by rw [h2] at q; cases q⟩
  keep := fun i h h' st k => let ⟨⟨old, he⟩, hi, hne⟩ := st; ⟨⟨old, k e (by simp) _ he⟩, hi.keep fun o q => k it (by simp) o q, hne⟩
  item := by
    intro X hP hw hK hc i pins s σ H E I hf st hg
    subst hP hw hK
    obtain ⟨⟨old, he⟩, hit, hne⟩ := st
    obtain ⟨xs, x, hq, hx⟩ := hg
    obtain ⟨its, rv, p, hlen⟩ := inv_B I hq
    obtain ⟨u, hu, ru⟩ := rv.get hx
    obtain ⟨ol, nl, gl, dl⟩ := p.obj
    obtain ⟨oi, vsi, Ti, gi, di, _⟩ := hit.obj
    have hal : a ≠ it := (ne_fs gi di gl dl).symm
    have hea : e ≠ a := ne_fs he rfl gl dl
    have hh : X.A.in1.handled = none := I.ok.hd hc
    have W := WalksT.enumerateD (drawsB (prog := X.prog) (w := X.w) hh b it a hal its.toArray) e hne (by simp [hne, hea]) (by simp)
    have hi : i < its.toArray.size := by
      rw [List.size_toArray, ← hlen]
      exact (List.getElem?_eq_some_iff.mp hx).1
    refine W.item i s _ _ hi ⟨⟨old, he⟩, hit, p⟩ fun T vals h' tk hP hT hTup hMid hk => ?_
    refine ⟨_, rfl, W.go elts kk tpos i T _ _ _ hMid fun h'' hSt hk2 => ?_⟩
    obtain ⟨t, x', hx', ev⟩ := hP
    have exx : x' = u := by
      have h2 : its.toArray[i]? = some u := by simpa using hu
      rw [h2] at hx'
      exact (Option.some.inj hx').symm
    subst exx
    have ap := W.apart i T h' hMid
    obtain ⟨oT, gT, cT, nT, dT⟩ := hTup
    have gT2 := hk2 T oT ap gT
    have keepAll : ∀ c o, c ∉ [e, it] → s.heap.get? c = some o → h''.get? c = some o := fun c o hc q => hk2 c o hc (hk c o hc q)
    have new : ObjOk X.prog X.w (upd H T (.tup [.int (i : Nat), x])) h'' T (.tup [.int (i : Nat), x]) :=
      ⟨by show 2 ≤ sizeLine; decide, [.int i t, x'], .cons ⟨_, rfl⟩ (.cons ru .nil), ⟨oT, gT2, cT, nT, by rw [dT, ev]⟩⟩
    have I1 : Inv X pins σ (upd H T (.tup [.int (i : Nat), x])) { s with heap := h'', toks := tk } := I.turnedNew (ch := [e, it]) keepAll hf hT new
    obtain ⟨⟨old', he'⟩, hit', _⟩ := hSt
    refine ⟨.ref T, _, I1, rfl, ⟨T, x, rfl, I.hok.fresh hT, rfl, fun ys hy => by rw [inv_B_inj I hy hq]; exact hx⟩, ⟨⟨old', he'⟩, hit', hne⟩, fun c hcm => ?_⟩
    have hcl : c < s.heap.objs.size := by
      have e' : c = e ∨ c = it := by simpa using hcm
      rcases e' with z | z
      · rw [z]; exact Heap.lt_size he
      · rw [z]; exact Heap.lt_size gi
    rw [upd_ne (Nat.ne_of_lt (Nat.lt_of_lt_of_le hcl hT))]
    exact (hf c hcm).1
  done := by
    intro X hP hw hK hc i pins s σ H E I hf st hg
    subst hP hw hK
    obtain ⟨⟨old, he⟩, hit, hne⟩ := st
    obtain ⟨xs, hq, hx⟩ := hg
    obtain ⟨its, rv, p, hlen⟩ := inv_B I hq
    obtain ⟨ol, nl, gl, dl⟩ := p.obj
    obtain ⟨oi, vsi, Ti, gi, di, _⟩ := hit.obj
    have hal : a ≠ it := (ne_fs gi di gl dl).symm
    have hea : e ≠ a := ne_fs he rfl gl dl
    have hh : X.A.in1.handled = none := I.ok.hd hc
    have W := WalksT.enumerateD (drawsB (prog := X.prog) (w := X.w) hh b it a hal its.toArray) e hne (by simp [hne, hea]) (by simp)
    have hi : its.toArray.size = i := by
      rw [List.size_toArray, ← hlen]
      exact hx
    subst hi
    exact W.done s _ _ ⟨⟨old, he⟩, hit, p⟩ fun h' tk hk => ⟨rfl, I.turnedL (ch := [e, it]) hk hf⟩
  self := fun A i s Q E st h => let ⟨⟨_, he⟩, _⟩ := st; wpAny_pyIter_enum he h

theorem meets_enumerate_new1 {v : Value} {o : Obj} {H : Heap → Prop} (B : Begins v o H) :
    Meets (Builtin.«enumerate.__new__» ⟨[.type "enumerate", v], []⟩) (fun _ R s => H s.heap ∧
      R (.ok (.ret (.ref (s.heap.push o).objs.size))) { s with heap := (s.heap.push o).push { cls := .type "enumerate", data := .fields #[.none, .bool false, .ref s.heap.objs.size, rawInt 0, .none, .none] } }) :=
  .of_wp fun prog w A R s h => by
    obtain ⟨hp, g, d, tk, os⟩ := s; obtain ⟨h1, h⟩ := h
    have hsub := sub_enumerate
    have q1 : ∀ {A' : Around} {E : Value → Shared → Prop} {Q : Value → Shared → Prop}, Q (.ref hp.objs.size) ⟨hp.push o, g, d, tk, os⟩ → wpAny (model prog w) A' (pyIter v) Q E ⟨hp, g, d, tk, os⟩ :=
      fun q => B.iter prog w _ _ ⟨hp, g, d, tk, os⟩ _ h1 q
    wp_walk using q1
    refine wpAny_stack_any fun st => wpAny_pure ?_
    split
    · rename_i c _ _ _ _ _
      cases (c == Value.type "enumerate")
      · wp_walk using q1
        exact ⟨_, rfl, h⟩
      · wp_walk using q1
        exact ⟨_, rfl, h⟩
    · wp_walk using q1
      exact ⟨_, rfl, h⟩
section
variable {prog : Program} {w : World} {A : Around} {E : Value → Shared → Prop} {s : Shared}
theorem enum_begins1 {v : Value} {o : Obj} {H : Heap → Prop} {Q : Value → Shared → Prop} (B : Begins v o H) (h1 : H s.heap)
    (h : ∀ h', IsEnum h' (s.heap.objs.size + 1) s.heap.objs.size 0 .none → h'.get? s.heap.objs.size = some o → h'.objs.size = s.heap.objs.size + 2 →
      (∀ b o, s.heap.get? b = some o → h'.get? b = some o) → Q (.ref (s.heap.objs.size + 1)) { s with heap := h' }) :
    wpAny (model prog w) A (call (.type "enumerate") [v]) Q E s := by
  refine callType_new F.called_enumerate (by decide) (F.typeCall_enumerate_1 _) (F.newCall_enumerate_1 _) (fun obj => F.args_object_init_2 obj _) F.entry_enumerate_new
    (meets_enumerate_new1 B) ⟨h1, ?_⟩
  have hz : (s.heap.push o).objs.size = s.heap.objs.size + 1 := Heap.size_push ..
  show _ ∧ _
  rw [hz]
  have he : IsEnum ((s.heap.push o).push { cls := .type "enumerate", data := .fields #[.none, .bool false, .ref s.heap.objs.size, rawInt 0, .none, .none] }) (s.heap.objs.size + 1) s.heap.objs.size 0 .none := by
    have := Heap.get?_push_size (s.heap.push o) (o := { cls := .type "enumerate", data := .fields #[.none, .bool false, .ref s.heap.objs.size, rawInt 0, .none, .none] }) rfl
    rw [hz] at this; exact this
  refine ⟨⟨_, he, rfl⟩, h _ he (Heap.get?_push_of_some _ (Heap.get?_push_size _ B.free)) (by rw [Heap.size_push, hz]) fun b o x => Heap.get?_push_of_some _ (Heap.get?_push_of_some _ x)⟩
end
def iEnumB (K : PySem.W.Frag) (ta : TA) : TI := fun σ H R => ta σ H fun vs H1 => ∃ a b xs, vs = [.ref a] ∧ SqB K b H1 a xs ∧ R (IteB K b a) H1
theorem pi_enumB {X : Cx} {e : Expr} {ta : TA} {p pos tpos : Pos} {elts : List Expr} {kk : Nat} (hg : Gl X "enumerate") (hm : X.mg "enumerate" = none) (ha : PA X [e] ta) (hs : starEach [e] X.env = [(false, eval e X.env)] := by rfl) :
    PI X (.Tuple elts kk tpos) (.Call (.Name "enumerate" p) [e] [] pos) (iEnumB X.K ta) := by
  refine ⟨fun pins s σ H R I h => ?_⟩
  refine Call_ (ld_blt I hg hm boot_enumerate (PyProof.Rows.callWith_type1 (thn (ha.run pos pins s σ H _ I h) fun us s1 ⟨vs, H1, I1, r1, q1⟩ => ?_) hs rfl))
  obtain ⟨a, b, xs, ex, hq, q⟩ := q1
  subst ex
  cases r1 with
  | cons r rr =>
    cases rr
    cases r
    obtain ⟨its, rv, p', hz⟩ := inv_B I1 hq
    refine enum_begins1 (beginsB b a its.toArray) p' fun h' he hit hsz hk => wpAny_pyIter_enum he ?_
    have I2 : Inv X pins σ H1 { s1 with heap := h' } := I1.kept (t' := s1.toks) hk
    refine ⟨s1.heap.objs.size + 1, [s1.heap.objs.size + 1, s1.heap.objs.size], _, _, H1, rfl, I2, turn_enumB b a (s1.heap.objs.size + 1) s1.heap.objs.size, ⟨⟨.none, he⟩, IterB.new hit, Nat.succ_ne_self _⟩, fun b hb => ?_, q⟩
    have e' : b = s1.heap.objs.size + 1 ∨ b = s1.heap.objs.size := by simpa using hb
    have hle : s1.heap.objs.size ≤ b := by
      rcases e' with z | z
      · rw [z]; exact Nat.le_add_right _ _
      · rw [z]; exact Nat.le_refl _
    exact I1.fpOk hle (I1.hok.fresh hle)
theorem walk_enumB {K : PySem.W.Frag} {b : Bool} {a : Addr} {xs : List V} : Walk (IteB K b a) xs.length (fun H => SqB K b H a xs) (YPair (fun i => some (.int (i : Nat))) (fun i => xs[i]?)) :=
  ⟨fun i H hi h => ⟨xs, xs[i], h, List.getElem?_eq_getElem hi⟩, fun H h => ⟨xs, h, rfl⟩, fun i H x H' hi h y => by
    obtain ⟨T, v, e1, e2, e3, e4⟩ := y
    exact ⟨T, _, v, e1, e2, e3, rfl, e4 xs h⟩⟩

/-! ### zip -/
def ItzB (K : PySem.W.Frag) (b1 b2 : Bool) (a1 a2 : Addr) : It :=
  ⟨fun i H => ∃ (xs ys : List V) (x y : V), SqB K b1 H a1 xs ∧ SqB K b2 H a2 ys ∧ xs[i]? = some x ∧ ys[i]? = some y,
    fun i H v H' => ∃ T x y, v = .ref T ∧ H T = none ∧ H' = upd H T (.tup [x, y]) ∧ (∀ xs, SqB K b1 H a1 xs → xs[i]? = some x) ∧ ∀ ys, SqB K b2 H a2 ys → ys[i]? = some y,
    fun i H => ∃ xs ys : List V, SqB K b1 H a1 xs ∧ SqB K b2 H a2 ys ∧ i = min xs.length ys.length⟩
structure Ap (z TI TO i1 i2 : Addr) : Prop where
  TIz : TI ≠ z
  TOz : TO ≠ z
  TITO : TI ≠ TO
  TIi1 : TI ≠ i1
  zi1 : z ≠ i1
  Ti1 : TO ≠ i1
  TIi2 : TI ≠ i2
  zi2 : z ≠ i2
  Ti2 : TO ≠ i2
  ii : i1 ≠ i2
theorem zipFacts {X : Cx} {pins : List (Addr × Obj)} {H : Hp} {s : Shared} {b1 b2 : Bool} {a1 a2 z TI TO i1 i2 : Addr} {i : Nat} {its1 its2 : List Value} (D : Ap z TI TO i1 i2) (hf : ∀ c ∈ [z, TI, TO, i1, i2], FpOk X pins H c) (hh : X.A.in1.handled = none)
    (hz : IsZip s.heap z TI TO .none) (h1 : IterB b1 s.heap i1 a1 i) (h2 : IterB b2 s.heap i2 a2 i) (p1 : IsB b1 s.heap a1 its1.toArray) (p2 : IsB b2 s.heap a2 its2.toArray) (nTO1 : TO ≠ a1) (nTO2 : TO ≠ a2) :
    WalksT X.prog X.w X.A z (z :: TI :: TO :: ([i1, a1] ++ [i2, a2])) [z, TO, i1, i2] (min its1.toArray.size its2.toArray.size)
      (fun i vals => ∃ x1 x2, its1.toArray[i]? = some x1 ∧ its2.toArray[i]? = some x2 ∧ vals = #[x1, x2])
      (fun i h => IsZip h z TI TO .none ∧ IsTupOf2 h TI (.ref i1) (.ref i2) ∧ (∃ a1 a2, IsTupOf2 h TO a1 a2) ∧ (IterB b1 h i1 a1 i ∧ IsB b1 h a1 its1.toArray) ∧ (IterB b2 h i2 a2 i ∧ IsB b2 h a2 its2.toArray))
      (fun i T h => IsZip h z TI TO (rawInt T) ∧ IsTupOf2 h TI (.ref i1) (.ref i2) ∧ (∃ a1 a2, IsTupOf2 h TO a1 a2) ∧ (IterB b1 h i1 a1 (i + 1) ∧ IsB b1 h a1 its1.toArray) ∧ (IterB b2 h i2 a2 (i + 1) ∧ IsB b2 h a2 its2.toArray) ∧ T ≠ z ∧ T ≠ TO ∧ T ≠ i1 ∧ T ≠ i2) := by
  obtain ⟨o1, n1, g1, d1⟩ := p1.obj
  obtain ⟨o2, n2, g2, d2⟩ := p2.obj
  obtain ⟨oi, vsi, Ti, gi, di, _⟩ := h1.obj
  obtain ⟨oj, vsj, Tj, gj, dj, _⟩ := h2.obj
  have n11 : i1 ≠ a1 := ne_fs gi di g1 d1
  have n12 : i1 ≠ a2 := ne_fs gi di g2 d2
  have n21 : i2 ≠ a1 := ne_fs gj dj g1 d1
  have n22 : i2 ≠ a2 := ne_fs gj dj g2 d2
  have nz1 : z ≠ a1 := ne_fs hz rfl g1 d1
  have nz2 : z ≠ a2 := ne_fs hz rfl g2 d2
  exact WalksT.zipD2 ⟨D.TIz, D.TOz, D.TITO, D.TIi1, by simp, by simp [D.zi1, nz1], by simp [D.Ti1, nTO1], D.TIi2, by simp, by simp [D.zi2, nz2], by simp [D.Ti2, nTO2], by simp [D.ii, n12], by simp [D.ii.symm, n21]⟩
    (drawsB hh b1 i1 a1 n11.symm its1.toArray) (drawsB hh b2 i2 a2 n22.symm its2.toArray)
/-- a new address of ours is none of the walked ones -/
theorem fp_ne {X : Cx} {pins : List (Addr × Obj)} {σ : L2.St} {H : Hp} {s : Shared} {b : Bool} {a c : Addr} {xs : List V} (I : Inv X pins σ H s) (hf : FpOk X pins H c) (hq : SqB X.K b H a xs) (hx : ∀ o, X.K.lookup c ≠ some o) : c ≠ a := fun e => by
  subst e
  cases b with
  | true =>
    rcases hq with (h | ⟨o, h⟩) | ⟨o, its, n, h, _⟩
    · rw [hf.1] at h; cases h
    · rw [hf.1] at h; cases h
    · exact hx o h
  | false =>
    rcases hq with (h | ⟨o, h⟩) | ⟨o, its, n, h, _⟩
    · rw [hf.1] at h; cases h
    · rw [hf.1] at h; cases h
    · exact hx o h
theorem fp_noK {X : Cx} {pins : List (Addr × Obj)} {σ : L2.St} {H : Hp} {s : Shared} {c : Addr} (I : Inv X pins σ H s) (hf : FpOk X pins H c) : ∀ o, X.K.lookup c ≠ some o := fun o e => by
  have hb := I.ok.mod.kin c o e
  rcases hf.2.2.2.1 with z | z
  · exact I.ok.noex c o hb z
  · exact absurd (Nat.lt_of_lt_of_le (Heap.lt_size hb) (Nat.le_trans I.ok.bsz z)) (Nat.lt_irrefl _)
theorem turn_zipB {P : Program} {w : World} {K : PySem.W.Frag} {elts : List Expr} {kk : Nat} {tpos : Pos} (b1 b2 : Bool) {a1 a2 z TI TO i1 i2 : Addr} (D : Ap z TI TO i1 i2) :
    Turn P w K (.Tuple elts kk tpos) (ItzB K b1 b2 a1 a2) [z, TI, TO, i1, i2] z (fun i h => IsZip h z TI TO .none ∧ IsTupOf2 h TI (.ref i1) (.ref i2) ∧ (∃ x y, IsTupOf2 h TO x y) ∧ IterB b1 h i1 a1 i ∧ IterB b2 h i2 a2 i) where
  mem := by simp
  obj := fun i h st c hc => by
    obtain ⟨hz, hTI, ⟨x, y, hTO⟩, h1, h2⟩ := st
    obtain ⟨oi, vsi, Ti, gi, di, _⟩ := h1.obj
    obtain ⟨oj, vsj, Tj, gj, dj, _⟩ := h2.obj
    have e' : c = z ∨ c = TI ∨ c = TO ∨ c = i1 ∨ c = i2 := by simpa using hc
    rcases e' with q | q | q | q | q
    · rw [q]; exact ⟨_, hz, fun v q => nomatch q⟩
    · rw [q]; exact ⟨_, hTI, fun v q => nomatch q⟩
    · rw [q]; exact ⟨_, hTO, fun v q => nomatch q⟩
    · rw [q]; exact ⟨oi, gi, fun v q => by rw [di] at q; cases q⟩
    · rw [q]; exact ⟨oj, gj, fun v q => by rw [dj] at q; cases q⟩
  keep := fun i h h' st k => by
    obtain ⟨hz, hTI, ⟨x, y, hTO⟩, h1, h2⟩ := st
    exact ⟨k z (by simp) _ hz, k TI (by simp) _ hTI, ⟨x, y, k TO (by simp) _ hTO⟩, h1.keep fun o q => k i1 (by simp) o q, h2.keep fun o q => k i2 (by simp) o q⟩
  item := by
    intro X hP hw hK hc i pins s σ H E I hf st hg
    subst hP hw hK
    obtain ⟨hz, hTI, ⟨x0, y0, hTO⟩, h1, h2⟩ := st
    obtain ⟨xs, ys, x, y, hqx, hqy, hx, hy⟩ := hg
    obtain ⟨its1, rv1, p1, hl1⟩ := inv_B I hqx
    obtain ⟨its2, rv2, p2, hl2⟩ := inv_B I hqy
    obtain ⟨u1, hu1, ru1⟩ := rv1.get hx
    obtain ⟨u2, hu2, ru2⟩ := rv2.get hy
    have hh : X.A.in1.handled = none := I.ok.hd hc
    have fTO := hf TO (by simp)
    have W := zipFacts D hf hh hz h1 h2 p1 p2 (fp_ne I fTO hqx (fp_noK I fTO)) (fp_ne I fTO hqy (fp_noK I fTO))
    have hi : i < min its1.toArray.size its2.toArray.size := by
      rw [List.size_toArray, List.size_toArray, ← hl1, ← hl2]
      exact Nat.lt_min.mpr ⟨(List.getElem?_eq_some_iff.mp hx).1, (List.getElem?_eq_some_iff.mp hy).1⟩
    refine W.item i s _ _ hi ⟨hz, hTI, ⟨x0, y0, hTO⟩, ⟨h1, p1⟩, h2, p2⟩ fun T vals h' tk hP hT hTup hMid hk => ?_
    refine ⟨_, rfl, W.go elts kk tpos i T _ _ _ hMid fun h'' hSt hk2 => ?_⟩
    obtain ⟨v1, v2, hv1, hv2, ev⟩ := hP
    have e1 : v1 = u1 := by
      have h2 : its1.toArray[i]? = some u1 := by simpa using hu1
      rw [h2] at hv1
      exact (Option.some.inj hv1).symm
    have e2 : v2 = u2 := by
      have h2 : its2.toArray[i]? = some u2 := by simpa using hu2
      rw [h2] at hv2
      exact (Option.some.inj hv2).symm
    subst e1 e2
    have ap := W.apart i T h' hMid
    obtain ⟨oT, gT, cT, nT, dT⟩ := hTup
    have gT2 := hk2 T oT ap gT
    have sub : ∀ c, c ∉ [z, TI, TO, i1, i2] → c ∉ [z, TO, i1, i2] := fun c hc q => hc (by
      have e' : c = z ∨ c = TO ∨ c = i1 ∨ c = i2 := by simpa using q
      rcases e' with e | e | e | e <;> simp [e])
    have keepAll : ∀ c o, c ∉ [z, TI, TO, i1, i2] → s.heap.get? c = some o → h''.get? c = some o := fun c o hc q => hk2 c o (sub c hc) (hk c o (sub c hc) q)
    have new : ObjOk X.prog X.w (upd H T (.tup [x, y])) h'' T (.tup [x, y]) :=
      ⟨by show 2 ≤ sizeLine; decide, [v1, v2], .cons ru1 (.cons ru2 .nil), ⟨oT, gT2, cT, nT, by rw [dT, ev]⟩⟩
    have I1 : Inv X pins σ (upd H T (.tup [x, y])) { s with heap := h'', toks := tk } := I.turnedNew (ch := [z, TI, TO, i1, i2]) keepAll hf hT new
    obtain ⟨q1, q2, q3, ⟨q4, _⟩, q5, _⟩ := hSt
    refine ⟨.ref T, _, I1, rfl, ⟨T, x, y, rfl, I.hok.fresh hT, rfl, fun l hl => by rw [inv_B_inj I hl hqx]; exact hx, fun l hl => by rw [inv_B_inj I hl hqy]; exact hy⟩, ⟨q1, q2, q3, q4, q5⟩, fun c hcm => ?_⟩
    obtain ⟨oi, vsi, Ti, gi, di, _⟩ := h1.obj
    obtain ⟨oj, vsj, Tj, gj, dj, _⟩ := h2.obj
    have hcl : c < s.heap.objs.size := by
      have e' : c = z ∨ c = TI ∨ c = TO ∨ c = i1 ∨ c = i2 := by simpa using hcm
      rcases e' with q | q | q | q | q
      · rw [q]; exact Heap.lt_size hz
      · rw [q]; exact Heap.lt_size hTI
      · rw [q]; exact Heap.lt_size hTO
      · rw [q]; exact Heap.lt_size gi
      · rw [q]; exact Heap.lt_size gj
    rw [upd_ne (Nat.ne_of_lt (Nat.lt_of_lt_of_le hcl hT))]
    exact (hf c hcm).1
  done := by
    intro X hP hw hK hc i pins s σ H E I hf st hg
    subst hP hw hK
    obtain ⟨hz, hTI, ⟨x0, y0, hTO⟩, h1, h2⟩ := st
    obtain ⟨xs, ys, hqx, hqy, hx⟩ := hg
    obtain ⟨its1, rv1, p1, hl1⟩ := inv_B I hqx
    obtain ⟨its2, rv2, p2, hl2⟩ := inv_B I hqy
    have hh : X.A.in1.handled = none := I.ok.hd hc
    have fTO := hf TO (by simp)
    have W := zipFacts D hf hh hz h1 h2 p1 p2 (fp_ne I fTO hqx (fp_noK I fTO)) (fp_ne I fTO hqy (fp_noK I fTO))
    have hi : min its1.toArray.size its2.toArray.size = i := by
      rw [List.size_toArray, List.size_toArray, ← hl1, ← hl2]
      exact hx.symm
    subst hi
    refine W.done s _ _ ⟨hz, hTI, ⟨x0, y0, hTO⟩, ⟨h1, p1⟩, h2, p2⟩ fun h' tk hk => ⟨rfl, I.turnedL (ch := [z, TI, TO, i1, i2]) (fun c o hc q => hk c o (fun q' => hc ?_) q) hf⟩
    have e' : c = z ∨ c = TO ∨ c = i1 ∨ c = i2 := by simpa using q'
    rcases e' with e | e | e | e <;> simp [e]
  self := fun A i s Q E st h => wpAny_pyIter_zip st.1 h
def iZipB (K : PySem.W.Frag) (ta : TA) : TI := fun σ H R => ta σ H fun vs H1 => ∃ a1 a2 b1 b2 xs ys, vs = [.ref a1, .ref a2] ∧ SqB K b1 H1 a1 xs ∧ SqB K b2 H1 a2 ys ∧ R (ItzB K b1 b2 a1 a2) H1
theorem pi_zipB {X : Cx} {e e2 : Expr} {ta : TA} {p pos tpos : Pos} {elts : List Expr} {kk : Nat} (hg : Gl X "zip") (hm : X.mg "zip" = none) (ha : PA X [e, e2] ta)
    (hs : starEach [e, e2] X.env = (false, eval e X.env) :: starEach [e2] X.env := by rfl) (hpl : (backTo pos (starEach [e2] X.env)).any (·.1) = false := by rfl) :
    PI X (.Tuple elts kk tpos) (.Call (.Name "zip" p) [e, e2] [] pos) (iZipB X.K ta) := by
  refine ⟨fun pins s σ H R I h => ?_⟩
  refine Call_ (ld_blt I hg hm PyProof.Rows.boot_zip (PyProof.Rows.callWith_type1 (thn (ha.run pos pins s σ H _ I h) fun us s1 ⟨vs, H1, I1, r1, q1⟩ => ?_) hs hpl))
  obtain ⟨a1, a2, b1, b2, xs, ys, ex, hqx, hqy, q⟩ := q1
  subst ex
  cases r1 with
  | cons r rr =>
    cases rr with
    | cons r' rr =>
      cases rr
      cases r
      cases r'
      obtain ⟨its1, rv1, p1, hl1⟩ := inv_B I1 hqx
      obtain ⟨its2, rv2, p2, hl2⟩ := inv_B I1 hqy
      refine zip_begins2 (beginsB b1 a1 its1.toArray) (beginsB b2 a2 its2.toArray) p1 p2 fun h' hz hTI hTO h1 h2 hsz hk => wpAny_pyIter_zip hz ?_
      have I2 : Inv X pins σ H1 { s1 with heap := h' } := I1.kept (t' := s1.toks) hk
      have D : Ap (s1.heap.objs.size + 4) (s1.heap.objs.size + 2) (s1.heap.objs.size + 3) s1.heap.objs.size (s1.heap.objs.size + 1) := by
        generalize s1.heap.objs.size = n
        exact ⟨fun e => by have e : n + 2 = n + 4 := e; omega, fun e => by have e : n + 3 = n + 4 := e; omega, fun e => by have e : n + 2 = n + 3 := e; omega, fun e => by have e : n + 2 = n := e; omega, fun e => by have e : n + 4 = n := e; omega, fun e => by have e : n + 3 = n := e; omega, fun e => by have e : n + 2 = n + 1 := e; omega, fun e => by have e : n + 4 = n + 1 := e; omega, fun e => by have e : n + 3 = n + 1 := e; omega, fun e => by have e : n = n + 1 := e; omega⟩
      refine ⟨s1.heap.objs.size + 4, [s1.heap.objs.size + 4, s1.heap.objs.size + 2, s1.heap.objs.size + 3, s1.heap.objs.size, s1.heap.objs.size + 1], _, _, H1, rfl, I2, turn_zipB b1 b2 D, ⟨hz, hTI, ⟨_, _, hTO⟩, IterB.new h1, IterB.new h2⟩, fun c hcm => ?_, q⟩
      have e' : c = s1.heap.objs.size + 4 ∨ c = s1.heap.objs.size + 2 ∨ c = s1.heap.objs.size + 3 ∨ c = s1.heap.objs.size ∨ c = s1.heap.objs.size + 1 := by simpa using hcm
      have hle : s1.heap.objs.size ≤ c := by
        rcases e' with z | z | z | z | z
        · rw [z]; exact Nat.le_add_right _ _
        · rw [z]; exact Nat.le_add_right _ _
        · rw [z]; exact Nat.le_add_right _ _
        · rw [z]; exact Nat.le_refl _
        · rw [z]; exact Nat.le_add_right _ _
      exact I1.fpOk hle (I1.hok.fresh hle)
theorem walk_zipB {K : PySem.W.Frag} {b1 b2 : Bool} {a1 a2 : Addr} {xs ys : List V} {n : Nat} (hn : n = min xs.length ys.length) : Walk (ItzB K b1 b2 a1 a2) n (fun H => SqB K b1 H a1 xs ∧ SqB K b2 H a2 ys) (YPair (fun i => xs[i]?) (fun i => ys[i]?)) :=
  ⟨fun i H hi h => by
    subst hn
    have h1 := (Nat.lt_min.mp hi).1
    have h2 := (Nat.lt_min.mp hi).2
    exact ⟨xs, ys, xs[i], ys[i], h.1, h.2, List.getElem?_eq_getElem h1, List.getElem?_eq_getElem h2⟩, fun H h => ⟨xs, ys, h.1, h.2, hn⟩, fun i H x H' hi h y => by
    obtain ⟨T, v, w, e1, e2, e3, e4, e5⟩ := y
    exact ⟨T, v, w, e1, e2, e3, e4 xs h.1, e5 ys h.2⟩⟩
end TvW

/-! Tv8: targets, what is walked, for, comprehensions -/
namespace Tv
open PySem PySem.Spec PyProof.Rows L2

/-! ### targets -/
def Off (vs : List Nat) (σ σ' : L2.St) : Prop := σ'.length = σ.length ∧ ∀ j, j ∉ vs → σ'[j]? = σ[j]?
theorem wipe_get {σ : L2.St} {i : Nat} : ∀ {vs : List Nat}, (wipe σ vs)[i]? = if i ∈ vs ∧ i < σ.length then some none else σ[i]?
  | [] => by simp [wipe]
  | v :: vs => by
    unfold wipe
    by_cases e : v = i
    · subst e
      by_cases hl : v < σ.length
      · rw [List.getElem?_set_self (by rw [wipe_length]; exact hl), if_pos ⟨List.mem_cons_self, hl⟩]
      · rw [List.getElem?_eq_none (by rw [List.length_set, wipe_length]; omega), if_neg (fun z => hl z.2), List.getElem?_eq_none (by omega)]
    · rw [List.getElem?_set_ne e, wipe_get (vs := vs)]
      have h : (i ∈ v :: vs ∧ i < σ.length) ↔ (i ∈ vs ∧ i < σ.length) := by
        rw [List.mem_cons]
        exact ⟨fun z => ⟨z.1.resolve_left (Ne.symm e), z.2⟩, fun z => ⟨.inr z.1, z.2⟩⟩
      by_cases hc : i ∈ vs ∧ i < σ.length
      · rw [if_pos hc, if_pos (h.mpr hc)]
      · rw [if_neg hc, if_neg (fun z => hc (h.mp z))]
theorem Off.wipe {vs : List Nat} {σ σ' : L2.St} (h : Off vs σ σ') : wipe σ' vs = wipe σ vs := by
  apply List.ext_getElem?
  intro i
  rw [wipe_get, wipe_get, h.1]
  by_cases hi : i ∈ vs
  · by_cases hl : i < σ.length
    · rw [if_pos ⟨hi, hl⟩, if_pos ⟨hi, hl⟩]
    · rw [if_neg (fun z => hl z.2), if_neg (fun z => hl z.2), List.getElem?_eq_none (by rw [h.1]; omega), List.getElem?_eq_none (by omega)]
  · rw [if_neg (fun z => hi z.1), if_neg (fun z => hi z.1), h.2 i hi]
theorem Off.refl {vs : List Nat} {σ : L2.St} : Off vs σ σ := ⟨rfl, fun _ _ => rfl⟩
theorem Off.trans {vs : List Nat} {σ σ1 σ2 : L2.St} (a : Off vs σ σ1) (b : Off vs σ1 σ2) : Off vs σ σ2 := ⟨b.1.trans a.1, fun j h => (b.2 j h).trans (a.2 j h)⟩
theorem Off.mono {vs ws : List Nat} {σ σ1 : L2.St} (a : Off vs σ σ1) (h : ∀ j ∈ vs, j ∈ ws) : Off ws σ σ1 := ⟨a.1, fun j q => a.2 j fun z => q (h j z)⟩
theorem Off.set {i : Nat} {σ : L2.St} {v : Option V} : Off [i] σ (σ.set i v) := ⟨List.length_set .., fun j h => List.getElem?_set_ne fun e => h (by rw [e]; exact List.mem_cons_self)⟩

mutual
inductive Pt where
  | nm (i : Nat) | tp (ps : Pts)
inductive Pts where
  | nil | cons (p : Pt) (ps : Pts)
end
mutual
def Pt.run : Pt → D → List SD → Option (List SD)
  | .nm i => fun d ρ => some (ρ.set i (.v d))
  | .tp ps => fun d ρ => match d with | .tup ds => ps.run ds ρ | _ => none
def Pts.run : Pts → List D → List SD → Option (List SD)
  | .nil => fun ds ρ => match ds with | [] => some ρ | _ => none
  | .cons p q => fun ds ρ => match ds with
    | d :: r => match p.run d ρ with | some ρ' => q.run r ρ' | none => none
    | [] => none
end
mutual
def Pt.vs : Pt → List Nat
  | .nm i => [i]
  | .tp ps => ps.vs
def Pts.vs : Pts → List Nat
  | .nil => []
  | .cons p q => p.vs ++ q.vs
end
def Pts.len : Pts → Nat
  | .nil => 0
  | .cons _ q => q.len + 1
theorem Pts.run_len : ∀ (p : Pts) (ds : List D) (ρ ρ' : List SD), p.run ds ρ = some ρ' → ds.length = p.len
  | .nil, [], _, _, _ => rfl
  | .nil, _ :: _, _, _, h => by
    unfold Pts.run at h
    cases h
  | .cons p q, [], _, _, h => by
    unfold Pts.run at h
    cases h
  | .cons p q, d :: ds, ρ, ρ', h => by
    unfold Pts.run at h
    dsimp only at h
    split at h
    · rw [List.length_cons, Pts.run_len q ds _ _ h]
      rfl
    · cases h
/-- what a target leaves: the other slots, nothing owned that was not -/
structure PmOk (vs : List Nat) (ρ ρ' : List SD) : Prop where
  len : ρ'.length = ρ.length
  off : ∀ j, j ∉ vs → ρ'[j]? = ρ[j]?
  own : ∀ (j : Nat) (d : D), ρ'[j]? = some (.own d) → ρ[j]? = some (.own d)
theorem PmOk.trans {vs ws : List Nat} {a b c : List SD} (h : PmOk vs a b) (g : PmOk ws b c) : PmOk (vs ++ ws) a c :=
  ⟨g.len.trans h.len, fun j n => (g.off j fun z => n (List.mem_append_right _ z)).trans (h.off j fun z => n (List.mem_append_left _ z)), fun j d e => h.own j d (g.own j d e)⟩
mutual
theorem Pt.ok : ∀ (p : Pt) (d : D) (ρ ρ' : List SD), p.run d ρ = some ρ' → PmOk p.vs ρ ρ'
  | .nm i, d, ρ, ρ', h => by
    unfold Pt.run at h
    cases h
    refine ⟨List.length_set .., fun j n => List.getElem?_set_ne fun e => n (by rw [e]; unfold Pt.vs; exact List.mem_cons_self), fun j e h => ?_⟩
    by_cases q : i = j
    · subst q
      by_cases hl : i < ρ.length
      · rw [List.getElem?_set_self hl] at h; cases h
      · rw [List.getElem?_eq_none (by rw [List.length_set]; omega)] at h; cases h
    · rw [List.getElem?_set_ne q] at h
      exact h
  | .tp ps, d, ρ, ρ', h => by
    unfold Pt.run at h
    cases d with
    | tup ds =>
      have := Pts.ok ps ds ρ ρ' h
      unfold Pt.vs
      exact this
    | _ => cases h
theorem Pts.ok : ∀ (p : Pts) (ds : List D) (ρ ρ' : List SD), p.run ds ρ = some ρ' → PmOk p.vs ρ ρ'
  | .nil, [], ρ, ρ', h => by
    unfold Pts.run at h
    cases h
    exact ⟨rfl, fun _ _ => rfl, fun _ _ e => e⟩
  | .nil, _ :: _, _, _, h => by
    unfold Pts.run at h
    cases h
  | .cons p q, [], _, _, h => by
    unfold Pts.run at h
    cases h
  | .cons p q, d :: ds, ρ, ρ', h => by
    unfold Pts.run at h
    dsimp only at h
    split at h
    · rename_i ρ1 e
      have h1 := Pt.ok p d ρ ρ1 e
      have h2 := Pts.ok q ds ρ1 ρ' h
      unfold Pts.vs
      exact h1.trans h2
    · cases h
end
section
variable (K : PySem.W.Frag) (T : Tb)
def tG (pm : Pt) : TG := fun v σ H Q => ∃ B Z cm ρ s d ρ', Rel K T B Z cm σ H ρ s ∧ Rep K T cm (GV cm Z (Ow σ ρ) H) v d ∧ pm.run d ρ = some ρ' ∧
  ∀ σ', Rel K T B Z cm σ' H ρ' s → Sub (GV cm Z (Ow σ ρ) H) (GV cm Z (Ow σ' ρ') H) → Off pm.vs σ σ' → Q σ' H
def tGs (pm : Pts) : TGs := fun xs σ H Q => ∃ B Z cm ρ s ds ρ', Rel K T B Z cm σ H ρ s ∧ Reps K T cm (GV cm Z (Ow σ ρ) H) xs ds ∧ pm.run ds ρ = some ρ' ∧
  ∀ σ', Rel K T B Z cm σ' H ρ' s → Sub (GV cm Z (Ow σ ρ) H) (GV cm Z (Ow σ' ρ') H) → Off pm.vs σ σ' → Q σ' H
end
abbrev QG (X : Cx) (T : Tb) (e : Expr) (pm : Pt) : Prop := PG X e (tG X.K T pm)
abbrev QGs (X : Cx) (T : Tb) (es : List Expr) (pm : Pts) : Prop := PGs X es (tGs X.K T pm)
theorem _root_.L2.PG.conv {X : Cx} {e : Expr} {t t' : TG} (h : PG X e t) (c : ∀ v σ H Q, t' v σ H Q → t v σ H Q) : PG X e t' := ⟨fun pins s σ H v u Q I r w => h.run pins s σ H v u Q I r (c v σ H Q w)⟩
theorem _root_.L2.PGs.conv {X : Cx} {e : List Expr} {t t' : TGs} (h : PGs X e t) (c : ∀ v σ H Q, t' v σ H Q → t v σ H Q) : PGs X e t' := ⟨fun pins s σ H v u Q I r w => h.run pins s σ H v u Q I r (c v σ H Q w)⟩
theorem ow_shrink {σ : L2.St} {ρ : List SD} {i : Nat} {v : V} {d : D} {a : Addr} (h : Ow (σ.set i (some v)) (ρ.set i (.v d)) a) : Ow σ ρ a := by
  obtain ⟨j, e, h1, h2⟩ := h
  rcases set_get h1 with ⟨_, _, z⟩ | ⟨n, z⟩
  · cases z
  · rw [List.getElem?_set_ne (Ne.symm n)] at h2
    exact ⟨j, e, z, h2⟩
theorem sub_shrink {cm : List Addr} {Z O O' : Addr → Prop} {H : Hp} (h : ∀ a, O' a → O a) : Sub (GV cm Z O H) (GV cm Z O' H) := hid_sub fun a u n e => ⟨fun z => by
  rcases z with z | z | z
  · exact n (.inl z)
  · exact n (.inr (.inl z))
  · exact n (.inr (.inr (h a z))), e⟩
section
variable {X : Cx} {T : Tb} {e : Expr} {es : List Expr} {pm : Pt} {pms : Pts} {pos : Pos}
theorem qg_name {i : Nat} {x : Str} (hN : X.N.Nodup) (hi : X.N[i]? = some x := by rfl) (hx : Loc X.env.scope x := by first | exact Or.inl rfl | exact Or.inr rfl) (hf : X.fn x = true ∨ X.env.scope.names.lookup x = some .local := by first | exact .inl rfl | exact .inr rfl | assumption) : QG X T (.Name x pos) (.nm i) :=
  PG.conv (pg_name hN hi hx hf) fun v σ H Q h => by
    obtain ⟨B, Z, cm, ρ, s, d, ρ', r, q, e, k⟩ := h
    unfold Pt.run at e
    cases e
    exact k _ (r.set q) (sub_shrink fun a => ow_shrink) (by unfold Pt.vs; exact Off.set)
theorem qgs_nil : QGs X T [] .nil := PGs.conv pgs_nil fun v σ H Q h => by
  obtain ⟨B, Z, cm, ρ, s, ds, ρ', r, q, e, k⟩ := h
  cases q with
  | nil =>
    unfold Pts.run at e
    cases e
    exact ⟨rfl, k σ r (Sub.refl _) Off.refl⟩
  | cons q1 q2 =>
    unfold Pts.run at e
    cases e
theorem qgs_cons (h1 : QG X T e pm) (h2 : QGs X T es pms) (hs : (assignEach (e :: es) X.env).map (·.2) = assign e X.env :: (assignEach es X.env).map (·.2) := by rfl) : QGs X T (e :: es) (.cons pm pms) := PGs.conv (pgs_cons h1 h2 hs) fun v σ H Q h => by
  obtain ⟨B, Z, cm, ρ, s, ds, ρ', r, q, e, k⟩ := h
  cases q with
  | nil =>
    unfold Pts.run at e
    cases e
  | cons q1 q2 =>
    unfold Pts.run at e
    dsimp only at e
    split at e
    · rename_i ρ1 e1
      refine ⟨_, _, rfl, B, Z, cm, ρ, s, _, ρ1, r, q1, e1, fun σ1 r1 sub1 o1 => ⟨B, Z, cm, ρ1, s, _, ρ', r1, Reps.mono (.refl _) sub1 _ _ q2, e, fun σ2 r2 sub2 o2 => ?_⟩⟩
      unfold Pts.vs at k
      exact k σ2 r2 (sub1.trans sub2) ((o1.mono fun j z => List.mem_append_left _ z).trans (o2.mono fun j z => List.mem_append_right _ z))
    · cases e
theorem qg_tup {k : Nat} (hc : X.calm = true) (h : QGs X T es pms)
    (hn : (assignEach es X.env).length = pms.len := by rfl) (hst : (assignEach es X.env).findIdx? (·.1) = none := by rfl) : QG X T (.Tuple es k pos) (.tp pms) := PG.conv (pg_tup hc h hn hst) fun v σ H Q h => by
  obtain ⟨B, Z, cm, ρ, s, d, ρ', r, q, e, k⟩ := h
  unfold Pt.run at e
  cases q with
  | tup q1 q2 => exact ⟨_, _, rfl, Sub.hidH.seqT q1, by rw [q2.len]; exact pms.run_len _ _ _ e, B, Z, cm, ρ, s, _, ρ', r, q2, e, by unfold Pt.vs at k; exact k⟩
  | _ => cases e
end

/-! ### what is walked -/
/-- what was there is as in G, what is new as in H2 -/
def glue (G H1 H2 : Hp) : Hp := fun a => match H1 a with
  | some _ => G a
  | none => H2 a
def AW (K : PySem.W.Frag) (T : Tb) : AK (List D) It := fun F _ cm H _ J ds => ∃ (G : Hp → Prop) (Y : Nat → Hp → V → Hp → Prop), Walk J ds.length G Y ∧ (∀ H1, Sub (F.G cm H) H1 → G H1) ∧
  ∀ i H1 x H2, i < ds.length → Sub (F.G cm H) H1 → Y i H1 x H2 → Sub H1 H2 ∧ ∃ d, ds[i]? = some d ∧ Rep K T cm (glue (F.G cm H) H1 H2) x d
theorem up_AW {K : PySem.W.Frag} {T : Tb} : Up (AW K T) := fun _ _ _ _ _ _ _ _ _ h => h
abbrev QI (X : Cx) (T : Tb) (W : WX) (tg iter : Expr) (m : LM) : Prop := PI X tg iter (tP X.K T W (AW X.K T) m)
theorem _root_.L2.PI.conv {X : Cx} {tg e : Expr} {t t' : TI} (h : PI X tg e t) (c : ∀ σ H Q, t' σ H Q → t σ H Q) : PI X tg e t' := ⟨fun pins s σ H Q I w => h.run pins s σ H Q I (c σ H Q w)⟩
theorem glue_same {G H1 : Hp} (h : Sub G H1) : Sub G (glue G H1 H1) := fun a o e => by
  unfold glue
  rw [h a o e]
  exact e
/-- the walked list or tuple, a range, a text -/
def mSeqI (m : EM) : LM := fun ρ s => (m ρ s).bind fun x s1 => match x with
  | .tup ds => .ok ds s1
  | .lst ds => .ok ds s1
  | .frz ds => .ok ds s1
  | .str z => .ok (z.cps.toList.map fun c => .str ⟨#[c]⟩) s1
  | _ => .no
section
variable {X : Cx} {T : Tb} {W : WX} {tg e e2 : Expr} {es : List Expr} {m m2 : EM} {lm : LM} {pos p : Pos}
theorem walk_items {K : PySem.W.Frag} {cm : List Addr} {G : Hp} {xs : List V} {ds : List D} (h : Reps K T cm G xs ds) {i : Nat} {H1 : Hp} {x : V} {H2 : Hp} (hs : Sub G H1) (y : YAt xs i H1 x H2) : Sub H1 H2 ∧ ∃ d, ds[i]? = some d ∧ Rep K T cm (glue G H1 H2) x d := by
  obtain ⟨rfl, e⟩ := y
  obtain ⟨d, e1, e2⟩ := h.getV e
  exact ⟨Sub.refl _, d, e1, Rep.mono (.refl _) (glue_same hs) _ _ e2⟩
def iSeqA (K : PySem.W.Frag) (tl : TE) : TI := fun σ H R => tl σ H fun x H1 => (∃ a, x = .ref a ∧ (∃ xs, SqL K H1 a xs) ∧ R (Itl K a) H1) ∨ (∃ a, x = .ref a ∧ (∃ xs, SqT K H1 a xs) ∧ R (Itt K a) H1) ∨ ∃ z, x = .str z ∧ R (Its z) H1
theorem pi_seqA {tl : TE} (hl : PE X e tl) : PI X tg e (iSeqA X.K tl) := by
  refine ⟨fun pins s σ H R I h => ?_⟩
  refine thn (hl.run pins s σ H _ I h) fun v s1 ⟨x, H1, I1, r1, q1⟩ => ?_
  rcases q1 with ⟨a, ex, ⟨xs, hq⟩, q⟩ | ⟨a, ex, ⟨xs, hq⟩, q⟩ | ⟨z, ex, q⟩
  · subst ex
    cases r1
    obtain ⟨its, rv, p, hz⟩ := I1.list hq
    refine wpAny_pyIter_list p.isList ?_
    refine ⟨s1.heap.objs.size, [s1.heap.objs.size], _, _, H1, rfl, I1.kept (t' := s1.toks) fun b o e => Heap.get?_push_of_some _ e, turn_list a _, ⟨_, Heap.get?_push_size _ rfl, rfl, rfl⟩, fun b hb => ?_, q⟩
    have e : b = s1.heap.objs.size := by simpa using hb
    subst e
    exact I1.fpOk (Nat.le_refl _) (I1.hok.fresh (Nat.le_refl _))
  · subst ex
    cases r1
    obtain ⟨its, rv, p, hz⟩ := I1.tuple hq
    refine wpAny_pyIter_tuple (show s1.heap.IsTuple a its.toArray from p) ?_
    refine ⟨s1.heap.objs.size, [s1.heap.objs.size], _, _, H1, rfl, I1.kept (t' := s1.toks) fun b o e => Heap.get?_push_of_some _ e, turn_tuple a _, ⟨_, Heap.get?_push_size _ rfl, rfl, rfl⟩, fun b hb => ?_, q⟩
    have e : b = s1.heap.objs.size := by simpa using hb
    subst e
    exact I1.fpOk (Nat.le_refl _) (I1.hok.fresh (Nat.le_refl _))
  · subst ex
    obtain ⟨t, rfl⟩ := r1
    cases ha : z.cps.all (· < 128)
    · exact wpAny_pyIter_wide ha (pi_one (tk := s1.toks) I1 _ (turn_str _ z t "str_iterator" (.inr rfl)) ⟨_, Heap.get?_push_size _ rfl, rfl, rfl⟩ q)
    · exact wpAny_pyIter_ascii ha (pi_one (tk := s1.toks) I1 _ (turn_str _ z t "str_ascii_iterator" (.inl rfl)) ⟨_, Heap.get?_push_size _ rfl, rfl, rfl⟩ q)
theorem aw_items {K : PySem.W.Frag} {T : Tb} {F : Fm} {cm : List Addr} {H H0 : Hp} {s : S} {J : It} {xs : List V} {ds : List D} (G : Hp → Prop) (w : Walk J xs.length G (YAt xs)) (hG : ∀ H1, Sub (F.G cm H) H1 → G H1) (h : Reps K T cm (F.G cm H) xs ds) : AW K T F H0 cm H s J ds :=
  ⟨G, _, by rw [← h.len]; exact w, hG, fun i H1 x H2 hi sub y => walk_items h sub y⟩
theorem q_iSeq (h : QE X T W e m) : QI X T W tg e (mSeqI m) := PI.conv (pi_seqA h) fun σ H R h => by
  refine h.bind (AR X.K T) up_AW fun B Z cm ρ x H1 ⟨cm1, dx, s1, e1, r1, a1, p1⟩ => ?_
  cases dx with
  | tup ds =>
    cases a1 with
    | tup h1 h2 => exact .inr (.inl ⟨_, rfl, ⟨_, Sub.hidH.seqT h1⟩, p1.fin r1 (aw_items _ walk_tup (fun H1 sb => sb.seqT h1) h2)⟩)
  | lst ds =>
    cases a1 with
    | lst h1 h2 => exact .inl ⟨_, rfl, ⟨_, .of (Sub.hidH _ _ h1)⟩, p1.fin r1 (aw_items _ walk_list (fun H1 sb => .of (sb _ _ h1)) h2)⟩
  | frz ds =>
    cases a1 with
    | frz h1 h2 => exact .inl ⟨_, rfl, ⟨_, Sub.hidH.seqL h1⟩, p1.fin r1 (aw_items _ walk_list (fun H1 sb => sb.seqL h1) h2)⟩
  | str z =>
    cases a1
    refine .inr (.inr ⟨z, rfl, p1.fin r1 ⟨_, _, (by simpa using walk_str (z := z)), fun _ _ => trivial, fun i H1 x H2 hi sub y => ?_⟩⟩)
    obtain ⟨rfl, c, hc, rfl⟩ := y
    exact ⟨Sub.refl _, .str ⟨#[c]⟩, by rw [List.getElem?_map, Array.getElem?_toList, hc]; rfl, .str _⟩
  | _ => exact p1.elim
/-- range -/
def rngOk (i : Int) : Bool := decide (-(2 ^ 62) ≤ i ∧ i < 2 ^ 62)
def rngD (i : Int) (n : Nat) : List D := (List.range n).map fun k => .int (i + (k : Nat))
def mRng1 (lm : LM) : LM := fun ρ s => (lm ρ s).bind fun xs s1 => match xs with
  | [.int j] => if rngOk j then .ok (rngD 0 j.toNat) s1 else .no
  | _ => .no
def mRng2 (lm : LM) : LM := fun ρ s => (lm ρ s).bind fun xs s1 => match xs with
  | [.int i, .int j] => if rngOk i && rngOk j then .ok (rngD i (j - i).toNat) s1 else .no
  | _ => .no
theorem rngOk_of {i : Int} (h : rngOk i = true) : -(2 ^ 62) ≤ i ∧ i < 2 ^ 62 := of_decide_eq_true h
theorem aw_rng {K : PySem.W.Frag} {T : Tb} {F : Fm} {cm : List Addr} {H H0 : Hp} {s : S} {i : Int} {n : Nat} : AW K T F H0 cm H s (Itr i n) (rngD i n) :=
  ⟨_, _, by rw [show (rngD i n).length = n by unfold rngD; simp]; exact walk_range, fun _ _ => trivial, fun k H1 x H2 hk sub y => by
    obtain ⟨rfl, rfl⟩ := y
    refine ⟨Sub.refl _, .int (i + (k : Nat)), ?_, .int _⟩
    have hk' : k < n := by unfold rngD at hk; simpa using hk
    unfold rngD
    simp [hk']⟩
theorem ints1 {K : PySem.W.Frag} {T : Tb} {cm : List Addr} {G : Hp} {xs : List V} {j : Int} (h : Reps K T cm G xs [.int j]) : xs = [.int j] := by
  cases h with
  | cons a b =>
    cases a
    cases b
    rfl
theorem ints2 {K : PySem.W.Frag} {T : Tb} {cm : List Addr} {G : Hp} {xs : List V} {i j : Int} (h : Reps K T cm G xs [.int i, .int j]) : xs = [.int i, .int j] := by
  cases h with
  | cons a b =>
    cases a
    rw [ints1 b]
theorem q_iRng1 (hg : Gl X "range") (hm : X.mg "range" = none) (ha : QS X T W 1 [e] lm) (hs : starEach [e] X.env = [(false, eval e X.env)] := by rfl) : QI X T W tg (.Call (.Name "range" p) [e] [] pos) (mRng1 lm) := PI.conv (pi_range1 hg hm ha hs) fun σ H R h => by
  refine h.bind (ALn X.K T 1) up_AW fun B Z cm ρ x H1 ⟨cm1, dx, s1, e1, r1, a1, p1⟩ => ?_
  dsimp only at p1
  split at p1
  · split at p1
    · rename_i hj
      have b := rngOk_of hj
      exact ⟨_, ints1 a1.1, b.1, b.2, p1.fin r1 aw_rng⟩
    · exact p1.elim
  · exact p1.elim
theorem q_iRng2 (hg : Gl X "range") (hm : X.mg "range" = none) (ha : QS X T W 2 [e, e2] lm) (hs : starEach [e, e2] X.env = [(false, eval e X.env), (false, eval e2 X.env)] := by rfl) (hs2 : starEach [e2] X.env = [(false, eval e2 X.env)] := by rfl) : QI X T W tg (.Call (.Name "range" p) [e, e2] [] pos) (mRng2 lm) := PI.conv (pi_range2 hg hm ha hs hs2) fun σ H R h => by
  refine h.bind (ALn X.K T 2) up_AW fun B Z cm ρ x H1 ⟨cm1, dx, s1, e1, r1, a1, p1⟩ => ?_
  dsimp only at p1
  split at p1
  · split at p1
    · rename_i hj
      rw [Bool.and_eq_true] at hj
      have b := rngOk_of hj.1
      have b' := rngOk_of hj.2
      exact ⟨_, _, ints2 a1.1, ⟨b.1, b.2, b'.1, b'.2⟩, p1.fin r1 aw_rng⟩
    · exact p1.elim
  · exact p1.elim
/-- pairs -/
theorem glue_new {G H1 : Hp} {p : Addr} {o : HO} (h : H1 p = none) : glue G H1 (upd H1 p o) p = some o := by
  unfold glue
  rw [h]
  exact upd_same
theorem glue_sub {G H1 H2 : Hp} (h : Sub G H1) : Sub G (glue G H1 H2) := fun a o e => by
  unfold glue
  rw [h a o e]
  exact e
theorem aw_pairs {K : PySem.W.Frag} {T : Tb} {F : Fm} {cm : List Addr} {H H0 : Hp} {s : S} {J : It} {n : Nat} {fx fy : Nat → Option V} {ds : List D} (G : Hp → Prop) (w : Walk J n G (YPair fx fy)) (hn : ds.length = n) (hG : ∀ H1, Sub (F.G cm H) H1 → G H1)
    (h : ∀ i x y, fx i = some x → fy i = some y → ∃ dx dy, ds[i]? = some (.tup [dx, dy]) ∧ Rep K T cm (F.G cm H) x dx ∧ Rep K T cm (F.G cm H) y dy) : AW K T F H0 cm H s J ds :=
  ⟨G, _, by rw [hn]; exact w, hG, fun i H1 x H2 hi sub y => by
    obtain ⟨p, x, y, rfl, hp, rfl, ex, ey⟩ := y
    obtain ⟨dx, dy, e1, e2, e3⟩ := h i x y ex ey
    refine ⟨sub_upd hp, _, e1, .tup (.inl (.inl (glue_new hp))) (.cons (Rep.mono (.refl _) (glue_sub sub) _ _ e2) (.cons (Rep.mono (.refl _) (glue_sub sub) _ _ e3) .nil))⟩⟩
def seqV : D → Option (List D)
  | .tup ds => some ds | .lst ds => some ds | .frz ds => some ds | _ => none
theorem seqV_rep {K : PySem.W.Frag} {T : Tb} {cm : List Addr} {G : Hp} {v : V} {d : D} {ds : List D} (h : seqV d = some ds) (r : Rep K T cm G v d) : ∃ a b xs, v = .ref a ∧ TvW.SqB K b G a xs ∧ Reps K T cm G xs ds := by
  cases r with
  | tup h1 h2 => cases h; exact ⟨_, true, _, rfl, h1, h2⟩
  | lst h1 h2 => cases h; exact ⟨_, false, _, rfl, .of h1, h2⟩
  | frz h1 h2 => cases h; exact ⟨_, false, _, rfl, h1, h2⟩
  | _ => cases h
theorem Sub.sqB {K : PySem.W.Frag} {G G' : Hp} {a : Addr} {b : Bool} {xs : List V} (e : Sub G G') (h : TvW.SqB K b G a xs) : TvW.SqB K b G' a xs := by
  cases b with
  | true => exact e.seqT h
  | false => exact e.seqL h
def enumD (ds : List D) : List D := ds.mapIdx fun i d => .tup [.int i, d]
def mEnumI (lm : LM) : LM := fun ρ s => (lm ρ s).bind fun xs s1 => match xs with
  | [x] => match seqV x with | some ds => .ok (enumD ds) s1 | none => .no
  | _ => .no
def zipD (xs ys : List D) : List D := List.zipWith (fun a b => .tup [a, b]) xs ys
def mZipI (lm : LM) : LM := fun ρ s => (lm ρ s).bind fun xs s1 => match xs with
  | [x, y] => match seqV x, seqV y with | some ds, some es => .ok (zipD ds es) s1 | _, _ => .no
  | _ => .no
theorem q_iEnum {elts : List Expr} {kk : Nat} {tpos : Pos} (hg : Gl X "enumerate") (hm : X.mg "enumerate" = none) (ha : QS X T W 1 [e] lm) (hs : starEach [e] X.env = [(false, eval e X.env)] := by rfl) :
    QI X T W (.Tuple elts kk tpos) (.Call (.Name "enumerate" p) [e] [] pos) (mEnumI lm) := PI.conv (TvW.pi_enumB hg hm ha hs) fun σ H R h => by
  refine h.bind (ALn X.K T 1) up_AW fun B Z cm ρ x H1 ⟨cm1, dx, s1, e1, r1, a1, p1⟩ => ?_
  dsimp only at p1
  split at p1
  · split at p1
    · rename_i hx
      obtain ⟨a1, _⟩ := a1
      cases a1 with
      | cons a1 t =>
        cases t
        obtain ⟨a, b, xs, rfl, h1, h2⟩ := seqV_rep hx a1
        refine ⟨a, b, xs, rfl, Sub.hidH.sqB h1, p1.fin r1 (aw_pairs _ TvW.walk_enumB (by unfold enumD; rw [List.length_mapIdx, h2.len]) (fun H1 sb => sb.sqB h1) fun i x y ex ey => ?_)⟩
        cases ex
        obtain ⟨d, hd, rd⟩ := h2.getV ey
        exact ⟨.int i, d, by unfold enumD; rw [List.getElem?_mapIdx, hd]; rfl, .int _, rd⟩
    · exact p1.elim
  · exact p1.elim
theorem q_iZip {elts : List Expr} {kk : Nat} {tpos : Pos} (hg : Gl X "zip") (hm : X.mg "zip" = none) (ha : QS X T W 2 [e, e2] lm)
    (hs : starEach [e, e2] X.env = (false, eval e X.env) :: starEach [e2] X.env := by rfl) (hpl : (backTo pos (starEach [e2] X.env)).any (·.1) = false := by rfl) :
    QI X T W (.Tuple elts kk tpos) (.Call (.Name "zip" p) [e, e2] [] pos) (mZipI lm) := PI.conv (TvW.pi_zipB hg hm ha hs hpl) fun σ H R h => by
  refine h.bind (ALn X.K T 2) up_AW fun B Z cm ρ x H1 ⟨cm1, dx, s1, e1, r1, a1, p1⟩ => ?_
  dsimp only at p1
  split at p1
  · split at p1
    · rename_i hx hy
      obtain ⟨a1, _⟩ := a1
      cases a1 with
      | cons a1 t =>
        cases t with
        | cons a2 t =>
          cases t
          obtain ⟨a, b, xs, rfl, h1, h2⟩ := seqV_rep hx a1
          obtain ⟨a', b', ys, rfl, h1', h2'⟩ := seqV_rep hy a2
          refine ⟨a, a', b, b', xs, ys, rfl, Sub.hidH.sqB h1, Sub.hidH.sqB h1', p1.fin r1 (aw_pairs _ (TvW.walk_zipB rfl) (by unfold zipD; rw [List.length_zipWith, h2.len, h2'.len]) (fun H1 sb => ⟨sb.sqB h1, sb.sqB h1'⟩) fun i x y ex ey => ?_)⟩
          obtain ⟨d, hd, rd⟩ := h2.getV ex
          obtain ⟨d', hd', rd'⟩ := h2'.getV ey
          exact ⟨d, d', by unfold zipD; rw [List.getElem?_zipWith, hd, hd'], rd, rd'⟩
    · exact p1.elim
  · exact p1.elim
end
end Tv

/-! Tv9: for and comprehensions -/
namespace Tv
open PySem PySem.Spec PyProof.Rows L2

def joinB (B G : Hp) : Hp := fun a => match B a with
  | some o => some o
  | none => G a
theorem joinB_left {B G : Hp} : Sub B (joinB B G) := fun a o e => by
  unfold joinB
  rw [e]
theorem joinB_some {B G : Hp} {a : Addr} {o : HO} (h : joinB B G a = some o) : B a = some o ∨ G a = some o := by
  unfold joinB at h
  cases e : B a with
  | some u => rw [e] at h; exact .inl h
  | none => rw [e] at h; exact .inr h
theorem joinB_none {B G : Hp} {a : Addr} (h : B a = none) (g : G a = none) : joinB B G a = none := by
  unfold joinB
  rw [h]
  exact g
section
variable {K : PySem.W.Frag} {T : Tb} {B B' : Hp} {Z : Addr → Prop} {cm cm1 : List Addr} {σ : L2.St} {H : Hp} {ρ : List SD} {s : S} {W : WX} {r : SR} {Ed : Ends}
theorem Rel.weak (h : Sub B B') (r : Rel K T B' Z cm σ H ρ s) : Rel K T B Z cm σ H ρ s where
  len := r.len
  val := r.val
  own := fun i d e => by
    obtain ⟨a, h1, h2, h3, h4, h5⟩ := r.own i d e
    refine ⟨a, h1, h2, h3, h4, ?_⟩
    cases q : B a with
    | none => rfl
    | some o => rw [h a o q] at h5; cases h5
  apart := r.apart
  cells := r.cells
  base := fun a o e => r.base a o (h a o e)
theorem Rel.strong {G0 : Hp} (hs : Sub G0 (GV cm Z (Ow σ ρ) H)) (r : Rel K T B Z cm σ H ρ s) : Rel K T (joinB B G0) Z cm σ H ρ s where
  len := r.len
  val := r.val
  own := fun i d e => by
    obtain ⟨a, h1, h2, h3, h4, h5⟩ := r.own i d e
    refine ⟨a, h1, h2, h3, h4, joinB_none h5 ?_⟩
    cases q : G0 a with
    | none => rfl
    | some o => exact absurd (.inr (.inr ⟨i, d, e, h1⟩)) (hid_some.mp (hs a o q)).1
  apart := r.apart
  cells := r.cells
  base := fun a o e => by
    rcases joinB_some e with e | e
    · exact r.base a o e
    · obtain ⟨n, e⟩ := hid_some.mp (hs a o e)
      exact ⟨e, fun z => n (.inl z)⟩
theorem PostS.weak (h : Sub B B') (p : PostS K T B Z cm W r Ed) : PostS K T B' Z cm W r Ed := by
  cases r with
  | nx ρ s => exact fun σ H c q r => p σ H c q (r.weak h)
  | bk ρ s => exact fun σ H c q r => p σ H c q (r.weak h)
  | ct ρ s => exact fun σ H c q r => p σ H c q (r.weak h)
  | rt d s => exact fun v σ H c ρ q r z => p v σ H c ρ q (r.weak h) z
  | er c ds ρ s => exact fun cls dx σ H c q r z => p cls dx σ H c q (r.weak h) z
  | no => exact p
/-- what the walk's items stand on is seen -/
structure Seen (B : Hp) (Z : Addr → Prop) (G0 : Hp) : Prop where
  ag : ∀ a u o, B a = some u → G0 a = some o → u = o
  nz : ∀ a o, G0 a = some o → ¬ Z a
theorem Rel.sees {G0 : Hp} (hc : Seen B Z G0) (r : Rel K T (joinB B G0) Z cm σ H ρ s) : Sub G0 (GV cm Z (Ow σ ρ) H) := fun a o e => by
  have hz : ¬ Z a := hc.nz a o e
  have key : ∃ u, joinB B G0 a = some u := by
    cases q : B a with
    | none => exact ⟨o, by unfold joinB; rw [q]; exact e⟩
    | some u => exact ⟨u, joinB_left a u q⟩
  obtain ⟨u, hu⟩ := key
  have own : ¬ Ow σ ρ a := fun ⟨i, d, h1, h2⟩ => by
    obtain ⟨b, q1, _, _, _, q5⟩ := r.own i d h1
    have e : b = a := by rw [q1] at h2; cases h2; rfl
    rw [e, hu] at q5
    cases q5
  obtain ⟨k1, k2⟩ := r.base a u hu
  refine hid_some.mpr ⟨fun z => ?_, ?_⟩
  · rcases z with z | z | z
    · exact k2 z
    · exact hz z
    · exact own z
  · rcases joinB_some hu with q | q
    · rw [k1, hc.ag a u o q e]
    · rw [k1, ← q, e]
theorem Rel.seen {G0 : Hp} (hs : Sub G0 (GV cm Z (Ow σ ρ) H)) (r : Rel K T B Z cm σ H ρ s) : Seen B Z G0 := ⟨fun a u o h g => by
  have h1 := (r.base a u h).1
  have h2 := (hid_some.mp (hs a o g)).2
  rw [h1] at h2
  cases h2
  rfl, fun a o g z => (hid_some.mp (hs a o g)).1 (.inr (.inl z))⟩
/-- an item of the walk, where it came -/
theorem Rel.item {cm0 : List Addr} {G0 H2 : Hp} {x : V} {d : D} (hp : Pre cm0 cm) (hc : Seen B Z G0) (r : Rel K T (joinB B G0) Z cm σ H ρ s) (sb : Sub H H2) (h : Rep K T cm0 (glue G0 H H2) x d) :
    Rep K T cm (GV cm Z (Ow σ ρ) H2) x d := by
  refine Rep.mono hp (fun a o e => ?_) _ _ h
  unfold glue at e
  cases q : H a with
  | none =>
    rw [q] at e
    exact hid_some.mpr ⟨fun z => r.hidden z q, e⟩
  | some u =>
    rw [q] at e
    obtain ⟨n, e⟩ := hid_some.mp (r.sees hc a o e)
    exact hid_some.mpr ⟨n, sb a o e⟩
end

/-! ### for -/
def loopF (pm : Pt) (b : SM) : List D → SM
  | [] => fun ρ s => .nx ρ s
  | d :: ds => fun ρ s => match pm.run d ρ with
    | some ρ1 => match b ρ1 s with
      | .nx ρ' s' => loopF pm b ds ρ' s'
      | .ct ρ' s' => loopF pm b ds ρ' s'
      | .bk ρ' s' => .nx ρ' s'
      | .rt d s' => .rt d s'
      | .er k e ρ' s' => .er k e ρ' s'
      | .no => .no
    | none => .no
def mFor (mi : LM) (pm : Pt) (b : SM) : SM := fun ρ s => match mi ρ s with
  | .ok ds s1 => loopF pm b ds ρ s1
  | .er k e s1 => .er k e ρ s1
  | .no => .no
section
variable {X : Cx} {T : Tb} {W : WX} {tg iter : Expr} {body : List Stmt} {mi : LM} {pm : Pt} {b : SM} {pos : Pos}
theorem q_for (hp : PassesOwn (model X.prog X.w) X.A X.env X.xe) (hc : X.calm = true) (hi : QI X T W tg iter mi) (hg : QG X T tg pm) (hb : QSs X T W body b) (hs : ∀ x, foldedSetIterable iter X.env x = pure x := by intro _; rfl) : QSt X T W (.For tg iter body [] pos) (mFor mi pm b) := PS.conv (ps_for hp hc hi hg hb hs) fun Ed σ H h => by
  obtain ⟨B, Z, cm, ρ, s, r, p⟩ := h
  refine ⟨B, Z, cm, ρ, s, r, tE_of (fun ds s' e J H' cm' ex r' z => ?_) (fun c ds s' e cls dx H' cm' ex r' z => ?_) (fun e => ?_)⟩
  · unfold mFor at p
    rw [e] at p
    dsimp only at p
    obtain ⟨G, Y, w, hG, hY⟩ := z
    have ag := r'.seen (Sub.refl _)
    refine for_it w (fun i σ1 H1 => ∃ cm1 ρ1 s1, Pre cm' cm1 ∧ Rel X.K T (joinB B (GV cm' Z (Ow σ ρ) H')) Z cm1 σ1 H1 ρ1 s1 ∧ PostS X.K T B Z cm1 W (loopF pm b (ds.drop i) ρ1 s1) Ed) ⟨cm', ρ, s', .refl _, r'.strong (Sub.refl _), p.later ex.pre⟩ (fun i σ1 H1 hi q => ?_) (fun i x σ1 H1 H2 hi q y => ?_) (fun σ1 H1 q => ?_)
    · obtain ⟨cm1, ρ1, s1, q1, q2, q3⟩ := q
      exact hG H1 ((q2.sees ag).trans Sub.hidH)
    · obtain ⟨cm1, ρ1, s1, q1, q2, q3⟩ := q
      obtain ⟨sb, d, hd, rd⟩ := hY i H1 x H2 hi ((q2.sees ag).trans Sub.hidH) y
      have rd' := q2.item q1 ag sb rd
      rw [List.drop_eq_getElem_cons hi] at q3
      have ed : ds[i] = d := by rw [List.getElem?_eq_getElem hi] at hd; exact Option.some.inj hd
      rw [ed] at q3
      unfold loopF at q3
      have r2 : Rel X.K T (joinB B (GV cm' Z (Ow σ ρ) H')) Z cm1 σ1 H2 ρ1 s1 := q2.ext (Ext.grow sb) (q2.cells.grow sb)
      cases epm : pm.run d ρ1 with
      | none => rw [epm] at q3; exact q3.elim
      | some ρ2 =>
        rw [epm] at q3
        dsimp only at q3
        refine ⟨_, Z, cm1, ρ1, s1, d, ρ2, r2, rd', epm, fun σ2 r3 _ _ => ⟨_, Z, cm1, ρ2, s1, r3, ?_⟩⟩
        cases eb : b ρ2 s1 with
        | nx ρ3 s3 => rw [eb] at q3; exact fun σ' H' c q r => ⟨c, ρ3, s3, q1.trans q, r, q3.later q⟩
        | ct ρ3 s3 => rw [eb] at q3; exact fun σ' H' c q r => ⟨c, ρ3, s3, q1.trans q, r, q3.later q⟩
        | bk ρ3 s3 => rw [eb] at q3; exact fun σ' H' c q r => q3 σ' H' c q (r.weak joinB_left)
        | rt d3 s3 => rw [eb] at q3; exact fun v σ' H' c ρ' q r z => q3 v σ' H' c ρ' q (r.weak joinB_left) z
        | er k3 e3 ρ3 s3 => rw [eb] at q3; exact fun cls dx σ' H' c q r z => q3 cls dx σ' H' c q (r.weak joinB_left) z
        | no => rw [eb] at q3; exact q3
    · obtain ⟨cm1, ρ1, s1, q1, q2, q3⟩ := q
      rw [List.drop_length] at q3
      exact q3 σ1 H1 cm1 (.refl _) (q2.weak joinB_left)
  · unfold mFor at p
    rw [e] at p
    exact p cls dx σ H' cm' ex.pre r' z
  · unfold mFor at p
    rw [e] at p
    exact p
end

/-! ### comprehensions -/
def W0 : WX := fun _ _ _ _ => False
def R.ne {α : Type} (r : R α) : R α := match r with
  | .ok a s => .ok a s
  | _ => .no
def wipeR : List SD → List Nat → List SD
  | ρ, [] => ρ
  | ρ, v :: vs => (wipeR ρ vs).set v .un
def unowned (ρ : List SD) (vs : List Nat) : Bool := vs.all fun i => match ρ[i]? with | some (.own _) => false | _ => true
def compF (pm : Pt) (tt : TM) (te : EM) (ρ : List SD) : List D → S → R (List D)
  | [] => fun s => .ok [] s
  | d :: ds => fun s => match pm.run d ρ with
    | some ρ1 => (tt ρ1 s).ne.bind fun k s1 => match k with
      | true => (te ρ1 s1).ne.bind fun y s2 => (compF pm tt te ρ ds s2).bind fun ys s3 => .ok (y :: ys) s3
      | false => compF pm tt te ρ ds s1
    | none => .no
def mComp (vs : List Nat) (mi : LM) (pm : Pt) (tt : TM) (te : EM) : EM := fun ρ s => (mi ρ s).bind fun ds s1 =>
  if unowned ρ vs = true ∧ ds.length ≤ sizeLine then (compF pm tt te (wipeR ρ vs) ds s1).bind fun ys s2 => .ok (.lst ys) s2 else .no
def mYes : TM := fun _ s => .ok true s
abbrev QTs (X : Cx) (T : Tb) (W : WX) (es : List Expr) (m : TM) : Prop := PTs X es (tP X.K T W AT m)
theorem _root_.L2.PTs.conv {X : Cx} {e : List Expr} {t t' : TT} (h : PTs X e t) (c : ∀ σ H Q, t' σ H Q → t σ H Q) : PTs X e t' := ⟨fun pins s σ H Q I w => h.run pins s σ H Q I (c σ H Q w)⟩
theorem qts_nil {X : Cx} {T : Tb} {W : WX} : QTs X T W [] mYes := PTs.conv pts_nil fun σ H Q h => by
  obtain ⟨B, Z, cm, ρ, s, r, p⟩ := h
  exact p.fin (F := ⟨B, Z, σ, ρ⟩) r rfl
theorem qts_one {X : Cx} {T : Tb} {W : WX} {c : Expr} {t : TM} (h : QT X T W c t) : QTs X T W [c] t := pts_one h
theorem wipeR_get {i : Nat} : ∀ {ρ : List SD} {vs : List Nat}, (wipeR ρ vs)[i]? = if i ∈ vs ∧ i < ρ.length then some .un else ρ[i]?
  | ρ, [] => by simp [wipeR]
  | ρ, v :: vs => by
    have hlen : ∀ vs, (wipeR ρ vs).length = ρ.length := fun vs => by
      induction vs with
      | nil => rfl
      | cons a l ih => unfold wipeR; rw [List.length_set]; exact ih
    unfold wipeR
    by_cases e : v = i
    · subst e
      by_cases hl : v < ρ.length
      · rw [List.getElem?_set_self (by rw [hlen]; exact hl), if_pos ⟨List.mem_cons_self, hl⟩]
      · rw [List.getElem?_eq_none (by rw [List.length_set, hlen]; omega), if_neg (fun z => hl z.2), List.getElem?_eq_none (by omega)]
    · rw [List.getElem?_set_ne e, wipeR_get (ρ := ρ) (vs := vs)]
      have h : (i ∈ v :: vs ∧ i < ρ.length) ↔ (i ∈ vs ∧ i < ρ.length) := by
        rw [List.mem_cons]
        exact ⟨fun z => ⟨z.1.resolve_left (Ne.symm e), z.2⟩, fun z => ⟨.inr z.1, z.2⟩⟩
      by_cases hc : i ∈ vs ∧ i < ρ.length
      · rw [if_pos hc, if_pos (h.mpr hc)]
      · rw [if_neg hc, if_neg (fun z => hc (h.mp z))]
theorem wipeR_len {ρ : List SD} : ∀ {vs : List Nat}, (wipeR ρ vs).length = ρ.length
  | [] => rfl
  | _ :: vs => by unfold wipeR; rw [List.length_set]; exact wipeR_len
theorem wipe_wipe {σ : L2.St} {vs : List Nat} : wipe (wipe σ vs) vs = wipe σ vs := by
  apply List.ext_getElem?
  intro i
  rw [wipe_get, wipe_get, wipe_length]
  split <;> rfl
theorem ow_wipe {σ : L2.St} {ρ : List SD} {vs : List Nat} (hu : unowned ρ vs = true) : Ow (wipe σ vs) (wipeR ρ vs) = Ow σ ρ := by
  funext a
  apply propext
  constructor
  · rintro ⟨i, d, h1, h2⟩
    rw [wipeR_get] at h1
    rw [wipe_get] at h2
    by_cases hi : i ∈ vs ∧ i < ρ.length
    · rw [if_pos hi] at h1; cases h1
    · rw [if_neg hi] at h1
      have hl := (List.getElem?_eq_some_iff.mp h1).1
      rw [if_neg (fun z => hi ⟨z.1, hl⟩)] at h2
      exact ⟨i, d, h1, h2⟩
  · rintro ⟨i, d, h1, h2⟩
    have hi : i ∉ vs := fun z => by
      have := List.all_eq_true.mp hu i z
      rw [h1] at this
      cases this
    exact ⟨i, d, by rw [wipeR_get, if_neg (fun z => hi z.1)]; exact h1, by rw [wipe_get, if_neg (fun z => hi z.1)]; exact h2⟩
theorem Rel.wipe {K : PySem.W.Frag} {T : Tb} {B : Hp} {Z : Addr → Prop} {cm : List Addr} {σ : L2.St} {H : Hp} {ρ : List SD} {s : S} {vs : List Nat} (r : Rel K T B Z cm σ H ρ s) (hu : unowned ρ vs = true) : Rel K T B Z cm (L2.wipe σ vs) H (wipeR ρ vs) s where
  len := by rw [wipeR_len, wipe_length]; exact r.len
  val := fun i d h => by
    rw [ow_wipe hu]
    rw [wipeR_get] at h
    by_cases hi : i ∈ vs ∧ i < ρ.length
    · rw [if_pos hi] at h; cases h
    · rw [if_neg hi] at h
      have hl := (List.getElem?_eq_some_iff.mp h).1
      obtain ⟨v, h1, h2⟩ := r.val i d h
      exact ⟨v, by rw [wipe_get, if_neg (fun z => hi ⟨z.1, hl⟩)]; exact h1, h2⟩
  own := fun i d h => by
    rw [ow_wipe hu]
    rw [wipeR_get] at h
    by_cases hi : i ∈ vs ∧ i < ρ.length
    · rw [if_pos hi] at h; cases h
    · rw [if_neg hi] at h
      have hl := (List.getElem?_eq_some_iff.mp h).1
      obtain ⟨v, h1, h2⟩ := r.own i d h
      exact ⟨v, by rw [wipe_get, if_neg (fun z => hi ⟨z.1, hl⟩)]; exact h1, h2⟩
  apart := fun i j d e a h1 h2 h3 h4 => by
    rw [wipeR_get] at h1 h2
    rw [wipe_get] at h3 h4
    by_cases hi : i ∈ vs ∧ i < ρ.length
    · rw [if_pos hi] at h1; cases h1
    · by_cases hj : j ∈ vs ∧ j < ρ.length
      · rw [if_pos hj] at h2; cases h2
      · rw [if_neg hi] at h1
        rw [if_neg hj] at h2
        rw [if_neg (fun z => hi ⟨z.1, (List.getElem?_eq_some_iff.mp h1).1⟩)] at h3
        rw [if_neg (fun z => hj ⟨z.1, (List.getElem?_eq_some_iff.mp h2).1⟩)] at h4
        exact r.apart i j d e a h1 h2 h3 h4
  cells := by rw [ow_wipe hu]; exact r.cells
  base := r.base
theorem unowned_wipeR {ρ : List SD} {vs : List Nat} : unowned (wipeR ρ vs) vs = true := by
  apply List.all_eq_true.mpr
  intro i hi
  rw [wipeR_get]
  by_cases hl : i < ρ.length
  · rw [if_pos ⟨hi, hl⟩]
  · rw [if_neg (fun z => hl z.2), List.getElem?_eq_none (by omega)]
theorem PmOk.wipe {vs us : List Nat} {ρ ρ' : List SD} (h : PmOk us ρ ρ') (hs : ∀ j ∈ us, j ∈ vs) : wipeR ρ' vs = wipeR ρ vs := by
  apply List.ext_getElem?
  intro i
  rw [wipeR_get, wipeR_get, h.len]
  by_cases hi : i ∈ vs
  · by_cases hl : i < ρ.length
    · rw [if_pos ⟨hi, hl⟩, if_pos ⟨hi, hl⟩]
    · rw [if_neg (fun z => hl z.2), if_neg (fun z => hl z.2), List.getElem?_eq_none (by rw [h.len]; omega), List.getElem?_eq_none (by omega)]
  · rw [if_neg (fun z => hi z.1), if_neg (fun z => hi z.1), h.off i fun z => hi (hs i z)]
theorem PmOk.unowned {vs us : List Nat} {ρ ρ' : List SD} (h : PmOk us ρ ρ') (hu : unowned ρ vs = true) : unowned ρ' vs = true := by
  apply List.all_eq_true.mpr
  intro i hi
  split
  · rename_i d e
    have := List.all_eq_true.mp hu i hi
    rw [h.own i d e] at this
    exact this
  · rfl
theorem wipeR_wipeR {ρ : List SD} {vs : List Nat} : wipeR (wipeR ρ vs) vs = wipeR ρ vs := by
  apply List.ext_getElem?
  intro i
  rw [wipeR_get, wipeR_get, wipeR_len]
  split <;> rfl
section
variable {K : PySem.W.Frag} {T : Tb} {B : Hp} {Z : Addr → Prop} {cm : List Addr} {σ : L2.St} {H : Hp} {ρ : List SD} {s : S}
/-- what was hidden beyond is so no more -/
theorem Rel.lessZ {Z' : Addr → Prop} (hz : ∀ a, Z a → Z' a) (r : Rel K T B Z' cm σ H ρ s) : Rel K T B Z cm σ H ρ s := by
  have sub : Sub (GV cm Z' (Ow σ ρ) H) (GV cm Z (Ow σ ρ) H) := hid_sub fun a u n e => ⟨fun z => by
    rcases z with z | z | z
    · exact n (.inl z)
    · exact n (.inr (.inl (hz a z)))
    · exact n (.inr (.inr z)), e⟩
  refine ⟨r.len, fun i d e => ?_, fun i d e => ?_, r.apart, ⟨r.cells.len, r.cells.nd, fun n a d e1 e2 => (r.cells.at_ n a d e1 e2).ext (.refl _) sub fun o z => z, r.cells.there, fun a m => r.cells.zok a (hz a m), r.cells.nosf⟩, r.base⟩
  · obtain ⟨v, h1, h2⟩ := r.val i d e
    exact ⟨v, h1, Rep.mono (.refl _) sub _ _ h2⟩
  · obtain ⟨a, h1, h2, h3, h4, h5⟩ := r.own i d e
    exact ⟨a, h1, h2.ext (.refl _) sub fun o z => z, h3, fun z => h4 (hz a z), h5⟩
/-- a hidden list of ours changed -/
theorem Rel.putZ {p : Addr} {o : HO} (hp : Z p) (hH : H p ≠ none) (hc : p ∉ cm) (hb : B p = none) (r : Rel K T B Z cm σ H ρ s) : Rel K T B Z cm σ (upd H p o) ρ s := by
  have eG : ∀ O, GV cm Z O (upd H p o) = GV cm Z O H := fun O => by
    funext a
    show hid (HidP cm Z O) _ a = hid (HidP cm Z O) _ a
    unfold hid
    by_cases h : HidP cm Z O a
    · rw [if_pos h, if_pos h]
    · rw [if_neg h, if_neg h, upd_ne (fun e => h (.inr (.inl (by rw [e]; exact hp))))]
  have keep : ∀ a u, a ≠ p → H a = some u → upd H p o a = some u := fun a u n e => by rw [upd_ne n]; exact e
  have there : ∀ a, H a ≠ none → upd H p o a ≠ none := fun a h => by
    by_cases e : a = p
    · rw [e, upd_same]; intro z; cases z
    · rw [upd_ne e]; exact h
  refine ⟨r.len, fun i d e => by rw [eG]; exact r.val i d e, fun i d e => ?_, r.apart, ⟨r.cells.len, r.cells.nd, fun n a d e1 e2 => ?_, fun a m => there a (r.cells.there a m), fun a m => there a (r.cells.zok a m), r.cells.nosf⟩, fun a u e => ?_⟩
  · rw [eG]
    obtain ⟨a, h1, h2, h3, h4, h5⟩ := r.own i d e
    exact ⟨a, h1, h2.ext (.refl _) (Sub.refl _) (fun u z => keep a u (fun e => h4 (e ▸ hp)) z), h3, h4, h5⟩
  · rw [eG]
    have hm : a ∈ cm := List.mem_of_getElem? e1
    exact (r.cells.at_ n a d e1 e2).ext (.refl _) (Sub.refl _) fun u z => keep a u (fun e => hc (e ▸ hm)) z
  · obtain ⟨h1, h2⟩ := r.base a u e
    exact ⟨keep a u (fun q => by rw [q, hb] at e; cases e) h1, h2⟩
theorem Ext.put {cm1 : List Addr} {H1 : Hp} {p : Addr} {o : HO} (e : Ext cm H cm1 H1) (h : H p = none) : Ext cm H cm1 (upd H1 p o) :=
  ⟨e.pre, fun a u h1 h2 => ⟨by rw [upd_ne (ne_of_none h1 h)]; exact (e.keep a u h1 h2).1, (e.keep a u h1 h2).2⟩, fun a q => by
    by_cases z : a = p
    · rw [z, upd_same]; intro y; cases y
    · rw [upd_ne z]; exact e.there a q⟩
theorem tComp_of {W : WX} {mi : LM} {pm : Pt} {tt : TM} {te : EM} {vs : List Nat} {Q : VK} (hv : ∀ j ∈ pm.vs, j ∈ vs) (h : tP K T W (AF K T) (mComp vs mi pm tt te) σ H Q) :
    tLc (tP K T W (AW K T) mi) (tG K T pm) (tP K T W0 AT tt) (tP K T W0 (AR K T) te) vs σ H Q := by
  refine h.bind (AW K T) up_AF fun B Z cm0 ρ J H1 ⟨cm1, ds, s1, e1, r1, a1, p1⟩ => ?_
  dsimp only at p1
  split at p1
  · rename_i hok
    obtain ⟨hu, hl⟩ := hok
    intro p hD
    obtain ⟨G, Y, w, hG, hY⟩ := a1
    obtain ⟨p', ds0, xs0, ep, ed, _, hc0, r2, hx0, q0⟩ := rep_lst r1 hD (.nil : Reps K T cm1 _ [] [])
    obtain rfl : p = p' := V.ref.inj ep
    cases ed
    have hx0' : (upd H1 p (.lst [])) p = some (.lst []) := upd_same
    have sub1 : Sub (GV cm1 Z (Ow σ ρ) H1) (GV cm1 (fun a => Z a ∨ a = p) (Ow σ ρ) (upd H1 p (.lst []))) := hid_sub fun a u n e => ⟨fun z => by
      rcases z with z | z | z
      · exact n (.inl z)
      · rcases z with z | z
        · exact n (.inr (.inl z))
        · rw [z, hD] at e; cases e
      · exact n (.inr (.inr z)), sub_upd hD a u e⟩
    have rw0 := r2.wipe hu
    have hs0 : Sub (GV cm1 Z (Ow σ ρ) H1) (GV cm1 (fun a => Z a ∨ a = p) (Ow (L2.wipe σ vs) (wipeR ρ vs)) (upd H1 p (.lst []))) := by
      rw [ow_wipe hu]
      exact sub1
    have sn := rw0.seen hs0
    have hBp : B p = none := by
      cases q : B p with
      | none => rfl
      | some o =>
        have := (r1.base p o q).1
        rw [hD] at this
        cases this
    have hJp : joinB B (GV cm1 Z (Ow σ ρ) H1) p = none := joinB_none hBp (by
      cases q : GV cm1 Z (Ow σ ρ) H1 p with
      | none => rfl
      | some o =>
        have := (hid_some.mp q).2
        rw [hD] at this
        cases this)
    refine lc_it w (fun i H2 => ∃ cm2 s2 acc accD, Pre cm1 cm2 ∧ Ext cm1 H1 cm2 H2 ∧ p ∉ cm2 ∧ Rel K T (joinB B (GV cm1 Z (Ow σ ρ) H1)) (fun a => Z a ∨ a = p) cm2 (L2.wipe σ vs) H2 (wipeR ρ vs) s2 ∧ H2 p = some (.lst acc) ∧
      Reps K T cm2 (GV cm2 (fun a => Z a ∨ a = p) (Ow σ ρ) H2) acc accD ∧ accD.length ≤ i ∧ Post K T ⟨B, Z, σ, ρ⟩ cm1 H1 W (AF K T) ((compF pm tt te (wipeR ρ vs) (ds.drop i) s2).bind fun ys s3 => .ok (.lst (accD ++ ys)) s3) Q)
      ⟨cm1, s1, [], [], .refl _, Ext.grow (sub_upd hD), hc0, rw0.strong hs0, upd_same, .nil, Nat.le_refl _, p1⟩ (fun i H2 hi q => ?_) (fun i x H2 H3 hi q y => ?_) (fun H2 q => ?_)
    · obtain ⟨cm2, s2, acc, accD, q1, q2, q3, q4, q5, q6, q7, q8⟩ := q
      exact hG H2 ((q4.sees sn).trans Sub.hidH)
    · obtain ⟨cm2, s2, acc, accD, q1, q2, q3, q4, q5, q6, q7, q8⟩ := q
      obtain ⟨sb, d, hd, rd⟩ := hY i H2 x H3 hi ((q4.sees sn).trans Sub.hidH) y
      have rd' := q4.item q1 sn sb rd
      rw [List.drop_eq_getElem_cons hi] at q8
      have ed : ds[i] = d := by rw [List.getElem?_eq_getElem hi] at hd; exact Option.some.inj hd
      rw [ed] at q8
      have r3 : Rel K T (joinB B (GV cm1 Z (Ow σ ρ) H1)) (fun a => Z a ∨ a = p) cm2 (L2.wipe σ vs) H3 (wipeR ρ vs) s2 := q4.ext (Ext.grow sb) (q4.cells.grow sb)
      have x3 : Ext cm1 H1 cm2 H3 := q2.trans (Ext.grow sb)
      have hp3 := sb _ _ q5
      have sub23 : Sub (GV cm2 (fun a => Z a ∨ a = p) (Ow σ ρ) H2) (GV cm2 (fun a => Z a ∨ a = p) (Ow σ ρ) H3) := (Ext.grow sb).sub
      have acc3 := Reps.mono (.refl _) sub23 _ _ q6
      cases epm : pm.run d (wipeR ρ vs) with
      | none =>
        unfold compF at q8
        rw [epm] at q8
        exact q8.elim
      | some ρ2 =>
        have ok := pm.ok _ _ _ epm
        unfold compF at q8
        rw [epm] at q8
        dsimp only at q8
        have hlenacc : acc.length < sizeLine := by
          have := q6.len
          omega
        have oeq : ∀ σ2, wipe σ2 vs = wipe σ vs → Ow σ2 ρ2 = Ow σ ρ := fun σ2 e => by
          rw [← ow_wipe (σ := σ2) (ok.unowned unowned_wipeR), e, ok.wipe hv, wipeR_wipeR, ow_wipe hu]
        refine ⟨_, _, cm2, wipeR ρ vs, s2, d, ρ2, r3, rd', epm, fun σ2 r4 _ off => ?_⟩
        have hw : wipe σ2 vs = wipe σ vs := by
          rw [(off.mono hv).wipe, wipe_wipe]
        refine ⟨hw, _, _, cm2, ρ2, s2, r4, tE_of (fun k s4 e b H4 cm4 ex4 r5 z => ?_) (fun c es s' e => ?_) (fun e => ?_)⟩
        · cases z
          rw [e] at q8
          obtain ⟨hp4, hc4⟩ := ex4.keep _ _ hp3 q3
          have x4 : Ext cm1 H1 cm4 H4 := x3.trans ex4
          have acc4 := Reps.mono ex4.pre (ex4.sub (Z := fun a => Z a ∨ a = p) (O := Ow σ ρ)) _ _ acc3
          cases k with
          | false =>
            rw [if_neg Bool.false_ne_true]
            have r6 := r5.wipe (vs := vs) (ok.unowned unowned_wipeR)
            rw [hw, ok.wipe hv, wipeR_wipeR] at r6
            exact ⟨cm4, s4, acc, accD, x4.pre, x4, hc4, r6, hp4, acc4, Nat.le_succ_of_le q7, q8⟩
          | true =>
            rw [if_pos rfl]
            refine ⟨_, _, cm4, ρ2, s4, r5, tE_of (fun dy s5 e2 yv H5 cm5 ex5 r6 z2 => ?_) (fun c es s' e2 => ?_) (fun e2 => ?_)⟩
            · have q8 : Post K T ⟨B, Z, σ, ρ⟩ cm1 H1 W (AF K T) ((((te ρ2 s4).ne.bind fun y s2 => (compF pm tt te (wipeR ρ vs) (ds.drop (i + 1)) s2).bind fun ys s3 => .ok (y :: ys) s3)).bind fun ys s3 => .ok (.lst (accD ++ ys)) s3) Q := q8
              rw [e2] at q8
              obtain ⟨hp5, hc5⟩ := ex5.keep _ _ hp4 hc4
              have x5 : Ext cm1 H1 cm5 H5 := x4.trans ex5
              have acc5 := Reps.mono ex5.pre (ex5.sub (Z := fun a => Z a ∨ a = p) (O := Ow σ ρ)) _ _ acc4
              refine ⟨acc, hp5, hlenacc, ?_⟩
              have r7 := r6.wipe (vs := vs) (ok.unowned unowned_wipeR)
              rw [hw, ok.wipe hv, wipeR_wipeR] at r7
              have z2 : Rep K T cm5 (GV cm5 (fun a => Z a ∨ a = p) (Ow σ2 ρ2) H5) yv dy := z2
              rw [oeq σ2 hw] at z2
              have eG : GV cm5 (fun a => Z a ∨ a = p) (Ow σ ρ) (upd H5 p (.lst (acc ++ [yv]))) = GV cm5 (fun a => Z a ∨ a = p) (Ow σ ρ) H5 := by
                funext a
                show hid (HidP cm5 (fun a => Z a ∨ a = p) (Ow σ ρ)) _ a = hid (HidP cm5 (fun a => Z a ∨ a = p) (Ow σ ρ)) _ a
                unfold hid
                by_cases h : HidP cm5 (fun a => Z a ∨ a = p) (Ow σ ρ) a
                · rw [if_pos h, if_pos h]
                · rw [if_neg h, if_neg h, upd_ne (fun e => h (.inr (.inl (.inr e))))]
              refine ⟨cm5, s5, acc ++ [yv], accD ++ [dy], x5.pre, x5.put hD, hc5, r7.putZ (.inr rfl) (by rw [hp5]; intro z; cases z) hc5 hJp, upd_same, by rw [eG]; exact acc5.app (.cons z2 .nil), by rw [List.length_append]; exact Nat.succ_le_succ q7, ?_⟩
              have e3 : ∀ r : R (List D), ((r.bind fun ys s3 => R.ok (dy :: ys) s3).bind fun ys s3 => R.ok (D.lst (accD ++ ys)) s3) = r.bind fun ys s3 => R.ok (D.lst ((accD ++ [dy]) ++ ys)) s3 := fun r => by
                cases r with
                | ok ys s3 =>
                  show R.ok (D.lst (accD ++ (dy :: ys))) s3 = R.ok (.lst ((accD ++ [dy]) ++ ys)) s3
                  rw [List.append_assoc]
                  rfl
                | er _ _ _ => rfl
                | no => rfl
              rw [← e3]
              exact q8
            · have q8 : Post K T ⟨B, Z, σ, ρ⟩ cm1 H1 W (AF K T) ((((te ρ2 s4).ne.bind fun y s2 => (compF pm tt te (wipeR ρ vs) (ds.drop (i + 1)) s2).bind fun ys s3 => .ok (y :: ys) s3)).bind fun ys s3 => .ok (.lst (accD ++ ys)) s3) Q := q8
              rw [e2] at q8
              exact q8.elim
            · have q8 : Post K T ⟨B, Z, σ, ρ⟩ cm1 H1 W (AF K T) ((((te ρ2 s4).ne.bind fun y s2 => (compF pm tt te (wipeR ρ vs) (ds.drop (i + 1)) s2).bind fun ys s3 => .ok (y :: ys) s3)).bind fun ys s3 => .ok (.lst (accD ++ ys)) s3) Q := q8
              rw [e2] at q8
              exact q8
        · rw [e] at q8
          exact q8.elim
        · rw [e] at q8
          exact q8
    · obtain ⟨cm2, s2, acc, accD, q1, q2, q3, q4, q5, q6, q7, q8⟩ := q
      rw [List.drop_length] at q8
      have q8 : Post K T ⟨B, Z, σ, ρ⟩ cm1 H1 W (AF K T) (.ok (.lst (accD ++ [])) s2) Q := q8
      rw [List.append_nil] at q8
      have sub5 : Sub (GV cm1 Z (Ow σ ρ) H1) (GV cm2 (fun a => Z a ∨ a = p) (Ow σ ρ) H2) := hid_sub fun a u n e => by
        have nc : a ∉ cm1 := fun z => n (.inl z)
        obtain ⟨k1, k2⟩ := q2.keep a u e nc
        refine ⟨fun z => ?_, k1⟩
        rcases z with z | z | z
        · exact k2 z
        · rcases z with z | z
          · exact n (.inr (.inl z))
          · rw [z, hD] at e; cases e
        · exact n (.inr (.inr z))
      have r5 : Rel K T B (fun a => Z a ∨ a = p) cm2 σ H2 ρ s2 := by
        refine ⟨r1.len, fun j e h => ?_, fun j e h => ?_, r1.apart, ?_, fun a o e => q4.base a o (joinB_left a o e)⟩
        · obtain ⟨v, h1, h2⟩ := r1.val j e h
          exact ⟨v, h1, Rep.mono q1 sub5 _ _ h2⟩
        · obtain ⟨a, h1, h2, h3, h4, h5⟩ := r1.own j e h
          have ha : ∃ o, H1 a = some o := by
            cases z : H1 a with
            | none => exact absurd z h2.there
            | some o => exact ⟨o, rfl⟩
          obtain ⟨o, ha⟩ := ha
          refine ⟨a, h1, h2.ext q1 sub5 (fun o z => (q2.keep a o z h3).1), (q2.keep a o ha h3).2, fun z => ?_, h5⟩
          rcases z with z | z
          · exact h4 z
          · rw [z, hD] at ha; cases ha
        · have := q4.cells
          rw [ow_wipe hu] at this
          exact this
      exact q8 _ _ cm2 q2 (r5.lessZ fun a z => .inl z) ⟨p, accD, acc, rfl, rfl, hD, q3, r5, q5, q6⟩
  · exact p1.elim
end
section
variable {X : Cx} {T : Tb} {W : WX} {elt tg iter : Expr} {ifs : List Expr} {scope : Scope} {own : List (Str × Nat)} {vs : List Nat} {pos spos : Pos} {mi : LM} {pm : Pt} {tt : TM} {te : EM}
theorem q_comp (hc : X.calm = true) (hN : X.N.Nodup) (hi : QI X T W tg iter mi) (ok : BlkOk X.N X.env.scope scope own)
    (hg : ∀ (s : Shared) (H : Hp) (C : Addr) (cl : List (Str × Addr)) (fp : List Addr), QG (X.blk s H scope (compEnvC scope cl C X.env) fp) T tg pm) (ht : ∀ (s : Shared) (H : Hp) (C : Addr) (cl : List (Str × Addr)) (fp : List Addr), QTs (X.blk s H scope (compEnvC scope cl C X.env) fp) T W0 ifs tt)
    (he : ∀ (s : Shared) (H : Hp) (C : Addr) (cl : List (Str × Addr)) (fp : List Addr), QE (X.blk s H scope (compEnvC scope cl C X.env) fp) T W0 elt te) (hv : ∀ j ∈ pm.vs, j ∈ vs := by decide) (hvs : own.map (·.2) = vs := by rfl) (hs : ∀ x, foldedSetIterable iter X.env x = pure x := by intro _; rfl) :
    QF X T W (.ListComp elt [⟨tg, iter, ifs, 0⟩] scope pos) (mComp vs mi pm tt te) := by
  subst hvs
  exact PE.conv (pe_lc hc hN hi ok hg ht he hs) fun _ _ _ h => tComp_of hv h
theorem q_setComp {i : Nat} {y : Str} {py : Pos} (hc : X.calm = true) (hN : X.N.Nodup) (hyl : X.env.scope.names.lookup y = some .local)
    (hi : QI X T W tg iter mi) (ok : BlkOk X.N X.env.scope scope own)
    (hg : ∀ (s : Shared) (H : Hp) (C : Addr) (cl : List (Str × Addr)) (fp : List Addr), QG (X.blk s H scope (compEnvC scope cl C X.env) fp) T tg pm) (ht : ∀ (s : Shared) (H : Hp) (C : Addr) (cl : List (Str × Addr)) (fp : List Addr), QTs (X.blk s H scope (compEnvC scope cl C X.env) fp) T W0 ifs tt)
    (he : ∀ (s : Shared) (H : Hp) (C : Addr) (cl : List (Str × Addr)) (fp : List Addr), QE (X.blk s H scope (compEnvC scope cl C X.env) fp) T W0 elt te) (hy : X.N[i]? = some y := by rfl) (hsw : swapsWith (.ListComp elt [⟨tg, iter, ifs, 0⟩] scope pos) (some (.Name y py)) spos.line X.env = pure true := by rfl) (hv : ∀ j ∈ pm.vs, j ∈ vs := by decide) (hvs : own.map (·.2) = vs := by rfl) (hs : ∀ x, foldedSetIterable iter X.env x = pure x := by intro _; rfl) :
    QSt X T W (.Assign [.Name y py] (.ListComp elt [⟨tg, iter, ifs, 0⟩] scope pos) spos) (mSet i (mComp vs mi pm tt te)) := by
  subst hvs
  exact PS.conv (ps_setLc hc hN hy hyl hsw hi ok hg ht he hs) fun Ed σ H h => by
    refine tComp_of hv (mE_of (A := AF X.K T) h fun B Z cm0 s0 cm H' ρ d s v pre r0 r z p => ?_)
    exact p (σ.set i (some v)) H' cm (.refl _) (Rel.set r (z.val r0))
theorem q_setCompO {i : Nat} {y : Str} {py : Pos} (hc : X.calm = true) (hN : X.N.Nodup) (hyl : X.env.scope.names.lookup y = some .local)
    (hi : QI X T W tg iter mi) (ok : BlkOk X.N X.env.scope scope own)
    (hg : ∀ (s : Shared) (H : Hp) (C : Addr) (cl : List (Str × Addr)) (fp : List Addr), QG (X.blk s H scope (compEnvC scope cl C X.env) fp) T tg pm) (ht : ∀ (s : Shared) (H : Hp) (C : Addr) (cl : List (Str × Addr)) (fp : List Addr), QTs (X.blk s H scope (compEnvC scope cl C X.env) fp) T W0 ifs tt)
    (he : ∀ (s : Shared) (H : Hp) (C : Addr) (cl : List (Str × Addr)) (fp : List Addr), QE (X.blk s H scope (compEnvC scope cl C X.env) fp) T W0 elt te) (hy : X.N[i]? = some y := by rfl) (hsw : swapsWith (.ListComp elt [⟨tg, iter, ifs, 0⟩] scope pos) (some (.Name y py)) spos.line X.env = pure true := by rfl) (hv : ∀ j ∈ pm.vs, j ∈ vs := by decide) (hvs : own.map (·.2) = vs := by rfl) (hs : ∀ x, foldedSetIterable iter X.env x = pure x := by intro _; rfl) :
    QSt X T W (.Assign [.Name y py] (.ListComp elt [⟨tg, iter, ifs, 0⟩] scope pos) spos) (mSetO i (mComp vs mi pm tt te)) := by
  subst hvs
  exact PS.conv (ps_setLc hc hN hy hyl hsw hi ok hg ht he hs) fun Ed σ H h => by
    refine tComp_of hv (mE_of (A := AF X.K T) h fun B Z cm0 s0 cm H' ρ d s v pre r0 r z p => ?_)
    split at p
    · rename_i hl
      exact p (σ.set i (some v)) H' cm (.refl _) (Rel.setOwn r0 hl z)
    · exact p.elim
end
end Tv

/-! Tv10: what is owned changes; several names at once -/
namespace Tv
open PySem PySem.Spec PyProof.Rows L2

section
variable {K : PySem.W.Frag} {T : Tb} {B : Hp} {Z : Addr → Prop} {cm : List Addr} {σ : L2.St} {H : Hp} {ρ : List SD} {s : S}
theorem Rel.ownLst {i : Nat} {ds : List D} (r : Rel K T B Z cm σ H ρ s) (h : ρ[i]? = some (.own (.lst ds))) : ∃ a xs, σ[i]? = some (some (.ref a)) ∧ H a = some (.lst xs) ∧ Reps K T cm (GV cm Z (Ow σ ρ) H) xs ds := by
  obtain ⟨a, h1, ⟨xs, h2, h3⟩, _⟩ := r.own i _ h
  exact ⟨a, xs, h1, h2, h3⟩
theorem Rel.putOwn {i : Nat} {ds ds' : List D} {a : Addr} {xs' : List V} (r : Rel K T B Z cm σ H ρ s) (h : ρ[i]? = some (.own (.lst ds))) (ha : σ[i]? = some (some (.ref a))) (q : Reps K T cm (GV cm Z (Ow σ ρ) H) xs' ds') :
    Rel K T B Z cm σ (upd H a (.lst xs')) (ρ.set i (.own (.lst ds'))) s := r.mutOwn h ha ⟨xs', upd_same, q⟩
theorem Rel.putOwn_rep {i : Nat} {ds : List D} {d' : D} {a : Addr} {o : HO} {v : V} {d : D} (r : Rel K T B Z cm σ H ρ s) (h : ρ[i]? = some (.own (.lst ds))) (ha : σ[i]? = some (some (.ref a))) (q : Rep K T cm (GV cm Z (Ow σ ρ) H) v d) :
    Rep K T cm (GV cm Z (Ow σ (ρ.set i (.own d'))) (upd H a o)) v d := by
  rw [GV_mut (.inr (.inr ⟨i, _, h, ha⟩)) (ow_set h)]
  exact q
end

/-! ### methods of an owned list -/
/-- r: the method's reading; g: what it gives and leaves -/
def OMeth (K : PySem.W.Frag) (T : Tb) (r : V → List V → Hp → VK → Prop) (g : List D → List D → Option (D × List D)) : Prop := ∀ (cm : List Addr) (G H : Hp) (a : Addr) (xs : List V) (ds : List D) (vs : List V) (as : List D) (d : D) (ds' : List D) (Q : VK),
  g ds as = some (d, ds') → H a = some (.lst xs) → Reps K T cm G xs ds → Reps K T cm G vs as → Sub G H → (∀ v xs', Rep K T cm G v d → Reps K T cm G xs' ds' → Q v (upd H a (.lst xs'))) → r (.ref a) vs H Q
def oAppend : List D → List D → Option (D × List D) := fun ds as => match as with
  | [d] => if ds.length < sizeLine then some (.non, ds ++ [d]) else none
  | _ => none
theorem om_append {K : PySem.W.Frag} {T : Tb} : OMeth K T rAppend oAppend := by
  intro cm G H a xs ds vs as d ds' Q hg ha rx rv sub q
  unfold oAppend at hg
  split at hg
  · split at hg
    · cases hg
      cases rv with
      | cons rv t =>
        cases t
        exact ⟨a, xs, _, rfl, rfl, ha, by rw [rx.len]; assumption, q _ _ .non (rx.app (.cons rv .nil))⟩
    · cases hg
  · cases hg
def oPop : List D → List D → Option (D × List D) := fun ds as => match as with
  | [] => match ds[ds.length - 1]? with | some d => some (d, ds.dropLast) | none => none
  | _ => none
theorem om_pop {K : PySem.W.Frag} {T : Tb} : OMeth K T rPop oPop := by
  intro cm G H a xs ds vs as d ds' Q hg ha rx rv sub q
  unfold oPop at hg
  split at hg
  · split at hg
    · rename_i e
      cases hg
      cases rv
      rw [← rx.len] at e
      obtain ⟨v, h1, h2⟩ := rx.get e
      exact ⟨a, xs, v, rfl, rfl, ha, h1, q _ _ h2 rx.dropLast⟩
    · cases hg
  · cases hg
def oInsert : List D → List D → Option (D × List D) := fun ds as => match as with
  | [.int i, d] => if ds.length < sizeLine ∧ 0 ≤ i ∧ i < 2 ^ 63 then some (.non, ds.take i.toNat ++ [d] ++ ds.drop i.toNat) else none
  | _ => none
def rInsert : V → List V → Hp → VK → Prop := fun x vs H Q => ∃ (l : Addr) (xs : List V) (i : Int) (y : V), x = .ref l ∧ vs = [.int i, y] ∧ H l = some (.lst xs) ∧ xs.length < sizeLine ∧ 0 ≤ i ∧ i < 2 ^ 63 ∧
    Q .non (upd H l (.lst (xs.take i.toNat ++ [y] ++ xs.drop i.toNat)))
theorem om_insert {K : PySem.W.Frag} {T : Tb} : OMeth K T rInsert oInsert := by
  intro cm G H a xs ds vs as d ds' Q hg ha rx rv sub q
  unfold oInsert at hg
  split at hg
  · split at hg
    · rename_i hc
      cases hg
      cases rv with
      | cons r1 t =>
        cases r1
        cases t with
        | cons r2 t =>
          cases t
          exact ⟨a, xs, _, _, rfl, rfl, ha, by rw [rx.len]; exact hc.1, hc.2.1, hc.2.2, q _ _ .non (((rx.take _).app (.cons r2 .nil)).app (rx.drop _))⟩
    · cases hg
  · cases hg
/-- extend by a list (another one) -/
def oExtend : List D → List D → Option (D × List D) := fun ds as => match as with
  | [.lst es] => if ds.length + es.length ≤ sizeLine then some (.non, ds ++ es) else none
  | _ => none
theorem om_extend {K : PySem.W.Frag} {T : Tb} : OMeth K T rExtend oExtend := by
  intro cm G H a xs ds vs as d ds' Q hg ha rx rv sub q
  unfold oExtend at hg
  split at hg
  · split at hg
    · cases hg
      cases rv with
      | cons r1 t =>
        cases t
        cases r1 with
        | lst h1 h2 =>
          exact ⟨a, _, xs, _, rfl, rfl, ha, sub _ _ h1, by rw [rx.len, h2.len]; assumption, q _ _ .non (rx.app h2)⟩
    · cases hg
  · cases hg
/-- the owned list of slot i -/
def ownL (i : Nat) (ρ : List SD) : Option (List D) := match ρ[i]? with
  | some (.own (.lst ds)) => some ds
  | _ => none
theorem ownL_some {i : Nat} {ρ : List SD} {ds : List D} (h : ownL i ρ = some ds) : ρ[i]? = some (.own (.lst ds)) := by
  unfold ownL at h
  split at h
  · cases h
    assumption
  · cases h
def mMethS (i : Nat) (g : List D → List D → Option (D × List D)) (lm : LM) : SM := fun ρ s => match ownL i ρ with
  | some ds => match lm ρ s with
    | .ok as s1 => match g ds as with
      | some (_, ds') => .nx (ρ.set i (.own (.lst ds'))) s1
      | none => .no
    | .er c ds s1 => .er c ds ρ s1
    | .no => .no
  | none => .no
section
variable {X : Cx} {T : Tb} {W : WX} {st : Stmt} {e : Expr} {es : List Expr} {m : EM} {lm : LM} {pos cpos apos p : Pos} {i n : Nat} {x name : Str} {id : String} {r : V → List V → Hp → VK → Prop} {g : List D → List D → Option (D × List D)}
theorem q_meth (pa : PlainAttrs "list") (slot : Slot "list" name id) (hty : typeOf (.builtin id) = pure (.type "method_descriptor")) (hm : MtR X id r) (og : OMeth X.K T r g) (hN : X.N[i]? = some x := by rfl) (hv : Vis X.env.scope x := by first | exact Or.inl rfl | exact Or.inr (Or.inl rfl) | exact Or.inr (Or.inr rfl)) (ha : QS X T W n (e :: es) lm)
    (hd : (x == ("__debug__" : Str)) = false := by decide) (hcd : (x == ("__classdict__" : Str)) = false := by decide)
    (hbase : attributeBase (.Name x p) name X.env (eval (.Name x p) X.env) = eval (.Name x p) X.env := by rfl)
    (hfew : ((backTo cpos (starEach (e :: es) X.env)).all (fun x => !x.1) && (backToKw cpos (keywordEach [] X.env)).all (fun x => x.1.isSome)
      && decide ((e :: es).length + ([] : List Keyword).length + (if ([] : List Keyword).isEmpty then 0 else 1) < 30)) = true := by rfl)
    (hline : (apos.endLine == cpos.line) = true := by rfl) (hs : starEach (e :: es) X.env = (false, eval e X.env) :: starEach es X.env := by rfl) (hplain : (backTo cpos (starEach es X.env)).any (·.1) = false := by rfl)
    (hsw : swapsWith (.Call (.Attribute (.Name x p) name apos) (e :: es) [] cpos) none pos.line X.env = pure false := by rfl) : QSt X T W (.Expr (.Call (.Attribute (.Name x p) name apos) (e :: es) [] cpos) pos) (mMethS i g lm) := by
  have h0 : PS X (.Expr (.Call (.Attribute (.Name x p) name apos) (e :: es) [] cpos) pos) _ := ps_expr (pe_bm pa slot hty hm (pe_var hN hv hd hcd) ha hbase hfew hline hs hplain) hsw
  refine ⟨fun pins s σ H Ed I h => ?_⟩
  refine h0.run pins s σ H Ed I ?_
  obtain ⟨B, Z, cm, ρ, s0, rr, p⟩ := h
  unfold mMethS at p
  cases e0 : ownL i ρ with
  | none => rw [e0] at p; exact p.elim
  | some ds =>
    rw [e0] at p
    have e0 := ownL_some e0
    obtain ⟨a, xs, h1, h2, h3⟩ := rr.ownLst e0
    refine ⟨_, h1, .inl ⟨rfl, xs, .of h2⟩, B, Z, cm, ρ, s0, rr, tE_of (fun as s' e b H' cm' ex r' z => ?_) (fun c es s' e cls dx H' cm' ex r' z => ?_) (fun e => ?_)⟩
    · dsimp only at p
      rw [e] at p
      dsimp only at p
      split at p
      · rename_i d ds' eg
        obtain ⟨a', xs', k1, k2, k3⟩ := r'.ownLst e0
        have ea : a' = a := by rw [h1] at k1; cases k1; rfl
        subst ea
        exact og cm' _ H' a' xs' ds b as d ds' _ eg k2 k3 z.1 Sub.hidH fun v xs2 _ q2 => p σ _ cm' ex.pre (r'.putOwn e0 k1 q2)
      · exact p.elim
    · dsimp only at p
      rw [e] at p
      exact p cls dx σ H' cm' ex.pre r' z
    · dsimp only at p
      rw [e] at p
      exact p
theorem q_meth0 (pa : PlainAttrs "list") (slot : Slot "list" name id) (hty : typeOf (.builtin id) = pure (.type "method_descriptor")) (hm : MtR X id r) (og : OMeth X.K T r g) (hN : X.N[i]? = some x := by rfl) (hv : Vis X.env.scope x := by first | exact Or.inl rfl | exact Or.inr (Or.inl rfl) | exact Or.inr (Or.inr rfl))
    (hd : (x == ("__debug__" : Str)) = false := by decide) (hcd : (x == ("__classdict__" : Str)) = false := by decide)
    (hbase : attributeBase (.Name x p) name X.env (eval (.Name x p) X.env) = eval (.Name x p) X.env := by rfl)
    (hline : (apos.endLine == cpos.line) = true := by rfl)
    (hsw : swapsWith (.Call (.Attribute (.Name x p) name apos) [] [] cpos) none pos.line X.env = pure false := by rfl) : QSt X T W (.Expr (.Call (.Attribute (.Name x p) name apos) [] [] cpos) pos) (mMethS i g mNil) := by
  have h0 : PS X (.Expr (.Call (.Attribute (.Name x p) name apos) [] [] cpos) pos) _ := ps_expr (pe_bm0 pa slot hty hm (pe_var hN hv hd hcd) hbase hline) hsw
  refine ⟨fun pins s σ H Ed I h => ?_⟩
  refine h0.run pins s σ H Ed I ?_
  obtain ⟨B, Z, cm, ρ, s0, rr, p⟩ := h
  unfold mMethS at p
  cases e0 : ownL i ρ with
  | none => rw [e0] at p; exact p.elim
  | some ds =>
    rw [e0] at p
    have e0 := ownL_some e0
    obtain ⟨a, xs, h1, h2, h3⟩ := rr.ownLst e0
    unfold mNil at p
    dsimp only at p
    split at p
    · rename_i d ds' eg
      exact ⟨_, h1, .inl ⟨rfl, xs, .of h2⟩, og cm _ H a xs ds [] [] d ds' _ eg h2 h3 .nil Sub.hidH fun v xs2 _ q2 => p σ _ cm (.refl _) (rr.putOwn e0 h1 q2)⟩
    · exact p.elim
end

/-! ### x[i] = e, of an owned list or a cell -/
def setIx (i : Nat) (k : Int) (d : D) (ρ : List SD) (s : S) : SR := match ρ[i]? with
  | some (.own (.lst ds)) => match ixN ds.length k with
    | some j => .nx (ρ.set i (.own (.lst (ds.set j d)))) s
    | none => .no
  | some (.v (.cell n)) => match s[n]? with
    | some (.lst ds) => match ixN ds.length k with
      | some j => .nx ρ (s.set n (.lst (ds.set j d)))
      | none => .no
    | _ => .no
  | _ => .no
def baseOk (i : Nat) (ρ : List SD) : Bool := match ρ[i]? with
  | some (.own _) => true
  | some (.v (.cell _)) => true
  | _ => false
def mSetIx (i : Nat) (mi m : EM) : SM := mE m fun d ρ s => match baseOk i ρ with
  | true => mE mi (fun k ρ s => match k with
    | .int k => setIx i k d ρ s
    | _ => .no) ρ s
  | false => .no
theorem Rel.baseOk {K : PySem.W.Frag} {T : Tb} {B : Hp} {Z : Addr → Prop} {cm : List Addr} {σ : L2.St} {H : Hp} {ρ : List SD} {s : S} {i : Nat} (r : Rel K T B Z cm σ H ρ s) (h : Tv.baseOk i ρ = true) : ∃ a, σ[i]? = some (some (.ref a)) := by
  unfold Tv.baseOk at h
  split at h
  · rename_i e
    obtain ⟨a, h1, _⟩ := r.own i _ e
    exact ⟨a, h1⟩
  · rename_i n e
    obtain ⟨v, h1, h2⟩ := r.val i _ e
    cases h2
    exact ⟨_, h1⟩
  · cases h
section
variable {X : Cx} {T : Tb} {W : WX} {e ix : Expr} {m mi : EM} {pos p p1 : Pos} {i : Nat} {x : Str}
theorem q_setIx (he : QE X T W e m) (hi : QE X T W ix mi) (hN : X.N[i]? = some x := by rfl) (hv : Vis X.env.scope x := by first | exact Or.inl rfl | exact Or.inr (Or.inl rfl) | exact Or.inr (Or.inr rfl))
    (hd : (x == ("__debug__" : Str)) = false := by decide) (hcd : (x == ("__classdict__" : Str)) = false := by decide)
    (ha : ∀ v, assign (.Subscript (.Name x p) ix p1) X.env v = (do
      let ov ← holding [v] (eval (.Name x p) X.env)
      let iv ← holding [v, ov] (eval ix X.env)
      standAt p1
      holding [v, ov, iv] (setItem ov iv v)
      release [v, ov, iv] []) := by intro _; rfl)
    (hs : swapsWithSole [.Subscript (.Name x p) ix p1] e pos.line X.env = pure false := by rfl) (hw : swappedStores [.Subscript (.Name x p) ix p1] e X.env = pure none := by rfl)
    (h1 : (assignEach [.Subscript (.Name x p) ix p1] X.env).map (·.2) = [assign (.Subscript (.Name x p) ix p1) X.env] := by rfl) : QSt X T W (.Assign [.Subscript (.Name x p) ix p1] e pos) (mSetIx i mi m) := by
  have h0 := ps_asg (pos := pos) he (pg_sub (pe_var (i := i) hN hv hd hcd) hi set_list ha) hs hw h1
  refine h0.conv fun Ed σ H h => ?_
  refine mE_of (A := AR X.K T) h fun B Z cm0 s0 cm H' ρ d s v pre r0 r z p => ?_
  cases eb : baseOk i ρ with
  | false => rw [eb] at p; exact p.elim
  | true =>
    rw [eb] at p
    dsimp only at p
    obtain ⟨a, ha⟩ := r.baseOk eb
    refine ⟨_, ha, B, Z, cm, ρ, s, r, tE_of (fun k s' e b H2 cm2 ex r' z2 => ?_) (fun c es s' e cls dx H2 cm2 ex r' z2 => ?_) (fun e => ?_)⟩
    · unfold mE at p
      rw [e] at p
      dsimp only at p
      split at p
      · rename_i k
        cases z2
        have z' : Rep X.K T cm2 (GV cm2 Z (Ow σ ρ) H2) v d := Rep.mono ex.pre ex.sub _ _ z
        unfold setIx at p
        split at p
        · rename_i ds e0
          split at p
          · rename_i j ej
            obtain ⟨a', xs, h1, h2, h3⟩ := r'.ownLst e0
            have ea : a' = a := by rw [ha] at h1; cases h1; rfl
            subst ea
            exact ⟨a', xs, k, j, rfl, rfl, h2, by rw [h3.len]; exact ej, p σ _ cm2 ex.pre (r'.putOwn e0 h1 (Reps.set z' j h3))⟩
          · exact p.elim
        · rename_i n e0
          split at p
          · rename_i ds es
            split at p
            · rename_i j ej
              obtain ⟨w, h1, h2⟩ := r'.val i _ e0
              rw [ha] at h1
              cases h1
              cases h2 with
              | cell hc =>
                obtain ⟨xs, k1, k2⟩ := r'.cells.at_ n a _ hc es
                exact ⟨a, xs, k, j, rfl, rfl, k1, by rw [k2.len]; exact ej, p σ _ cm2 ex.pre (r'.mutCell hc ⟨xs.set j v, upd_same, Reps.set z' j k2⟩)⟩
            · exact p.elim
          · exact p.elim
        · exact p.elim
      · exact p.elim
    · unfold mE at p
      rw [e] at p
      exact p cls dx σ H2 cm2 ex.pre r' z2
    · unfold mE at p
      rw [e] at p
      exact p
end

/-! ### a new cell, x += e, targets -/
def mCell (i : Nat) (m : EM) : SM := mE m fun d ρ s => .nx (ρ.set i (.v (.cell s.length))) (s ++ [d])
def mAug (i : Nat) (g : Int → Int → Int) (m : EM) : SM := fun ρ s => match ρ[i]? with
  | some (.v (.int a)) => mE m (fun d ρ s => match d with
    | .int b => .nx (ρ.set i (.v (.int (g a b)))) s
    | _ => .no) ρ s
  | _ => .no
def mPt (pt : Pt) (m : EM) : SM := mE m fun d ρ s => match pt.run d ρ with
  | some ρ' => .nx ρ' s
  | none => .no
section
variable {X : Cx} {T : Tb} {W : WX} {e tg : Expr} {m : EM} {pos pos' : Pos} {i : Nat} {x : Str} {g : Int → Int → Int} {pt : Pt}
theorem q_cell (hN : X.N.Nodup) (hi : X.N[i]? = some x := by rfl) (hx : Loc X.env.scope x := by first | exact Or.inl rfl | exact Or.inr rfl) (he : QF X T W e m) (hs : swapsWith e (some (.Name x pos')) pos.line X.env = pure false := by rfl) (hf : X.fn x = true ∨ X.env.scope.names.lookup x = some .local := by first | exact .inl rfl | exact .inr rfl | assumption) :
    QSt X T W (.Assign [.Name x pos'] e pos) (mCell i m) := PS.conv (ps_set hN hi hx he hs hf) fun D σ H h =>
  mE_of (A := AF X.K T) h fun B Z cm0 s0 cm H' ρ d s v pre r0 r z p => by
    obtain ⟨q, rfl, r2⟩ := Rel.newCell r0 z
    have len : cm.length = s.length := r.cells.len
    exact p (σ.set i (some (.ref q))) H' (cm ++ [q]) ⟨[q], rfl⟩ (Rel.set r2 (.cell (by rw [← len]; simp)))
theorem q_aug {op : Operator} (hN : X.N.Nodup) (ho : PIp X op (ipI g)) (he : QE X T W e m) (hi : X.N[i]? = some x := by rfl) (hx : Loc X.env.scope x := by first | exact Or.inl rfl | exact Or.inr rfl) (hf : X.fn x = true ∨ X.env.scope.names.lookup x = some .local := by first | exact .inl rfl | exact .inr rfl | assumption) :
    QSt X T W (.AugAssign (.Name x pos') op e pos) (mAug i g m) := PS.conv (ps_aug hN hi hx he ho hf) fun Ed σ H h => by
  obtain ⟨B, Z, cm, ρ, s, r, p⟩ := h
  unfold mAug at p
  split at p
  · rename_i a e0
    obtain ⟨v, h1, h2⟩ := r.val i _ e0
    cases h2
    refine ⟨_, h1, mE_of (A := AR X.K T) ⟨B, Z, cm, ρ, s, r, p⟩ fun B Z cm0 s0 cm H' ρ d s v pre r0 r z p => ?_⟩
    split at p
    · cases z
      exact ⟨_, _, rfl, rfl, p _ H' cm (.refl _) (r.set (.int _))⟩
    · exact p.elim
  · exact p.elim
theorem q_pt (he : QE X T W e m) (hg : QG X T tg pt) (hs : swapsWithSole [tg] e pos.line X.env = pure false := by rfl) (hw : swappedStores [tg] e X.env = pure none := by rfl)
    (h1 : (assignEach [tg] X.env).map (·.2) = [assign tg X.env] := by rfl) : QSt X T W (.Assign [tg] e pos) (mPt pt m) := PS.conv (ps_asg he hg hs hw h1) fun Ed σ H h =>
  mE_of (A := AR X.K T) h fun B Z cm0 s0 cm H' ρ d s v pre r0 r z p => by
    split at p
    · rename_i ρ' e0
      exact ⟨B, Z, cm, ρ, s, d, ρ', r, z, e0, fun σ' r' _ _ => p σ' H' cm (.refl _) r'⟩
    · exact p.elim
end
end Tv

/-! Tv11: several names at once, some of them with new lists; fields -/
namespace Tv
open PySem PySem.Spec PyProof.Rows L2

inductive MixR (K : PySem.W.Frag) (T : Tb) (cm : List Addr) (G H : Hp) : List Bool → List V → List D → List Addr → Prop
  | nil : MixR K T cm G H [] [] [] []
  | val {v : V} {d : D} {ms : List Bool} {vs : List V} {ds : List D} {ps : List Addr} : Rep K T cm G v d → MixR K T cm G H ms vs ds ps → MixR K T cm G H (false :: ms) (v :: vs) (d :: ds) ps
  | own {p : Addr} {xs : List V} {es : List D} {ms : List Bool} {vs : List V} {ds : List D} {ps : List Addr} : H p = some (.lst xs) → Reps K T cm G xs es → MixR K T cm G H ms vs ds ps → MixR K T cm G H (true :: ms) (.ref p :: vs) (.lst es :: ds) (p :: ps)
theorem MixR.mono {K : PySem.W.Frag} {T : Tb} {cm cm' : List Addr} {G G' H H' : Hp} (hc : Pre cm cm') (hg : Sub G G') : ∀ {ms : List Bool} {vs : List V} {ds : List D} {ps : List Addr}, (∀ p ∈ ps, ∀ o, H p = some o → H' p = some o) → MixR K T cm G H ms vs ds ps → MixR K T cm' G' H' ms vs ds ps
  | _, _, _, _, _, .nil => .nil
  | _, _, _, _, h, .val r t => .val (Rep.mono hc hg _ _ r) (MixR.mono hc hg h t)
  | _, _, _, _, h, .own e r t => .own (h _ List.mem_cons_self _ e) (Reps.mono hc hg _ _ r) (MixR.mono hc hg (fun p hp => h p (List.mem_cons_of_mem _ hp)) t)
def AX (K : PySem.W.Frag) (T : Tb) (ms : List Bool) : AK (List D) (List V) := fun F H0 cm H s vs ds => ∃ ps : List Addr, (∀ p ∈ ps, H0 p = none ∧ p ∉ cm) ∧ ps.Nodup ∧ Rel K T F.B (fun a => F.Z a ∨ a ∈ ps) cm F.σ H F.ρ s ∧
  MixR K T cm (GV cm (fun a => F.Z a ∨ a ∈ ps) F.O H) H ms vs ds ps
theorem up_AX {K : PySem.W.Frag} {T : Tb} {ms : List Bool} : Up (AX K T ms) := fun _ _ _ _ _ _ _ _ h z => by
  obtain ⟨ps, h1, h2⟩ := z
  exact ⟨ps, fun p hp => ⟨none_of_there h (h1 p hp).1, (h1 p hp).2⟩, h2⟩
theorem ErrRep.mono {K : PySem.W.Frag} {T : Tb} {cm cm' : List Addr} {G G' H H' : Hp} {cls : Value} {d : Option Addr} {c : Nat} {ds : List D} (h : ErrRep K T cm G H cls d c ds) (hc : Pre cm cm') (hg : Sub G G') (hh : ∀ a o, H a = some (.xd o) → H' a = some (.xd o)) : ErrRep K T cm' G' H' cls d c ds := by
  obtain ⟨h1, h2⟩ := h
  refine ⟨h1, ?_⟩
  rcases h2 with h2 | ⟨dx, gs, h2, h3, h4, h5⟩
  · exact .inl h2
  · exact .inr ⟨dx, gs, h2, hg _ _ h3, h4, Reps.mono hc hg _ _ h5⟩
abbrev QX (X : Cx) (T : Tb) (W : WX) (ms : List Bool) (es : List Expr) (m : LM) : Prop := PA X es (tP X.K T W (AX X.K T ms) m)
theorem or_nil {Z : Addr → Prop} : (fun a => Z a ∨ a ∈ ([] : List Addr)) = Z := by
  funext a
  simp
section
variable {X : Cx} {T : Tb} {W : WX} {ms : List Bool} {e : Expr} {es : List Expr} {m : EM} {lm : LM} {pos : Pos}
theorem qx_nil : QX X T W [] [] mNil := PA.conv pa_nil fun σ H Q h => by
  obtain ⟨B, Z, cm, ρ, s, r, p⟩ := h
  refine p.fin (F := ⟨B, Z, σ, ρ⟩) r ⟨[], (fun _ h => nomatch h), List.nodup_nil, ?_, .nil⟩
  show Rel X.K T B (fun a => Z a ∨ a ∈ ([] : List Addr)) cm σ H ρ s
  rw [or_nil]
  exact r
theorem qx_val (ha : QE X T W e m) (hr : QX X T W ms es lm) (hs : starEach (e :: es) X.env = (false, eval e X.env) :: starEach es X.env := by rfl) : QX X T W (false :: ms) (e :: es) (mCons m lm) := PA.conv (pa_cons ha hr hs) fun σ H Q h => by
  refine h.bind (AR X.K T) up_AX fun B Z cm ρ x H1 ⟨cm1, dx, s1, e1, r1, a1, p1⟩ => ?_
  refine ⟨B, Z, cm1, ρ, s1, r1, tE_of (fun ys s' e y H2 cm2 e2 r3 z => ?_) (fun c es s' e cls dx H2 cm2 e2 r3 z => ?_) (fun e => ?_)⟩
  · dsimp only at p1
    rw [e] at p1
    obtain ⟨ps, k1, k2, k3, k4⟩ := z
    refine p1 _ H2 cm2 e2 r3 ⟨ps, k1, k2, k3, .val (Rep.mono e2.pre (hid_sub fun a o n e => ?_) _ _ a1) k4⟩
    have nc : a ∉ cm1 := fun z => n (.inl z)
    obtain ⟨q1, q2⟩ := e2.keep a o e nc
    refine ⟨fun z => ?_, q1⟩
    rcases z with z | z | z
    · exact q2 z
    · rcases z with z | z
      · exact n (.inr (.inl z))
      · rw [(k1 a z).1] at e; cases e
    · exact n (.inr (.inr z))
  · dsimp only at p1
    rw [e] at p1
    exact p1 cls dx H2 cm2 e2 r3 z
  · dsimp only at p1
    rw [e] at p1
    exact p1
theorem qx_own (ha : QF X T W e m) (hr : QX X T W ms es lm) (hs : starEach (e :: es) X.env = (false, eval e X.env) :: starEach es X.env := by rfl) : QX X T W (true :: ms) (e :: es) (mCons m lm) := PA.conv (pa_cons ha hr hs) fun σ H Q h => by
  obtain ⟨B, Z, cm, ρ, s, r, P⟩ := h
  refine ⟨B, Z, cm, ρ, s, r, tE_of (fun d s1 em b H1 cm1 e1 r1 a1 => ?_) (fun c es s' e cls dx H2 cm2 e2 r3 z => ?_) (fun e => ?_)⟩
  case refine_2 =>
    unfold mCons at P
    rw [e] at P
    exact P cls dx H2 cm2 e2 r3 z
  case refine_3 =>
    unfold mCons at P
    rw [e] at P
    exact P
  unfold mCons at P
  rw [em] at P
  have p1 : Post X.K T ⟨B, Z, σ, ρ⟩ cm H W (AX X.K T (true :: ms)) ((lm ρ s1).bind fun xs s2 => .ok (d :: xs) s2) Q := P
  obtain ⟨p, ds, xs, rfl, rfl, hp, hc, r2, hx, q⟩ := a1
  have lessG : ∀ cm2 H2, Sub (GV cm2 (fun a => Z a ∨ a = p) (Ow σ ρ) H2) (GV cm2 Z (Ow σ ρ) H2) := fun cm2 H2 => hid_sub fun a o n e => ⟨fun z => by
    rcases z with z | z | z
    · exact n (.inl z)
    · exact n (.inr (.inl (.inl z)))
    · exact n (.inr (.inr z)), e⟩
  refine ⟨B, (fun a => Z a ∨ a = p), cm1, ρ, s1, r2, tE_of (fun ys s' e y H2 cm2 e2 r3 z => ?_) (fun c es s' e cls dx H2 cm2 e2 r3 z => ?_) (fun e => ?_)⟩
  · rw [e] at p1
    have p1 : Post X.K T ⟨B, Z, σ, ρ⟩ cm H W (AX X.K T (true :: ms)) (.ok (.lst ds :: ys) s') Q := p1
    obtain ⟨ps, k1, k2, k3, k4⟩ := z
    obtain ⟨hx2, hc2⟩ := e2.keep p _ hx hc
    have npp : p ∉ ps := fun z => by
      have := (k1 p z).1
      rw [hx] at this
      cases this
    have eZ : (fun a => Z a ∨ a ∈ p :: ps) = (fun a => (Z a ∨ a = p) ∨ a ∈ ps) := by
      funext a
      apply propext
      rw [List.mem_cons]
      constructor
      · rintro (h | h | h)
        · exact .inl (.inl h)
        · exact .inl (.inr h)
        · exact .inr h
      · rintro ((h | h) | h)
        · exact .inl h
        · exact .inr (.inl h)
        · exact .inr (.inr h)
    have sub2 : Sub (GV cm1 (fun a => Z a ∨ a = p) (Ow σ ρ) H1) (GV cm2 (fun a => (Z a ∨ a = p) ∨ a ∈ ps) (Ow σ ρ) H2) := hid_sub fun a o n e => by
      have nc : a ∉ cm1 := fun z => n (.inl z)
      obtain ⟨q1, q2⟩ := e2.keep a o e nc
      refine ⟨fun z => ?_, q1⟩
      rcases z with z | z | z
      · exact q2 z
      · rcases z with z | z
        · exact n (.inr (.inl z))
        · have := (k1 a z).1
          rw [this] at e; cases e
      · exact n (.inr (.inr z))
    have k3' : Rel X.K T B (fun a => Z a ∨ a ∈ p :: ps) cm2 σ H2 ρ s' := by rw [eZ]; exact k3
    have k4' : MixR X.K T cm2 (GV cm2 (fun a => Z a ∨ a ∈ p :: ps) (Ow σ ρ) H2) H2 (true :: ms) (.ref p :: y) (.lst ds :: ys) (p :: ps) := by rw [eZ]; exact .own hx2 (Reps.mono e2.pre sub2 _ _ q) k4
    refine p1 _ H2 cm2 (e1.trans e2) (r3.lessZ fun a z => .inl z) ⟨p :: ps, fun a ha => ?_, List.nodup_cons.mpr ⟨npp, k2⟩, k3', k4'⟩
    rcases List.mem_cons.mp ha with z | z
    · rw [z]
      exact ⟨hp, hc2⟩
    · exact ⟨none_of_there e1.there (k1 a z).1, (k1 a z).2⟩
  · rw [e] at p1
    exact p1 cls dx H2 cm2 (e1.trans e2) (r3.lessZ fun a z => .inl z) (z.mono (.refl _) (lessG _ _) fun _ _ h => h)
  · rw [e] at p1
    exact p1
end
/-- a hidden new list to a slot of its own -/
theorem Rel.setOwnZ {K : PySem.W.Frag} {T : Tb} {B : Hp} {Z : Addr → Prop} {cm : List Addr} {σ : L2.St} {H : Hp} {ρ : List SD} {s : S} {i : Nat} {p : Addr} {ds : List D} {xs : List V} (r : Rel K T B (fun a => Z a ∨ a = p) cm σ H ρ s) (hi : i < ρ.length) (nZ : ¬ Z p) (hc : p ∉ cm) (hB : B p = none)
    (hx : H p = some (.lst xs)) (q : Reps K T cm (GV cm (fun a => Z a ∨ a = p) (Ow σ ρ) H) xs ds) : Rel K T B Z cm (σ.set i (some (.ref p))) H (ρ.set i (.own (.lst ds))) s ∧ Sub (GV cm (fun a => Z a ∨ a = p) (Ow σ ρ) H) (GV cm Z (Ow (σ.set i (some (.ref p))) (ρ.set i (.own (.lst ds)))) H) := by
  have hiσ : i < σ.length := by rw [← r.len]; exact hi
  have sub : Sub (GV cm (fun a => Z a ∨ a = p) (Ow σ ρ) H) (GV cm Z (Ow (σ.set i (some (.ref p))) (ρ.set i (.own (.lst ds)))) H) := hid_sub fun a u n e => ⟨fun z => by
    rcases z with z | z | ⟨j, e, q1, q2⟩
    · exact n (.inl z)
    · exact n (.inr (.inl (.inl z)))
    · rcases set_get q1 with ⟨rfl, _, z⟩ | ⟨nj, z⟩
      · rw [List.getElem?_set_self hiσ] at q2
        cases q2
        exact n (.inr (.inl (.inr rfl)))
      · rw [List.getElem?_set_ne (Ne.symm nj)] at q2
        exact n (.inr (.inr ⟨j, e, z, q2⟩)), e⟩
  refine ⟨?_, sub⟩
  refine ⟨by rw [List.length_set, List.length_set]; exact r.len, fun j e h => ?_, fun j e h => ?_, fun j k e f a h1 h2 h3 h4 => ?_,
    ⟨r.cells.len, r.cells.nd, fun n a d e1 e2 => (r.cells.at_ n a d e1 e2).ext (.refl _) sub fun o z => z, r.cells.there, fun a m => r.cells.zok a (.inl m), r.cells.nosf⟩, r.base⟩
  · rcases set_get h with ⟨_, _, z⟩ | ⟨n, z⟩
    · cases z
    · obtain ⟨w, h1, h2⟩ := r.val j e z
      refine ⟨w, ?_, Rep.mono (.refl _) sub _ _ h2⟩
      rw [List.getElem?_set_ne (Ne.symm n)]
      exact h1
  · rcases set_get h with ⟨rfl, hl, z⟩ | ⟨n, z⟩
    · cases z
      refine ⟨p, ?_, ⟨xs, hx, Reps.mono (.refl _) sub _ _ q⟩, hc, nZ, ?_⟩
      · rw [List.getElem?_set_self hiσ]
      · exact hB
    · obtain ⟨a, h1, h2, h3, h4, h5⟩ := r.own j e z
      refine ⟨a, ?_, h2.ext (.refl _) sub fun o z => z, h3, fun q => h4 (.inl q), h5⟩
      rw [List.getElem?_set_ne (Ne.symm n)]
      exact h1
  · have key : ∀ (j : Nat) (e : D), (ρ.set i (.own (.lst ds)))[j]? = some (.own e) → (σ.set i (some (.ref p)))[j]? = some (some (V.ref a)) → (j = i ∧ a = p) ∨ (j ≠ i ∧ ρ[j]? = some (.own e) ∧ σ[j]? = some (some (.ref a)) ∧ a ≠ p) := fun j e q1 q2 => by
      rcases set_get q1 with ⟨rfl, _, z⟩ | ⟨nj, z⟩
      · rw [List.getElem?_set_self hiσ] at q2
        cases q2
        exact .inl ⟨rfl, rfl⟩
      · rw [List.getElem?_set_ne (Ne.symm nj)] at q2
        obtain ⟨b, h1, _, _, h4, _⟩ := r.own j e z
        rw [q2] at h1
        cases h1
        exact .inr ⟨nj, z, q2, fun e => h4 (.inr e)⟩
    rcases key j e h1 h3 with ⟨e1, e2⟩ | ⟨n1, z1, z2, z3⟩
    · rcases key k f h2 h4 with ⟨e3, e4⟩ | ⟨n2, y1, y2, y3⟩
      · rw [e1, e3]
      · exact absurd e2 y3
    · rcases key k f h2 h4 with ⟨e3, e4⟩ | ⟨n2, y1, y2, y3⟩
      · exact absurd e4 z3
      · exact r.apart j k e f a z1 y1 z2 y2

def setM : List Nat → List Bool → List D → List SD → Option (List SD)
  | [], [], [], ρ => some ρ
  | i :: is, m :: ms, d :: ds, ρ => if i < ρ.length then setM is ms ds (ρ.set i (match m with | true => .own d | false => .v d)) else none
  | _, _, _, _ => none
def setV : List Nat → List V → L2.St → L2.St
  | i :: is, v :: vs, σ => setV is vs (σ.set i (some v))
  | _, _, σ => σ
theorem Rel.setM {K : PySem.W.Frag} {T : Tb} {B : Hp} {Z : Addr → Prop} {cm : List Addr} {H : Hp} {s : S} {G : Hp} : ∀ (is : List Nat) {ms : List Bool} {ds : List D} {vs : List V} {ps : List Addr} {σ : L2.St} {ρ ρ' : List SD},
    Rel K T B (fun a => Z a ∨ a ∈ ps) cm σ H ρ s → MixR K T cm G H ms vs ds ps → Sub G (GV cm (fun a => Z a ∨ a ∈ ps) (Ow σ ρ) H) → ps.Nodup → (∀ p ∈ ps, p ∉ cm ∧ ¬ Z p ∧ B p = none) → Tv.setM is ms ds ρ = some ρ' → Rel K T B Z cm (setV is vs σ) H ρ' s
  | [], ms, ds, vs, ps, σ, ρ, ρ', r, m, hs, nd, hp, h => by
    cases m with
    | nil =>
      unfold Tv.setM at h
      cases h
      rw [or_nil] at r
      exact r
    | val _ _ => unfold Tv.setM at h; cases h
    | own _ _ _ => unfold Tv.setM at h; cases h
  | i :: is, ms, ds, vs, ps, σ, ρ, ρ', r, m, hs, nd, hp, h => by
    cases m with
    | nil => unfold Tv.setM at h; cases h
    | val q t =>
      unfold Tv.setM at h
      split at h
      · rename_i hl
        exact Rel.setM is (r.set (Rep.mono (.refl _) hs _ _ q)) t (hs.trans (sub_shrink fun a => ow_shrink)) nd hp h
      · cases h
    | @own p xs es ms vs ds ps e q t =>
      unfold Tv.setM at h
      split at h
      · rename_i hl
        have eZ : (fun a => Z a ∨ a ∈ p :: ps) = (fun a => (Z a ∨ a ∈ ps) ∨ a = p) := by
          funext a
          apply propext
          rw [List.mem_cons]
          constructor
          · rintro (h | h | h)
            · exact .inl (.inl h)
            · exact .inr h
            · exact .inl (.inr h)
          · rintro ((h | h) | h)
            · exact .inl h
            · exact .inr (.inr h)
            · exact .inr (.inl h)
        rw [eZ] at r hs
        obtain ⟨nd1, nd2⟩ := List.nodup_cons.mp nd
        obtain ⟨h1, h2, h3⟩ := hp p List.mem_cons_self
        obtain ⟨r', sub⟩ := Rel.setOwnZ (Z := fun a => Z a ∨ a ∈ ps) r hl (fun z => z.elim h2 nd1) h1 h3 e (Reps.mono (.refl _) hs _ _ q)
        exact Rel.setM is r' t (hs.trans sub) nd2 (fun a ha => hp a (List.mem_cons_of_mem _ ha)) h
      · cases h
def mPar (is : List Nat) (ms : List Bool) (lm : LM) : SM := fun ρ s => match lm ρ s with
  | .ok ds s1 => match setM is ms ds ρ with
    | some ρ' => .nx ρ' s1
    | none => .no
  | .er c ds s1 => .er c ds ρ s1
  | .no => .no
section
variable {X : Cx} {T : Tb} {W : WX} {ms : List Bool} {lm : LM} {a b c : Expr} {px py pz pt pos : Pos} {kt k2 pt2} {x y z : Str} {i j l : Nat}
theorem mPar_of {is : List Nat} {D0 : Ends} {σ : L2.St} {H : Hp} {Q : List V → Hp → Prop} (h : tS X.K T W (mPar is ms lm) D0 σ H)
    (q : ∀ vs H', vs.length = ms.length → D0.nx (setV is vs σ) H' → Q vs H') : tP X.K T W (AX X.K T ms) lm σ H Q := by
  obtain ⟨B, Z, cm, ρ, s, r, p⟩ := h
  refine ⟨B, Z, cm, ρ, s, r, tE_of (fun ds s' e vs H' cm' ex r' w => ?_) (fun c ds s' e cls dx H' cm' ex r' w => ?_) (fun e => ?_)⟩
  · unfold mPar at p
    rw [e] at p
    dsimp only at p
    split at p
    · rename_i ρ' e0
      obtain ⟨ps, k1, k2, k3, k4⟩ := w
      have lm : ∀ {ms : List Bool} {vs : List V} {ds : List D} {ps : List Addr} {G : Hp}, MixR X.K T cm' G H' ms vs ds ps → vs.length = ms.length := fun m => by
        induction m with
        | nil => rfl
        | val _ _ ih => rw [List.length_cons, List.length_cons, ih]
        | own _ _ _ ih => rw [List.length_cons, List.length_cons, ih]
      refine q vs H' (lm k4) (p _ H' cm' ex.pre (Rel.setM is k3 k4 (Sub.refl _) k2 (fun a ha => ⟨(k1 a ha).2, fun z => r.cells.zok a z (k1 a ha).1, ?_⟩) e0))
      cases hb : B a with
      | none => rfl
      | some o =>
        have := (r.base a o hb).1
        rw [(k1 a ha).1] at this
        cases this
    · exact p.elim
  · unfold mPar at p
    rw [e] at p
    exact p cls dx σ H' cm' ex.pre r' w
  · unfold mPar at p
    rw [e] at p
    exact p
theorem q_par {m1 m2 : Bool} (hc : X.calm = true) (hN : X.N.Nodup) (ha : QX X T W [m1, m2] [a, b] lm) (hi : X.N[i]? = some x := by rfl) (hj : X.N[j]? = some y := by rfl) (hij : i ≠ j := by decide)
    (hx : X.env.scope.names.lookup x = some .local := by rfl) (hy : X.env.scope.names.lookup y = some .local := by rfl)
    (hw : swappedStores [.Tuple [.Name x px, .Name y py] kt pt] (.Tuple [a, b] k2 pt2) X.env = pure (some [x, y]) := by rfl)
    (hs : swapsWithSole [.Tuple [.Name x px, .Name y py] kt pt] (.Tuple [a, b] k2 pt2) pos.line X.env = pure false := by rfl) :
    QSt X T W (.Assign [.Tuple [.Name x px, .Name y py] kt pt] (.Tuple [a, b] k2 pt2) pos) (mPar [i, j] [m1, m2] lm) :=
  PS.conv (ps_par hc hN hi hj hij hx hy ha hw hs) fun Ed σ H h => mPar_of h fun vs H' hl q => by
    match vs, hl with
    | [v, w], _ => exact ⟨v, w, rfl, q⟩
theorem q_par3 {m1 m2 m3 : Bool} (hc : X.calm = true) (hN : X.N.Nodup) (ha : QX X T W [m1, m2, m3] [a, b, c] lm) (hi : X.N[i]? = some x := by rfl) (hj : X.N[j]? = some y := by rfl) (hl : X.N[l]? = some z := by rfl) (hij : i ≠ j := by decide) (hil : i ≠ l := by decide) (hjl : j ≠ l := by decide)
    (hx : X.env.scope.names.lookup x = some .local := by rfl) (hy : X.env.scope.names.lookup y = some .local := by rfl) (hz : X.env.scope.names.lookup z = some .local := by rfl)
    (hw : swappedStores [.Tuple [.Name x px, .Name y py, .Name z pz] kt pt] (.Tuple [a, b, c] k2 pt2) X.env = pure (some [x, y, z]) := by rfl)
    (hs : swapsWithSole [.Tuple [.Name x px, .Name y py, .Name z pz] kt pt] (.Tuple [a, b, c] k2 pt2) pos.line X.env = pure false := by rfl) :
    QSt X T W (.Assign [.Tuple [.Name x px, .Name y py, .Name z pz] kt pt] (.Tuple [a, b, c] k2 pt2) pos) (mPar [i, j, l] [m1, m2, m3] lm) :=
  PS.conv (ps_par3 hc hN hi hj hl hij hil hjl hx hy hz ha hw hs) fun Ed σ H h => mPar_of h fun vs H' hl q => by
    match vs, hl with
    | [u, v, w], _ => exact ⟨u, v, w, rfl, q⟩
end
end Tv

/-! Tv12: defs and their calls -/
namespace Tv
open PySem PySem.Spec PyProof.Rows L2

abbrev O0 : Addr → Prop := fun _ => False
section
variable (K : PySem.W.Frag) (T : Tb)
/-- what a call is to give | r: what the callee reckons -/
def PostF (Z : Addr → Prop) (cm : List Addr) (H : Hp) (r : R D) (Q : VK) (E : XK) : Prop := match r with
  | .ok d s' => ∀ v H' cm', Ext cm H cm' H' → Cells K T Z O0 cm' H' s' → Rep K T cm' (GV cm' Z O0 H') v d → Q v H'
  | .er c ds s' => ∀ cls dx H' cm', Ext cm H cm' H' → Cells K T Z O0 cm' H' s' → ErrRep K T cm' (GV cm' Z O0 H') H' cls dx c ds → E cls dx H'
  | .no => False
def spD (n : Nat) (F : FM) : Sp := fun vs H Q E => vs.length = n ∧ ∃ cm Z ds s, Cells K T Z O0 cm H s ∧ Reps K T cm (GV cm Z O0 H) vs ds ∧ PostF K T Z cm H (F ds s) Q E
end
def mFun (e : Nat) (m : SM) : FM := fun ds s => match m (ds.map .v ++ List.replicate e .un) s with
  | .nx _ s' => .ok .non s'
  | .rt d s' => .ok d s'
  | .er c es _ s' => .er c es s'
  | _ => .no
section
variable {K : PySem.W.Frag} {T : Tb} {Z O : Addr → Prop} {cm cm1 : List Addr} {H H1 : Hp} {s s1 : S}
open Classical in
/-- all that is no cell -/
noncomputable def offC (cm : List Addr) (H : Hp) : Hp := fun a => if a ∈ cm then none else H a
theorem offC_some {a : Addr} {o : HO} : offC cm H a = some o ↔ a ∉ cm ∧ H a = some o := by
  unfold offC
  by_cases h : a ∈ cm
  · rw [if_pos h]
    exact ⟨fun z => by (have z : (none : Option HO) = some o := z; cases z), fun z => absurd h z.1⟩
  · rw [if_neg h]
    exact ⟨fun z => ⟨h, z⟩, fun z => z.2⟩
theorem Cells.fewer {O' : Addr → Prop} (c : Cells K T Z O cm H s) (h : ∀ a, O' a → O a) : Cells K T Z O' cm H s :=
  ⟨c.len, c.nd, fun n a d e1 e2 => (c.at_ n a d e1 e2).ext (.refl _) (sub_shrink h) fun _ e => e, c.there, c.zok, c.nosf⟩
theorem ow_args {ds : List D} {n : Nat} {σ : L2.St} : Ow σ (ds.map SD.v ++ List.replicate n SD.un) = O0 := by
  funext a
  apply propext
  constructor
  · rintro ⟨i, d, h1, h2⟩
    have := List.mem_of_getElem? h1
    rcases List.mem_append.mp this with z | z
    · obtain ⟨x, _, e⟩ := List.mem_map.mp z
      cases e
    · cases (List.mem_replicate.mp z).2
  · exact fun z => z.elim
theorem Rel.start {N : List Str} {vs : List V} {ds : List D} (c : Cells K T Z O0 cm H s) (r : Reps K T cm (GV cm Z O0 H) vs ds) (hl : vs.length ≤ N.length) : Rel K T (offC cm H) Z cm (L2.start N vs) H (ds.map SD.v ++ List.replicate (N.length - vs.length) SD.un) s where
  len := by
    unfold L2.start
    rw [List.length_append, List.length_append, List.length_map, List.length_map, List.length_replicate, List.length_replicate, r.len]
  val := fun i d h => by
    rw [ow_args]
    by_cases hi : i < ds.length
    · rw [List.getElem?_append_left (by rw [List.length_map]; exact hi), List.getElem?_map] at h
      cases e : ds[i]? with
      | none => rw [e] at h; cases h
      | some d' =>
        rw [e] at h
        cases h
        obtain ⟨v, h1, h2⟩ := r.get e
        refine ⟨v, ?_, h2⟩
        unfold L2.start
        rw [List.getElem?_append_left (by rw [List.length_map, r.len]; exact hi), List.getElem?_map, h1]
        rfl
    · rw [List.getElem?_append_right (by rw [List.length_map]; omega)] at h
      have := List.mem_of_getElem? h
      cases (List.mem_replicate.mp this).2
  own := fun i d h => by
    have := List.mem_of_getElem? h
    rcases List.mem_append.mp this with z | z
    · obtain ⟨x, _, e⟩ := List.mem_map.mp z
      cases e
    · cases (List.mem_replicate.mp z).2
  apart := fun i j d e a h1 _ _ _ => by
    have := List.mem_of_getElem? h1
    rcases List.mem_append.mp this with z | z
    · obtain ⟨x, _, e⟩ := List.mem_map.mp z
      cases e
    · cases (List.mem_replicate.mp z).2
  cells := by rw [ow_args]; exact c
  base := fun a o h => by
    obtain ⟨h1, h2⟩ := offC_some.mp h
    exact ⟨h2, h1⟩
theorem Rel.extC {σ : L2.St} {ρ : List SD} (r : Rel K T (offC cm H) Z cm1 σ H1 ρ s1) (p : Pre cm cm1) : Ext cm H cm1 H1 :=
  ⟨p, fun a o h n => r.base a o (offC_some.mpr ⟨n, h⟩), fun a h => by
    by_cases q : a ∈ cm
    · exact r.cells.there a (p.mem q)
    · cases e : H a with
      | none => exact absurd e h
      | some o => rw [(r.base a o (offC_some.mpr ⟨q, e⟩)).1]; intro z; cases z⟩
end
section
variable {P : Program} {w : World} {K : PySem.W.Frag} {mg : Str → Option Value} {base : Heap} {T : Tb} {x qual : Str} {params : Arguments} {body : List Stmt} {scope : Scope} {dvs : List V} {kws : List (Str × V)} {f : Addr} {fd : FuncData}
theorem post_fn {m : SM} {ds : List D} {e : Nat} {s : S} {Z : Addr → Prop} {cm : List Addr} {H : Hp} {Q : VK} {E : XK} (h : PostF K T Z cm H (mFun e m ds s) Q E) :
    PostS K T (offC cm H) Z cm (fun cls d _ H => E cls d H) (m (ds.map .v ++ List.replicate e .un) s) { nx := fun _ H' => Q .non H', rt := Q } := by
  unfold mFun at h
  cases e0 : m (ds.map .v ++ List.replicate e .un) s with
  | nx ρ' s' =>
    rw [e0] at h
    exact fun σ H' cm' p r => h .non H' cm' (r.extC p) (r.cells.fewer fun a z => z.elim) .non
  | rt d s' =>
    rw [e0] at h
    exact fun v σ H' cm' ρ p r z => h v H' cm' (r.extC p) (r.cells.fewer fun a z => z.elim) (Rep.mono (.refl _) (sub_shrink fun a z => z.elim) _ _ z)
  | er c es ρ' s' =>
    rw [e0] at h
    exact fun cls dx σ H' cm' p r z => h cls dx H' cm' (r.extC p) (r.cells.fewer fun a z => z.elim) (z.mono (.refl _) (sub_shrink fun a z => z.elim) fun _ _ h => h)
  | bk ρ' s' => rw [e0] at h; exact h.elim
  | ct ρ' s' => rw [e0] at h; exact h.elim
  | no => rw [e0] at h; exact h.elim
/-- a def keeps what its body reckons -/
theorem fn_ok {N ps : List Str} {k : Nat} {m : SM} (F : FunD K x qual params body scope dvs kws f fd) (S : FnScope N ps scope) (hN : ps.length ≤ N.length)
    (hbody : ∀ (cdv : Value) (A : Around) (outer : List Env) (s : Shared) (H : Hp) (E : XK), Room k (A.deeper (envOfC qual scope s.heap.objs.size f cdv)) →
      QSs (cxOf (L2.CX P w) P w K mg base N qual scope f cdv A outer s H E) T (fun cls d _ H => E cls d H) body m) : FnOk P w K mg base (L2.CX P w) (k + 1) f fd ps (spD K T ps.length (mFun (N.length - ps.length) m)) := by
  refine F.ok S (fun vs H Q E h => h.1) (fun cdv A outer s H vs Q E hr h => ⟨tS K T (fun cls d _ H => E cls d H) m, hbody cdv A outer s H E hr, ?_⟩)
  obtain ⟨hl, cm, Z, ds, s0, c, r, p⟩ := h
  exact ⟨offC cm H, Z, cm, _, s0, Rel.start c r (by omega), by rw [hl]; exact post_fn p⟩
/-- a def that may be called by its name; dfl: defaults that fill up -/
structure Fn (P : Program) (w : World) (K : PySem.W.Frag) (mg : Str → Option Value) (base : Heap) (T : Tb) (k : Nat) (x : Str) (n : Nat) (F : FM) : Prop where
  ex : ∃ f fd ps, FnOk P w K mg base (L2.CX P w) k f fd ps (spD K T n F) ∧ mg x = some (.ref f) ∧ PySem.W.keepIn K (.ref f) = true ∧ Binds K fd ps []
theorem Fn.mk_ {k n : Nat} {ps : List Str} {F : FM} (h : FnOk P w K mg base (L2.CX P w) k f fd ps (spD K T n F)) (hm : mg x = some (.ref f)) (hk : PySem.W.keepIn K (.ref f) = true) (b : Binds K fd ps []) : Fn P w K mg base T k x n F := ⟨f, fd, ps, h, hm, hk, b⟩
theorem Fn.le {k j n : Nat} {F : FM} (h : Fn P w K mg base T k x n F) (e : k ≤ j) : Fn P w K mg base T j x n F := by
  obtain ⟨f, fd, ps, h1, h2⟩ := h.ex
  exact ⟨f, fd, ps, h1.mono e, h2⟩
end
def mCallF (F : FM) (lm : LM) : EM := fun ρ s => (lm ρ s).bind fun ds s1 => F ds s1
section
variable {X : Cx} {T : Tb} {W : WX} {n j k : Nat} {x : Str} {F : FM} {e : Expr} {es : List Expr} {lm : LM} {p pos : Pos}
/-- from the caller's frame to the callee's and back -/
theorem spD_of {F0 : Fm} {cm : List Addr} {H : Hp} {s : S} {vs : List V} {ds : List D} {Q : VK} (r : FRel X.K T F0 cm H s) (rv : Reps X.K T cm (F0.G cm H) vs ds) (hn : vs.length = n) (p : Post X.K T F0 cm H W (AR X.K T) (F ds s) Q) :
    spD X.K T n F vs H Q (fun cls d H' => W cls d F0.σ H') := by
  have eG : ∀ cm H, GV cm (fun a => F0.Z a ∨ F0.O a) O0 H = F0.G cm H := fun cm H => by
    have e : HidP cm (fun a => F0.Z a ∨ F0.O a) O0 = HidP cm F0.Z F0.O := by
      funext a
      apply propext
      unfold HidP
      constructor
      · rintro (h | h | h)
        · exact .inl h
        · exact .inr h
        · exact h.elim
      · rintro (h | h)
        · exact .inl h
        · exact .inr (.inl h)
    show hid (HidP cm (fun a => F0.Z a ∨ F0.O a) O0) H = hid (HidP cm F0.Z F0.O) H
    rw [e]
  have back : ∀ {H' cm' s'}, Ext cm H cm' H' → Cells X.K T (fun a => F0.Z a ∨ F0.O a) O0 cm' H' s' → FRel X.K T F0 cm' H' s' := fun {H' cm' s'} ex c => by
    refine Rel.ext r ex ⟨c.len, c.nd, fun n a d e1 e2 => ?_, c.there, fun a z => c.zok a (.inl z), c.nosf⟩
    have := c.at_ n a d e1 e2
    rw [eG] at this
    exact this
  refine ⟨hn, cm, fun a => F0.Z a ∨ F0.O a, ds, s, ⟨r.cells.len, r.cells.nd, fun n a d e1 e2 => ?_, r.cells.there, fun a z => ?_, r.cells.nosf⟩, by rw [eG]; exact rv, ?_⟩
  · rw [eG]
    exact r.cells.at_ n a d e1 e2
  · exact r.hidden (.inr z)
  · cases e : F ds s with
    | ok d s' =>
      rw [e] at p
      exact fun v H' cm' ex c z => p v H' cm' ex (back ex c) (by rw [eG] at z; exact z)
    | er c es s' =>
      rw [e] at p
      exact fun cls dx H' cm' ex c z => p cls dx H' cm' ex (back ex c) (by rw [eG] at z; exact z)
    | no => rw [e] at p; exact p
theorem tCallF_of {σ : L2.St} {H : Hp} {Q : VK} (h : tP X.K T W (AR X.K T) (mCallF F lm) σ H Q) : tCallS (spD X.K T n F) (WE W) (tP X.K T W (ALn X.K T n) lm) σ H Q := by
  refine h.bind (ALn X.K T n) up_AR fun B Z cm ρ x H1 ⟨cm1, dx, s1, e1, r1, a1, p1⟩ => ?_
  exact spD_of (F0 := ⟨B, Z, σ, ρ⟩) r1 a1.1 a1.2 p1
theorem q_call (c : Fn X.prog X.w X.K X.mg X.base T k x n F) (hr : Room j X.A) (tk : Takes X W) (hk : k ≤ j := by decide) (hg : Gl X x := by rfl) (ha : QS X T W n (e :: es) lm) (hdb : (x == ("__debug__" : Str)) = false := by decide) (he : starEach (e :: es) X.env = (false, eval e X.env) :: starEach es X.env := by rfl) (hpl : (backTo pos (starEach es X.env)).any (·.1) = false := by rfl) :
    QE X T W (.Call (.Name x p) (e :: es) [] pos) (mCallF F lm) := by
  obtain ⟨f, fd, ps, hF, hm, hkp, hb⟩ := c.ex
  exact PE.conv (pe_callS hF (hr.mono hk) hg hm hkp hb (fun σ => passAt tk σ) ha hdb he hpl) fun σ H Q h => tCallF_of h
theorem q_call0 (c : Fn X.prog X.w X.K X.mg X.base T k x 0 F) (hr : Room j X.A) (tk : Takes X W) (hk : k ≤ j := by decide) (hg : Gl X x := by rfl) (hdb : (x == ("__debug__" : Str)) = false := by decide) :
    QE X T W (.Call (.Name x p) [] [] pos) (mCallF F mNil) := by
  obtain ⟨f, fd, ps, hF, hm, hkp, hb⟩ := c.ex
  refine ⟨fun pins s σ H Q I h => ?_⟩
  refine wpAny_Call_Name_kw (ld_glob I hg hm ?_ hdb)
  obtain ⟨B, Z, cm, ρ, s0, r, p⟩ := h
  exact PySem.W.callWith_K0 I.kIn hkp (run_fnS (us := []) (vs := []) (E := WE W) hF (hr.mono hk) hb (passAt tk σ) I .nil (spD_of (F0 := ⟨B, Z, σ, ρ⟩) r .nil rfl p))
end
end Tv

/-! Tv13: classes: making, fields, methods, own == -/
namespace Tv
open PySem PySem.Spec PyProof.Rows L2

def Tb.w (T : Tb) (o : Option Addr) : Tb := { T with self := o }
section
variable {K : PySem.W.Frag} {T : Tb} {o : Option Addr} {cm : List Addr} {G H : Hp} {Z O : Addr → Prop} {s : S}
mutual
theorem Rep.tb : ∀ (d : D) (v : V), Rep K T cm G v d → Rep K (T.w o) cm G v d
  | .non, _, h => by cases h; exact .non
  | .bl b, _, h => by cases h; exact .bl b
  | .int i, _, h => by cases h; exact .int i
  | .str x, _, h => by cases h; exact .str x
  | .tup ds, _, h => by
    cases h with
    | tup hs hr => exact .tup hs (Reps.tb ds _ hr)
  | .lst ds, _, h => by
    cases h with
    | lst hs hr => exact .lst hs (Reps.tb ds _ hr)
  | .frz ds, _, h => by
    cases h with
    | frz hs hr => exact .frz hs (Reps.tb ds _ hr)
  | .ins c ds, _, h => by
    cases h with
    | ins ha hn hr => exact .ins (T := T.w o) ha hn (Reps.tb ds _ hr)
  | .cell n, _, h => by
    cases h with
    | cell e => exact .cell e
  | .fn n, _, h => by
    cases h
    exact .fn (T := T.w o) n
  | .dic ks ds, _, h => by
    cases h with
    | dic ha hr => exact .dic ha (Reps.tb ds _ hr)
  | .exc _ _, _, h => by
    cases h with
    | exc0 e => exact .exc0 (T := T.w o) e
    | exc1 e ha hn hr => exact .exc1 (T := T.w o) e ha hn (Reps.tb _ _ hr)
  | .lam _, _, h => by
    cases h with
    | lam e e2 => exact .lam (T := T.w o) e e2
  | .sf _ _, _, h => by cases h
  | .tab _, _, h => by cases h
theorem Reps.tb : ∀ (ds : List D) (vs : List V), Reps K T cm G vs ds → Reps K (T.w o) cm G vs ds
  | [], _, h => by cases h; exact .nil
  | d :: ds, _, h => by
    cases h with
    | cons h1 h2 => exact .cons (Rep.tb d _ h1) (Reps.tb ds _ h2)
end
theorem Rep.bt {d : D} {v : V} (h : Rep K (T.w o) cm G v d) : Rep K T cm G v d := Rep.tb (T := T.w o) (o := T.self) d v h
theorem Reps.bt {d : List D} {v : List V} (h : Reps K (T.w o) cm G v d) : Reps K T cm G v d := Reps.tb (T := T.w o) (o := T.self) d v h
theorem OwnRep.tb {a : Addr} {d : D} (h : OwnRep K T cm G H a d) (hs : d.isSf = false) : OwnRep K (T.w o) cm G H a d := by
  cases d with
  | lst ds =>
    obtain ⟨xs, h1, h2⟩ := h
    exact ⟨xs, h1, Reps.tb _ _ h2⟩
  | ins c ds =>
    obtain ⟨dx, fs, h1, h2, h3⟩ := h
    exact ⟨dx, fs, h1, h2, Reps.tb _ _ h3⟩
  | sf c ds => cases hs
  | tab n => exact h
  | _ => exact h.elim
theorem Cells.tb (c : Cells K T Z O cm H s) : Cells K (T.w o) Z O cm H s :=
  ⟨c.len, c.nd, fun n a d e1 e2 => (c.at_ n a d e1 e2).tb (c.nosf d (List.mem_of_getElem? e2)), c.there, c.zok, c.nosf⟩
theorem Cells.bt (c : Cells K (T.w o) Z O cm H s) : Cells K T Z O cm H s := Cells.tb (T := T.w o) (o := T.self) c
theorem ErrRep.tb {cls : Value} {dx : Option Addr} {c : Nat} {ds : List D} (h : ErrRep K T cm G H cls dx c ds) : ErrRep K (T.w o) cm G H cls dx c ds := by
  obtain ⟨h1, h2⟩ := h
  refine ⟨h1, ?_⟩
  rcases h2 with h2 | ⟨dx, gs, h2, h3, h4, h5⟩
  · exact .inl h2
  · exact .inr ⟨dx, gs, h2, h3, h4, Reps.tb _ _ h5⟩
theorem ErrRep.bt {cls : Value} {dx : Option Addr} {c : Nat} {ds : List D} (h : ErrRep K (T.w o) cm G H cls dx c ds) : ErrRep K T cm G H cls dx c ds := ErrRep.tb (T := T.w o) (o := T.self) h
theorem PostF.tb {r : R D} {Q : VK} {E : XK} (p : PostF K T Z cm H r Q E) : PostF K (T.w o) Z cm H r Q E := by
  cases r with
  | ok d s' => exact fun v H' cm' ex c z => p v H' cm' ex c.bt z.bt
  | er c ds s' => exact fun cls dx H' cm' ex c z => p cls dx H' cm' ex c.bt z.bt
  | no => exact p
theorem spD_tb {n : Nat} {F : FM} {vs : List V} {Q : VK} {E : XK} (h : spD K (T.w o) n F vs H Q E) : spD K T n F vs H Q E := by
  obtain ⟨hl, cm, Z, ds, s, c, r, p⟩ := h
  exact ⟨hl, cm, Z, ds, s, c.bt, r.bt, PostF.tb (T := T.w o) (o := T.self) p⟩
theorem Fn.tb {P : Program} {w : World} {mg : Str → Option Value} {base : Heap} {k n : Nat} {x : Str} {F : FM} (h : Fn P w K mg base T k x n F) : Fn P w K mg base (T.w o) k x n F := by
  obtain ⟨f, fd, ps, h1, h2⟩ := h.ex
  exact ⟨f, fd, ps, h1.imp fun vs H Q E z => spD_tb z, h2⟩
end

/-! ### __init__ -/
structure ExtX (x : Addr) (cm : List Addr) (H : Hp) (cm' : List Addr) (H' : Hp) : Prop where
  pre : Pre cm cm'
  keep : ∀ a o, H a = some o → a ∉ cm → a ≠ x → H' a = some o ∧ a ∉ cm'
  there : ∀ a, a ≠ x → H a ≠ none → H' a ≠ none
section
variable (K : PySem.W.Frag) (T : Tb)
def PostI (Z : Addr → Prop) (cm : List Addr) (x : Addr) (H : Hp) (r : R D) (Q : VK) (E : XK) : Prop := match r with
  | .ok d s' => ∀ H' cm', ExtX x cm H cm' H' → Cells K T Z O0 cm' H' s' → Rep K T cm' (GV cm' Z O0 H') (.ref x) d → Q .non H'
  | .er c ds s' => ∀ cls dx H' cm', ExtX x cm H cm' H' → Cells K T Z O0 cm' H' s' → ErrRep K T cm' (GV cm' Z O0 H') H' cls dx c ds → E cls dx H'
  | .no => False
def spI (c n : Nat) (F : FM) : Sp := fun vs H Q E => vs.length = n + 1 ∧ ∃ x rest cm Z ds s dx, vs = .ref x :: rest ∧ H x = some (.ins (T.cls c) dx []) ∧ x ∉ cm ∧ ¬ Z x ∧ Cells K T Z (fun a => a = x) cm H s ∧ Reps K T cm (GV cm Z (fun a => a = x) H) rest ds ∧ PostI K T Z cm x H (F ds s) Q E
end
def mInit (c nf e : Nat) (m : SM) : FM := fun ds s => match m (.own (.sf c []) :: (ds.map .v ++ List.replicate e .un)) s with
  | .nx ρ' s' => match (ρ'[0]? : Option SD) with
    | some (.own (.sf c' fs)) => if c' = c ∧ fs.length = nf then .ok (.ins c fs) s' else .no
    | _ => .no
  | .er k es _ s' => .er k es s'
  | _ => .no
section
variable {K : PySem.W.Frag} {T : Tb} {Z : Addr → Prop} {cm cm1 : List Addr} {H H1 : Hp} {s s1 : S} {x : Addr}
open Classical in
noncomputable def offX (x : Addr) (cm : List Addr) (H : Hp) : Hp := fun a => if a ∈ cm ∨ a = x then none else H a
theorem offX_some {a : Addr} {o : HO} : offX x cm H a = some o ↔ (a ∉ cm ∧ a ≠ x) ∧ H a = some o := by
  unfold offX
  by_cases h : a ∈ cm ∨ a = x
  · rw [if_pos h]
    exact ⟨fun z => by (have z : (none : Option HO) = some o := z; cases z), fun z => absurd h (fun q => q.elim z.1.1 z.1.2)⟩
  · rw [if_neg h]
    exact ⟨fun z => ⟨⟨fun q => h (.inl q), fun q => h (.inr q)⟩, z⟩, fun z => z.2⟩
theorem ow_init {c : Nat} {ds : List D} {n : Nat} {σ : L2.St} : Ow (some (.ref x) :: σ) (SD.own (.sf c []) :: (ds.map SD.v ++ List.replicate n SD.un)) = fun a => a = x := by
  funext a
  apply propext
  constructor
  · rintro ⟨i, d, h1, h2⟩
    cases i with
    | zero =>
      have h2 : some (some (V.ref x)) = some (some (V.ref a)) := h2
      cases h2
      rfl
    | succ i =>
      have h1 : (ds.map SD.v ++ List.replicate n SD.un)[i]? = some (.own d) := h1
      have := List.mem_of_getElem? h1
      rcases List.mem_append.mp this with z | z
      · obtain ⟨x, _, e⟩ := List.mem_map.mp z
        cases e
      · cases (List.mem_replicate.mp z).2
  · rintro rfl
    exact ⟨0, _, rfl, rfl⟩
theorem Rel.startI {N : List Str} {vs : List V} {ds : List D} {c : Nat} {dx : Addr} (hx : H x = some (.ins (T.cls c) dx [])) (hc : x ∉ cm) (hz : ¬ Z x) (cl : Cells K T Z (fun a => a = x) cm H s) (r : Reps K T cm (GV cm Z (fun a => a = x) H) vs ds) (hl : vs.length + 1 ≤ N.length) :
    Rel K (T.w (some x)) (offX x cm H) Z cm (L2.start N (.ref x :: vs)) H (SD.own (.sf c []) :: (ds.map SD.v ++ List.replicate (N.length - (vs.length + 1)) SD.un)) s := by
  have eσ : L2.start N (.ref x :: vs) = some (.ref x) :: (vs.map some ++ List.replicate (N.length - (vs.length + 1)) none) := rfl
  rw [eσ]
  refine ⟨?_, fun i d h => ?_, fun i d h => ?_, fun i j d e a h1 h2 _ _ => ?_, ?_, fun a o h => ?_⟩
  · rw [List.length_cons, List.length_cons, List.length_append, List.length_append, List.length_map, List.length_map, List.length_replicate, List.length_replicate, r.len]
  · rw [ow_init]
    cases i with
    | zero => cases h
    | succ i =>
      have h : (ds.map SD.v ++ List.replicate (N.length - (vs.length + 1)) SD.un)[i]? = some (.v d) := h
      by_cases hi : i < ds.length
      · rw [List.getElem?_append_left (by rw [List.length_map]; exact hi), List.getElem?_map] at h
        cases e : ds[i]? with
        | none => rw [e] at h; cases h
        | some d' =>
          rw [e] at h
          cases h
          obtain ⟨v, h1, h2⟩ := r.get e
          refine ⟨v, ?_, Rep.tb _ _ h2⟩
          show (vs.map some ++ List.replicate (N.length - (vs.length + 1)) none)[i]? = _
          rw [List.getElem?_append_left (by rw [List.length_map, r.len]; exact hi), List.getElem?_map, h1]
          rfl
      · rw [List.getElem?_append_right (by rw [List.length_map]; omega)] at h
        have := List.mem_of_getElem? h
        cases (List.mem_replicate.mp this).2
  · rw [ow_init]
    cases i with
    | zero =>
      cases h
      refine ⟨x, rfl, ⟨rfl, dx, [], hx, by simp, .nil⟩, hc, hz, ?_⟩
      unfold offX
      rw [if_pos (.inr rfl)]
    | succ i =>
      have h : (ds.map SD.v ++ List.replicate (N.length - (vs.length + 1)) SD.un)[i]? = some (.own d) := h
      have := List.mem_of_getElem? h
      rcases List.mem_append.mp this with z | z
      · obtain ⟨x, _, e⟩ := List.mem_map.mp z
        cases e
      · cases (List.mem_replicate.mp z).2
  · have key : ∀ (i : Nat) (d : D), (SD.own (.sf c []) :: (ds.map SD.v ++ List.replicate (N.length - (vs.length + 1)) SD.un))[i]? = some (.own d) → i = 0 := fun i d h => by
      cases i with
      | zero => rfl
      | succ i =>
        have h : (ds.map SD.v ++ List.replicate (N.length - (vs.length + 1)) SD.un)[i]? = some (.own d) := h
        have := List.mem_of_getElem? h
        rcases List.mem_append.mp this with z | z
        · obtain ⟨x, _, e⟩ := List.mem_map.mp z
          cases e
        · cases (List.mem_replicate.mp z).2
    rw [key i d h1, key j e h2]
  · rw [ow_init]
    exact cl.tb
  · obtain ⟨h1, h2⟩ := offX_some.mp h
    exact ⟨h2, h1.1⟩
theorem Rel.extX {T' : Tb} {σ : L2.St} {ρ : List SD} (r : Rel K T' (offX x cm H) Z cm1 σ H1 ρ s1) (p : Pre cm cm1) : ExtX x cm H cm1 H1 :=
  ⟨p, fun a o h n n' => r.base a o (offX_some.mpr ⟨⟨n, n'⟩, h⟩), fun a q2 h => by
    by_cases q : a ∈ cm
    · exact r.cells.there a (p.mem q)
    · cases e : H a with
      | none => exact absurd e h
      | some o => rw [(r.base a o (offX_some.mpr ⟨⟨q, q2⟩, e⟩)).1]; intro z; cases z⟩
end
section
variable {P : Program} {w : World} {K : PySem.W.Frag} {mg : Str → Option Value} {base : Heap} {T : Tb} {x qual : Str} {params : Arguments} {body : List Stmt} {scope : Scope} {dvs : List V} {kws : List (Str × V)} {f : Addr} {fd : FuncData}
theorem init_ok {N ps : List Str} {p0 : Str} {k c nf : Nat} {m : SM} (F : FunD K x qual params body scope dvs kws f fd) (S : FnScope N (p0 :: ps) scope) (hN : ps.length + 1 ≤ N.length) (hnf : (T.fl c).length = nf)
    (hbody : ∀ (cdv : Value) (A : Around) (outer : List Env) (s : Shared) (H : Hp) (E : XK) (a : Addr), Room k (A.deeper (envOfC qual scope s.heap.objs.size f cdv)) →
      QSs (cxOf (L2.CX P w) P w K mg base N qual scope f cdv A outer s H E) (T.w (some a)) (fun cls d _ H => E cls d H) body m)
 : FnOk P w K mg base (L2.CX P w) (k + 1) f fd (p0 :: ps) (spI K T c ps.length (mInit c nf (N.length - (ps.length + 1)) m)) := by
  refine F.ok S (fun vs H Q E h => h.1) (fun cdv A outer s H vs Q E hr h => ?_)
  obtain ⟨hl, a, rest, cm, Z, ds, s0, dx, rfl, hx, hc, hz, cl, r, p⟩ := h
  have hl' : rest.length = ps.length := by simpa using hl
  refine ⟨tS K (T.w (some a)) (fun cls d _ H => E cls d H) m, hbody cdv A outer s H E a hr, ?_⟩
  refine ⟨offX a cm H, Z, cm, _, s0, Rel.startI hx hc hz cl r (by omega), ?_⟩
  rw [hl']
  unfold mInit at p
  -- the instance stays: nobody frees; told by the frame where it is owned, else by the exception's road
  cases e0 : m (SD.own (.sf c []) :: (ds.map .v ++ List.replicate (N.length - (ps.length + 1)) .un)) s0 with
  | nx ρ' s' =>
    rw [e0] at p
    dsimp only at p
    split at p
    · rename_i c' fs e1
      split at p
      · rename_i hcf
        obtain ⟨rfl, hlen⟩ := hcf
        refine fun σ' H' cm' pr r' => ?_
        obtain ⟨b, h1, ⟨h2, dx', gs, h3, h4, h5⟩, h6, h7, h8⟩ := r'.own 0 _ e1
        have eb : b = a := by
          have : some a = some b := h2
          exact (Option.some.inj this).symm
        subst eb
        refine p H' cm' (r'.extX pr) (r'.cells.fewer fun a z => z.elim).bt ?_
        refine .ins (hid_some.mpr ⟨fun z => ?_, h3⟩) ?_ (Reps.bt (Reps.mono (.refl _) (sub_shrink fun a z => z.elim) _ _ h5))
        · rcases z with z | z | z
          · exact h6 z
          · exact h7 z
          · exact z
        · rw [h4, hlen, ← hnf]
          exact List.take_length
      · exact p.elim
    · exact p.elim
  | rt d s' => rw [e0] at p; exact p.elim
  | er k es ρ' s' =>
    rw [e0] at p
    exact fun cls dx' σ' H' cm' pr r' z => p cls dx' H' cm' (r'.extX pr) (r'.cells.fewer fun a z => z.elim).bt (z.mono (.refl _) (sub_shrink fun a z => z.elim) fun _ _ h => h).bt
  | bk ρ' s' => rw [e0] at p; exact p.elim
  | ct ρ' s' => rw [e0] at p; exact p.elim
  | no => rw [e0] at p; exact p.elim
end

/-! ### making -/
section
variable {P : Program} {w : World} {K : PySem.W.Frag} {mg : Str → Option Value} {base : Heap} {T : Tb}
/-- a class that may be made by its name; F: what its __init__ reckons -/
structure Mak (P : Program) (w : World) (K : PySem.W.Frag) (mg : Str → Option Value) (base : Heap) (T : Tb) (k : Nat) (x : Str) (c n : Nat) (F : FM) : Prop where
  ex : ∃ f fd ps, Mk K (T.cls c) f ∧ FnOk P w K mg base (L2.CX P w) k f fd ps (spI K T c n F) ∧ mg x = some (.ref (T.cls c)) ∧ Binds K fd ps []
theorem PostI.tb {o : Option Addr} {Z : Addr → Prop} {cm : List Addr} {x : Addr} {H : Hp} {r : R D} {Q : VK} {E : XK} (p : PostI K T Z cm x H r Q E) : PostI K (T.w o) Z cm x H r Q E := by
  cases r with
  | ok d s' => exact fun H' cm' ex c z => p H' cm' ex c.bt z.bt
  | er c ds s' => exact fun cls dx H' cm' ex c z => p cls dx H' cm' ex c.bt z.bt
  | no => exact p
theorem Mak.tb {o : Option Addr} {k c n : Nat} {x : Str} {F : FM} (h : Mak P w K mg base T k x c n F) : Mak P w K mg base (T.w o) k x c n F := by
  obtain ⟨f, fd, ps, h1, h2, h3⟩ := h.ex
  refine ⟨f, fd, ps, h1, h2.imp fun vs H Q E z => ?_, h3⟩
  obtain ⟨hl, x, rest, cm, Z, ds, s, dx, e, hx, hc, hz, cl, r, p⟩ := z
  exact ⟨hl, x, rest, cm, Z, ds, s, dx, e, hx, hc, hz, cl.bt, r.bt, PostI.tb (T := T.w o) (o := T.self) p⟩
theorem Mak.le {k j c n : Nat} {x : Str} {F : FM} (h : Mak P w K mg base T k x c n F) (e : k ≤ j) : Mak P w K mg base T j x c n F := by
  obtain ⟨f, fd, ps, h1, h2, h3⟩ := h.ex
  exact ⟨f, fd, ps, h1, h2.mono e, h3⟩
end
section
variable {X : Cx} {T : Tb} {W : WX} {n j k c : Nat} {x : Str} {F : FM} {e : Expr} {es : List Expr} {lm : LM} {p pos : Pos}
theorem run_makeS {CX : CXT} {C f : Addr} {fd : FuncData} {ps : List Str} {sp : Sp} {E : XK} {pins : List (Addr × Obj)} {σ : L2.St} {H : Hp} {s : Shared} {Q : VK} {us : List Value} {vs : List V} (M : Mk X.K C f) (F : FnOk X.prog X.w X.K X.mg X.base CX k f fd ps sp) (hr : Room (k + 1) X.A) (hb : Binds X.K fd ps [])
    (hx : PassesAt CX X σ E) (I : Inv X pins σ H s) (r : Vals vs us)
    (h : ∀ x dx, H x = none → H dx = none → dx ≠ x → sp (.ref x :: vs) (upd (upd H dx (.own x)) x (.ins C dx [])) (fun v H2 => v = .non ∧ Q (.ref x) H2) E) :
    wpAny (model X.prog X.w) X.A (call (.ref C) us) (EP X pins σ Q) X.xe s := by
  have hq := h (s.heap.objs.size + 1) s.heap.objs.size (I.hok.fresh (Nat.le_succ _)) (I.hok.fresh (Nat.le_refl _)) (Nat.ne_of_lt (Nat.lt_succ_self _))
  have I2 := Inv.made (C := C) I
  have r2 : Vals (V.ref (s.heap.objs.size + 1) :: vs) (Value.ref (s.heap.objs.size + 1) :: us) := .cons rfl r
  have hl : (Value.ref (s.heap.objs.size + 1) :: us).length = ps.length := by
    have e := r2.length
    rw [F.len _ _ _ _ hq] at e
    exact e.symm
  have b := hb (s := _) (Value.ref (s.heap.objs.size + 1) :: us) I2.kIn (by rw [List.append_nil]; exact hl)
  rw [List.append_nil] at b
  refine wpAny_call (make_map (f := f) I.kIn M.makes M.init (beq_iff_eq.mp M.fn) (codeAny_mono (F.run _ X.stack _ _ ⟨Value.ref (s.heap.objs.size + 1) :: us, []⟩ (Value.ref (s.heap.objs.size + 1) :: us) _ _ E (hr.make C us [])
    (I2.env0.make C us []) b r2 hq) fun r s' hq' => ?_))
  cases r with
  | error e => exact hx pins _ _ e s' I2 hq'
  | ok fl =>
    cases fl with
    | ret u =>
      obtain ⟨v, H', I3, rv, ev, q3⟩ := I2.after hq'
      subst ev
      exact ⟨rv, ⟨V.ref (s.heap.objs.size + 1), H', I3, rfl, q3⟩⟩
    | next => exact False.elim hq'
    | brk => exact False.elim hq'
    | cont => exact False.elim hq'
theorem eG_zo {cm : List Addr} {Z O : Addr → Prop} {H : Hp} : GV cm (fun a => Z a ∨ O a) O0 H = GV cm Z O H := by
  have e : HidP cm (fun a => Z a ∨ O a) O0 = HidP cm Z O := by
    funext a
    apply propext
    unfold HidP
    constructor
    · rintro (h | h | h)
      · exact .inl h
      · exact .inr h
      · exact h.elim
    · rintro (h | h)
      · exact .inl h
      · exact .inr (.inl h)
  show hid (HidP cm (fun a => Z a ∨ O a) O0) H = hid (HidP cm Z O) H
  rw [e]
theorem spI_of {F0 : Fm} {cm : List Addr} {H : Hp} {s : S} {vs : List V} {ds : List D} {Q : VK} (r : FRel X.K T F0 cm H s) (rv : Reps X.K T cm (F0.G cm H) vs ds) (hn : vs.length = n) (p : Post X.K T F0 cm H W (AR X.K T) (F ds s) Q)
    (x dx : Addr) (hx : H x = none) (hdx : H dx = none) (hne : dx ≠ x) : spI X.K T c n F (.ref x :: vs) (upd (upd H dx (.own x)) x (.ins (T.cls c) dx [])) (fun v H2 => v = .non ∧ Q (.ref x) H2) (fun cls d H' => W cls d F0.σ H') := by
  have hx2 : upd H dx (.own x) x = none := by rw [upd_ne (Ne.symm hne)]; exact hx
  have sub0 : Sub H (upd (upd H dx (.own x)) x (.ins (T.cls c) dx [])) := (sub_upd hdx).trans (sub_upd hx2)
  have nv := r.new_vis hx
  have subG : Sub (F0.G cm H) (GV cm (fun a => F0.Z a ∨ F0.O a) (fun a => a = x) (upd (upd H dx (.own x)) x (.ins (T.cls c) dx []))) := hid_sub fun a u n e => ⟨fun z => by
    rcases z with z | z | z
    · exact n (.inl z)
    · exact n (.inr z)
    · exact ne_of_none e hx z, sub0 a u e⟩
  have toE : ∀ {H' cm'}, ExtX x cm (upd (upd H dx (.own x)) x (.ins (T.cls c) dx [])) cm' H' → Ext cm H cm' H' := fun {H' cm'} ex =>
    ⟨ex.pre, fun a o e n => ex.keep a o (sub0 a o e) n (ne_of_none e hx), fun a h => by
      cases e : H a with
      | none => exact absurd e h
      | some o => exact ex.there a (ne_of_none e hx) (by rw [sub0 a o e]; intro z; cases z)⟩
  have back : ∀ {H' cm' s'}, Ext cm H cm' H' → Cells X.K T (fun a => F0.Z a ∨ F0.O a) O0 cm' H' s' → FRel X.K T F0 cm' H' s' := fun {H' cm' s'} ex c => by
    refine Rel.ext r ex ⟨c.len, c.nd, fun n a d e1 e2 => ?_, c.there, fun a z => c.zok a (.inl z), c.nosf⟩
    have := c.at_ n a d e1 e2
    rw [eG_zo] at this
    exact this
  refine ⟨by rw [List.length_cons, hn], x, vs, cm, fun a => F0.Z a ∨ F0.O a, ds, s, dx, rfl, upd_same, fun z => nv (.inl z), fun z => nv (.inr z), ⟨r.cells.len, r.cells.nd, fun n a d e1 e2 => ?_, fun a z => ?_, fun a z => ?_, r.cells.nosf⟩, Reps.mono (.refl _) subG _ _ rv, ?_⟩
  · exact (r.cells.at_ n a d e1 e2).ext (.refl _) subG fun o e => sub0 a o e
  · have q := r.cells.there a z
    cases e : H a with
    | none => exact absurd e q
    | some o => rw [sub0 a o e]; intro z; cases z
  · have q := r.hidden (.inr z)
    cases e : H a with
    | none => exact absurd e q
    | some o => rw [sub0 a o e]; intro z; cases z
  · cases e : F ds s with
    | ok d s' =>
      rw [e] at p
      exact fun H' cm' ex c z => ⟨rfl, p (.ref x) H' cm' (toE ex) (back (toE ex) c) (by rw [eG_zo] at z; exact z)⟩
    | er c es s' =>
      rw [e] at p
      exact fun cls dx H' cm' ex c z => p cls dx H' cm' (toE ex) (back (toE ex) c) (by rw [eG_zo] at z; exact z)
    | no => rw [e] at p; exact p
theorem q_make (m : Mak X.prog X.w X.K X.mg X.base T k x c n F) (hr : Room j X.A) (tk : Takes X W) (hk : k + 1 ≤ j := by decide) (hg : Gl X x := by rfl) (ha : QS X T W n (e :: es) lm) (hdb : (x == ("__debug__" : Str)) = false := by decide) (he : starEach (e :: es) X.env = (false, eval e X.env) :: starEach es X.env := by rfl) (hpl : (backTo pos (starEach es X.env)).any (·.1) = false := by rfl) :
    QE X T W (.Call (.Name x p) (e :: es) [] pos) (mCallF F lm) := by
  obtain ⟨f, fd, ps, M, hF, hm, hb⟩ := m.ex
  refine ⟨fun pins s σ H Q I h => ?_⟩
  refine wpAny_Call_Name_kw (ld_glob I hg hm ?_ hdb)
  have h' : tP X.K T W (ALn X.K T n) lm σ H fun vs H1 => ∀ x dx, H1 x = none → H1 dx = none → dx ≠ x → spI X.K T c n F (.ref x :: vs) (upd (upd H1 dx (.own x)) x (.ins (T.cls c) dx [])) (fun v H2 => v = .non ∧ Q (.ref x) H2) (fun cls d H' => W cls d σ H') := by
    refine h.bind (ALn X.K T n) up_AR fun B Z cm ρ x H1 ⟨cm1, dx, s1, e1, r1, a1, p1⟩ => ?_
    exact spI_of (F0 := ⟨B, Z, σ, ρ⟩) r1 a1.1 a1.2 p1
  refine PySem.W.callWith_K (h₀ := X.base) I.ok.mod.kin M.kp (thn (ha.run pos pins s σ H _ I h') fun us s1 ⟨vs, H1, I1, r, q⟩ => ⟨I1.kIn, ?_⟩) he hpl
  exact run_makeS M hF (hr.mono hk) hb (passAt tk σ) I1 r q
theorem q_make0 (m : Mak X.prog X.w X.K X.mg X.base T k x c 0 F) (hr : Room j X.A) (tk : Takes X W) (hk : k + 1 ≤ j := by decide) (hg : Gl X x := by rfl) (hdb : (x == ("__debug__" : Str)) = false := by decide) :
    QE X T W (.Call (.Name x p) [] [] pos) (mCallF F mNil) := by
  obtain ⟨f, fd, ps, M, hF, hm, hb⟩ := m.ex
  refine ⟨fun pins s σ H Q I h => ?_⟩
  refine wpAny_Call_Name_kw (ld_glob I hg hm ?_ hdb)
  obtain ⟨B, Z, cm, ρ, s0, r, p⟩ := h
  exact PySem.W.callWith_K0 I.kIn M.kp (run_makeS (us := []) (vs := []) M hF (hr.mono hk) hb (passAt tk σ) I .nil (spI_of (F0 := ⟨B, Z, σ, ρ⟩) r .nil rfl p))
end

/-! ### self.f = e, in __init__ -/
def mSetF (c j : Nat) (m : EM) : SM := mE m fun d ρ s => match (ρ[0]? : Option SD) with
  | some (.own (.sf c' ds)) => if c' = c ∧ ds.length = j then .nx (ρ.set 0 (.own (.sf c (ds ++ [d])))) s else .no
  | _ => .no
theorem putF_new {f : Str} {y : V} : ∀ {fs : List (Str × V)}, f ∉ fs.map (·.1) → putF f y fs = fs ++ [(f, y)]
  | [], _ => rfl
  | (g, z) :: r, h => by
    have h1 : ¬ g = f := fun e => h (by rw [e]; exact List.mem_cons_self)
    show (if g = f then (g, y) :: r else (g, z) :: putF f y r) = _
    rw [if_neg h1, putF_new (fs := r) fun e => h (List.mem_cons_of_mem _ e)]
    rfl
section
variable {X : Cx} {T : Tb} {W : WX} {c j : Nat} {e : Expr} {m : EM} {x f : Str} {p p' pos : Pos}
theorem q_setF (hc : Cls X.K (T.cls c)) (hn : NoAttr X.K (T.cls c) f) (he : QE X T W e m) (hj : (T.fl c)[j]? = some f := by rfl) (hj2 : ((T.fl c).take j).contains f = false := by kernel_rfl) (hj3 : j < 100 := by decide) (hN : X.N[0]? = some x := by rfl) (hv : Vis X.env.scope x := by first | exact Or.inl rfl | exact Or.inr (Or.inl rfl) | exact Or.inr (Or.inr rfl))
    (hd : (x == ("__debug__" : Str)) = false := by decide) (hcd : (x == ("__classdict__" : Str)) = false := by decide)
    (hs : swapsWith e (some (.Attribute (.Name x p) f p')) pos.line X.env = pure false := by rfl) : QSt X T W (.Assign [.Attribute (.Name x p) f p'] e pos) (mSetF c j m) :=
  PS.conv (ps_fld (pe_var hN hv hd hcd) he hs) fun Ed σ H h => by
    refine mE_of (A := AR X.K T) h fun B Z cm0 s0 cm H' ρ d s v pre r0 r z q => ?_
    split at q
    · rename_i c' ds e0
      split at q
      · rename_i hcj
        obtain ⟨rfl, rfl⟩ := hcj
        obtain ⟨a, h1, ⟨h2, dx, fs, h3, h4, h5⟩, h6⟩ := r.own 0 _ e0
        have hlen : fs.length = ds.length := by
          have := h5.len
          rw [List.length_map] at this
          exact this
        refine ⟨_, h1, a, T.cls c', dx, fs, rfl, h3, hc, hn, by omega, ?_⟩
        rw [putF_new (by rw [h4]; intro z; rw [List.contains_iff_mem.mpr z] at hj2; cases hj2)]
        refine q σ _ cm (.refl _) (r.mutOwn e0 h1 ⟨h2, dx, _, upd_same, ?_, ?_⟩)
        · rw [List.map_append, h4, List.length_append]
          show _ = (T.fl c').take (ds.length + 1)
          rw [List.take_add_one, hj]
          rfl
        · rw [List.map_append]
          exact h5.app (.cons z .nil)
      · exact q.elim
    · exact q.elim
end

/-! ### methods -/
section
variable {P : Program} {w : World} {K : PySem.W.Frag} {mg : Str → Option Value} {base : Heap} {T : Tb}
structure Met (P : Program) (w : World) (K : PySem.W.Frag) (mg : Str → Option Value) (base : Heap) (T : Tb) (k c : Nat) (m : Str) (n : Nat) (F : FM) : Prop where
  ex : ∃ f fd ps, Cls K (T.cls c) ∧ Meth K (T.cls c) m f ∧ FnOk P w K mg base (L2.CX P w) k f fd ps (spD K T (n + 1) F) ∧ Binds K fd ps []
theorem Met.tb {o : Option Addr} {k c n : Nat} {m : Str} {F : FM} (h : Met P w K mg base T k c m n F) : Met P w K mg base (T.w o) k c m n F := by
  obtain ⟨f, fd, ps, h1, h2, h3, h4⟩ := h.ex
  exact ⟨f, fd, ps, h1, h2, h3.imp fun vs H Q E z => spD_tb z, h4⟩
end
def clsOf (d : D) (s : S) : Option Nat := match d with
  | .ins c _ => some c
  | .cell n => match s[n]? with
    | some (.ins c _) => some c
    | _ => none
  | _ => none
def mMeth (c : Nat) (F : FM) (o : EM) (lm : LM) : EM := fun ρ s => (o ρ s).bind fun x s1 => if clsOf x s1 = some c then (lm ρ s1).bind fun ds s2 => F (x :: ds) s2 else .no
section
variable {X : Cx} {T : Tb} {W : WX} {n j k c : Nat} {mn : Str} {F : FM} {o e : Expr} {es : List Expr} {mo : EM} {lm : LM} {apos pos : Pos}
theorem run_methS {CX : CXT} {f : Addr} {fd : FuncData} {ps : List Str} {sp : Sp} {E : XK} {pins : List (Addr × Obj)} {σ : L2.St} {H : Hp} {s : Shared} {Q : VK} {us : List Value} {vs : List V} (F : FnOk X.prog X.w X.K X.mg X.base CX k f fd ps sp) (hr : Room k X.A) (hb : Binds X.K fd ps []) (hx : PassesAt CX X σ E)
    (I : Inv X pins σ H s) (r : Vals vs us) (h : sp vs H Q E) : wpAny (model X.prog X.w) X.A (call (.ref f) us) (EP X pins σ Q) X.xe s := run_fnS (E := fun _ => E) F hr hb hx I r h
theorem clsOf_at {K : PySem.W.Frag} {B : Hp} {Z : Addr → Prop} {cm : List Addr} {σ : L2.St} {H : Hp} {ρ : List SD} {s : S} {v : V} {d : D} (r : Rel K T B Z cm σ H ρ s) (z : Rep K T cm (GV cm Z (Ow σ ρ) H) v d) (h : clsOf d s = some c) :
    ∃ a dx fs m, v = .ref a ∧ H a = some (.ins (T.cls c) dx fs) ∧ fs.map (·.1) = (T.fl c).take m := by
  unfold clsOf at h
  split at h
  · cases h
    cases z with
    | @ins a dx c fs ds h1 h2 h3 => exact ⟨a, dx, fs, (T.fl c).length, rfl, Sub.hidH _ _ h1, by rw [List.take_length]; exact h2⟩
  · split at h
    · rename_i e
      cases h
      cases z with
      | cell hc =>
        obtain ⟨dx, fs, h1, h2, h3⟩ := r.cells.at_ _ _ _ hc e
        exact ⟨_, dx, fs, _, rfl, h1, h2⟩
    · cases h
  · cases h
theorem lookup_none {f : Str} : ∀ {fs : List (Str × V)}, f ∉ fs.map (·.1) → fs.lookup f = none
  | [], _ => rfl
  | (g, z) :: r, h => by
    have h1 : (f == g) = false := by
      have : f ≠ g := fun e => h (by rw [e]; exact List.mem_cons_self)
      simpa using this
    rw [List.lookup_cons, h1]
    exact lookup_none fun e => h (List.mem_cons_of_mem _ e)
theorem q_methI {pl : Sem Bool} (c0 : Met X.prog X.w X.K X.mg X.base T k c mn n F) (hr : Room j X.A) (tk : Takes X W) (hk : k ≤ j := by decide) (ho : QE X T W o mo) (ha : QS X T W n (e :: es) lm) (hf : (T.fl c).contains mn = false := by kernel_rfl)
    (hst : starEach (e :: es) X.env = (false, eval e X.env) :: starEach es X.env := by rfl) (hpl : (backTo pos (starEach es X.env)).any (·.1) = false := by rfl)
    (ht : eval (.Call (.Attribute o mn apos) (e :: es) [] pos) X.env = (do
      let ov ← eval o X.env
      standAt apos.atName
      let (f, first) ← holding [ov] (getMethod ov mn pl)
      callWith pos f first (backTo pos (starEach (e :: es) X.env)) (backToKw pos (keywordEach [] X.env))) := by rfl) : QE X T W (.Call (.Attribute o mn apos) (e :: es) [] pos) (mMeth c F mo lm) := by
  obtain ⟨f, fd, ps, hc, hm, hF, hb⟩ := c0.ex
  refine ⟨fun pins s σ H Q I h => ?_⟩
  have h' : tP X.K T W (AR X.K T) mo σ H fun x H1 => ∃ a dx fs, x = .ref a ∧ H1 a = some (.ins (T.cls c) dx fs) ∧ fs.lookup mn = none ∧ tP X.K T W (ALn X.K T n) lm σ H1 fun vs H2 => spD X.K T (n + 1) F (x :: vs) H2 Q (fun cls d H' => W cls d σ H') := by
    refine h.bind (AR X.K T) up_AR fun B Z cm ρ x H1 ⟨cm1, dx, s1, e1, r1, a1, p1⟩ => ?_
    dsimp only at p1
    split at p1
    · rename_i ec
      obtain ⟨a, dxa, fs, m, rfl, ha, hfs⟩ := clsOf_at r1 a1 ec
      refine ⟨a, dxa, fs, rfl, ha, lookup_none (by rw [hfs]; exact fun z => by rw [List.contains_iff_mem.mpr (List.mem_of_mem_take z)] at hf; cases hf), B, Z, cm1, ρ, s1, r1, (p1.bind (A := ALn X.K T n) up_AR).mono fun y H2 ⟨cm2, dy, s2, e2, r2, a2, p2⟩ => ?_⟩
      exact spD_of (F0 := ⟨B, Z, σ, ρ⟩) r2 (.cons (Rep.mono e2.pre e2.sub _ _ a1) a2.1) (by rw [List.length_cons, a2.2]) p2
    · exact p1.elim
  refine PySem.W.methodCall_KW (pl := pl) (thn (ho.run pins s σ H _ I h') fun u s1 ⟨x, H1, I1, rx, a, dx, fs, ex, ea, l, q⟩ => ?_) ht
  subst ex
  obtain rfl : u = Value.ref a := rx
  refine getmeth_ok I1 ea hc hm l ?_
  refine PySem.W.callWith_K (first := [.ref a]) (h₀ := X.base) I.ok.mod.kin hm.kp (thn (ha.run pos pins s1 σ H1 _ I1 q) fun us s2 ⟨vs, H2, I2, r, q2⟩ => ⟨I2.kIn, ?_⟩) hst hpl
  exact run_methS (us := .ref a :: us) (vs := .ref a :: vs) hF (hr.mono hk) hb (passAt tk σ) I2 (.cons rfl r) q2
theorem q_methI0 {pl : Sem Bool} (c0 : Met X.prog X.w X.K X.mg X.base T k c mn 0 F) (hr : Room j X.A) (tk : Takes X W) (hk : k ≤ j := by decide) (ho : QE X T W o mo) (hf : (T.fl c).contains mn = false := by kernel_rfl)
    (ht : eval (.Call (.Attribute o mn apos) [] [] pos) X.env = (do
      let ov ← eval o X.env
      standAt apos.atName
      let (f, first) ← holding [ov] (getMethod ov mn pl)
      callWith pos f first (backTo pos (starEach [] X.env)) (backToKw pos (keywordEach [] X.env))) := by rfl) : QE X T W (.Call (.Attribute o mn apos) [] [] pos) (mMeth c F mo mNil) := by
  obtain ⟨f, fd, ps, hc, hm, hF, hb⟩ := c0.ex
  refine ⟨fun pins s σ H Q I h => ?_⟩
  have h' : tP X.K T W (AR X.K T) mo σ H fun x H1 => ∃ a dx fs, x = .ref a ∧ H1 a = some (.ins (T.cls c) dx fs) ∧ fs.lookup mn = none ∧ spD X.K T (0 + 1) F [x] H1 Q (fun cls d H' => W cls d σ H') := by
    refine h.bind (AR X.K T) up_AR fun B Z cm ρ x H1 ⟨cm1, dx, s1, e1, r1, a1, p1⟩ => ?_
    dsimp only at p1
    split at p1
    · rename_i ec
      obtain ⟨a, dxa, fs, m, rfl, ha, hfs⟩ := clsOf_at r1 a1 ec
      exact ⟨a, dxa, fs, rfl, ha, lookup_none (by rw [hfs]; exact fun z => by rw [List.contains_iff_mem.mpr (List.mem_of_mem_take z)] at hf; cases hf), spD_of (F0 := ⟨B, Z, σ, ρ⟩) r1 (.cons a1 .nil) rfl p1⟩
    · exact p1.elim
  refine PySem.W.methodCall_KW (pl := pl) (thn (ho.run pins s σ H _ I h') fun u s1 ⟨x, H1, I1, rx, a, dx, fs, ex, ea, l, q⟩ => ?_) ht
  subst ex
  obtain rfl : u = Value.ref a := rx
  refine getmeth_ok I1 ea hc hm l ?_
  exact PySem.W.callWith_K0 (first := [.ref a]) I1.kIn hm.kp (run_methS (us := [.ref a]) (vs := [.ref a]) hF (hr.mono hk) hb (passAt tk σ) I1 (.cons rfl .nil) q)

/-! ### x == y by an own __eq__ -/
def gEqO (c : Nat) (F : FM) : D → D → S → R D := fun x y s => match x, y with
  | .ins c1 _, .ins c2 _ => if c1 = c ∧ c2 = c then match F [x, y] s with
    | .ok (.bl b) s' => .ok (.bl b) s'
    | _ => .no
    else .no
  | _, _ => .no
variable {a b : Expr} {ma mb : EM}
def rEqOwn (K : PySem.W.Frag) (C : Addr) (sp : Sp) : R2 := fun x y H Q => ∃ p q dx dy fs gs, x = .ref p ∧ y = .ref q ∧ H p = some (.ins C dx fs) ∧ H q = some (.ins C dy gs) ∧ sp [x, y] H (fun v H' => ∃ b, v = .bl b ∧ Q (.bl b) H') E0
theorem op_eqOwn {C f : Addr} {fd : FuncData} {ps : List Str} {sp : Sp} (F : FnOk X.prog X.w X.K X.mg X.base (L2.CX X.prog X.w) k f fd ps sp) (hr : Room k X.A)
    (hs : PySem.W.findIn X.K (.ref C) "__eq__" = some (some (.ref f))) (hf : PySem.W.isFn X.K (.ref f) = true) (hb : Binds X.K fd ps []) : OpR X (compareOp .Eq) (rEqOwn X.K C sp) := by
  intro pins s σ H x y v u Q I rx ry h
  obtain ⟨a, b, dx, dy, fs, gs, rfl, rfl, ha, hb', hsp⟩ := h
  cases rx
  cases ry
  show wpAny (model X.prog X.w) X.A (richCompare .Eq (.ref a) (.ref b)) (EP X pins σ Q) X.xe s
  obtain ⟨mA, J, _⟩ := ins_get I.hok ha
  obtain ⟨mB, J', _⟩ := ins_get I.hok hb'
  obtain ⟨od, J, _⟩ := J.look
  obtain ⟨od', J', _⟩ := J'.look
  obtain ⟨m, hF⟩ := I.fr
  refine PySem.W.cmp_K (op := .Eq) (tb := .ref C) (by have := hr.un; omega) hF I.ok.mod.kin J J'.type (by simp [PySem.W.notFirst]) hs hf ?_
  have r2 : Vals [V.ref a, V.ref b] [Value.ref a, Value.ref b] := .cons rfl (.cons rfl .nil)
  refine wpAny_mono (run_fn (E := E0) (dvs := []) (ds := []) F hr hb .nil passL I r2 (by rw [List.append_nil]; exact hsp)) (fun w s' hq => ?_) fun _ _ z => z
  obtain ⟨z, H', I', rz, q⟩ := hq
  obtain ⟨bb, ez, q⟩ := q
  subst ez
  obtain rfl : w = .bool bb := rz
  exact ⟨.bl bb, H', I', rfl, q⟩
theorem q_eqO (c0 : Met X.prog X.w X.K X.mg X.base T k c "__eq__" 1 F) (hr : Room j X.A) (hk : k ≤ j := by decide) (ha : QE X T W a ma) (hb : QE X T W b mb) (hm : behindInMarks .Eq b = false := by rfl) : QE X T W (.Compare a [.Eq] [b] pos) (mOp (gEqO c F) ma mb) := by
  obtain ⟨f, fd, ps, hc, hmt, hF, hbn⟩ := c0.ex
  refine PE.conv (pe_cmpR (op_eqOwn hF (hr.mono hk) hmt.at_ hmt.fn hbn) ha hb hm) fun σ H Q h => ?_
  refine h.bind (AR X.K T) up_AR fun B Z cm ρ x H1 ⟨cm1, dx, s1, e1, r1, a1, p1⟩ => ?_
  refine ⟨B, Z, cm1, ρ, s1, r1, (p1.bind (A := AR X.K T) up_AR).mono fun y H2 ⟨cm2, dy, s2, e2, r2, a2, p2⟩ => ?_⟩
  have a1 : Rep X.K T cm2 (GV cm2 Z (Ow σ ρ) H2) x dx := Rep.mono e2.pre e2.sub _ _ a1
  unfold gEqO at p2
  dsimp only at p2
  split at p2
  · rename_i c1 ds1 c2 ds2
    split at p2
    · rename_i hcc
      obtain ⟨rfl, rfl⟩ := hcc
      have a1' := a1
      have a2' : Rep X.K T cm2 (GV cm2 Z (Ow σ ρ) H2) y _ := a2
      cases a1' with
      | @ins p dp _ fs _ k1 k2 k3 =>
        cases a2' with
        | @ins q dq _ gs _ l1 l2 l3 =>
          refine ⟨p, q, dp, dq, fs, gs, rfl, rfl, Sub.hidH _ _ k1, Sub.hidH _ _ l1, ?_⟩
          have eE : (E0 : XK) = fun cls d H' => W0 cls d σ H' := rfl
          rw [eE]
          refine spD_of (W := W0) (F0 := ⟨B, Z, σ, ρ⟩) r2 (.cons a1 (.cons a2 .nil)) rfl ?_
          generalize F [_, _] s2 = rr at p2 ⊢
          cases rr with
          | ok d s' =>
            refine fun v H' cm' ex r' z => ?_
            cases d with
            | bl b =>
              cases z
              exact ⟨b, rfl, p2 (.bl b) H' cm' ex r' (.bl b)⟩
            | _ => exact p2.elim
          | er _ _ _ => exact p2.elim
          | no => exact p2
    · exact p2.elim
  · exact p2.elim
end
end Tv

/-! Tv14: isinstance, functions as values, module constants -/
namespace Tv
open PySem PySem.Spec PyProof.Rows L2

def tyN : List String := ["NoneType", "bool", "int", "str", "tuple", "list", "dict"]
def insB (K : PySem.W.Frag) (C : Addr) : Bool :=
  decide (PySem.W.findIn K (.ref C) "__class__" = some (some (.builtin "object.__class__"))) && (decide (PySem.W.specialIn K (.builtin "object.__class__") "__get__" = some (some (.builtin "getset_descriptor.__get__"))) &&
    (decide (PySem.W.takesIn K (.builtin "object.__class__") = some true) && decide (PySem.W.mroIn K C (.type "object") = some true)))
def kitB (K : PySem.W.Frag) (cs : List Addr) : Bool := cs.all fun c => (tyN.all fun t => decide (PySem.W.kitOne K (.ref c) (.type t) = some false) && decide (PySem.W.kitOne K (.type t) (.ref c) = some false)) && cs.all fun d => decide (PySem.W.kitOne K (.ref c) (.ref d) = some (c == d))
/-- the plain classes of the text (their numbers) -/
structure IsC (K : PySem.W.Frag) (T : Tb) (cs : List Nat) : Prop where
  cl : ∀ c ∈ cs, ClsOk K T c
  ins : ∀ c ∈ cs, insB K (T.cls c) = true
  kit : kitB K (cs.map T.cls) = true
  inj : ∀ c ∈ cs, ∀ d ∈ cs, T.cls c = T.cls d → c = d
theorem IsC.insT {K : PySem.W.Frag} {T : Tb} {cs : List Nat} (h : IsC K T cs) {c : Nat} (hc : c ∈ cs) : InsT K (T.cls c) := by
  have q := h.ins c hc
  unfold insB at q
  obtain ⟨q1, q⟩ := Bool.and_eq_true_iff.mp q
  obtain ⟨q2, q⟩ := Bool.and_eq_true_iff.mp q
  obtain ⟨q3, q4⟩ := Bool.and_eq_true_iff.mp q
  exact ⟨(h.cl c hc).1, of_decide_eq_true q1, of_decide_eq_true q2, of_decide_eq_true q3, of_decide_eq_true q4⟩
theorem IsC.ty {K : PySem.W.Frag} {T : Tb} {cs : List Nat} (h : IsC K T cs) {c : Nat} (hc : c ∈ cs) {t : String} (ht : t ∈ tyN) : PySem.W.kitOne K (.ref (T.cls c)) (.type t) = some false ∧ PySem.W.kitOne K (.type t) (.ref (T.cls c)) = some false := by
  have q := List.all_eq_true.mp h.kit (T.cls c) (List.mem_map.mpr ⟨c, hc, rfl⟩)
  obtain ⟨q1, _⟩ := Bool.and_eq_true_iff.mp q
  obtain ⟨a, b⟩ := Bool.and_eq_true_iff.mp (List.all_eq_true.mp q1 t ht)
  exact ⟨of_decide_eq_true a, of_decide_eq_true b⟩
theorem IsC.cc {K : PySem.W.Frag} {T : Tb} {cs : List Nat} (h : IsC K T cs) {c d : Nat} (hc : c ∈ cs) (hd : d ∈ cs) : PySem.W.kitOne K (.ref (T.cls c)) (.ref (T.cls d)) = some (c == d) := by
  have q := List.all_eq_true.mp h.kit (T.cls c) (List.mem_map.mpr ⟨c, hc, rfl⟩)
  obtain ⟨_, q2⟩ := Bool.and_eq_true_iff.mp q
  have q3 := of_decide_eq_true (List.all_eq_true.mp q2 (T.cls d) (List.mem_map.mpr ⟨d, hd, rfl⟩))
  rw [q3]
  have e : (T.cls c == T.cls d) = (c == d) := by
    by_cases hcd : c = d
    · rw [hcd, beq_self_eq_true, beq_self_eq_true]
    · have : T.cls c ≠ T.cls d := fun e => hcd (h.inj c hc d hd e)
      rw [beq_eq_false_iff_ne.mpr this, beq_eq_false_iff_ne.mpr hcd]
  rw [e]
/-- the kind's name -/
def tyS (d : D) : Option String := match d with
  | .non => some "NoneType"
  | .bl _ => some "bool"
  | .int _ => some "int"
  | .str _ => some "str"
  | .tup _ => some "tuple"
  | .lst _ => some "list"
  | .dic _ _ => some "dict"
  | _ => none
/-- is it of that built-in type -/
def kTy (cs : List Nat) (t : String) (d : D) : Option Bool := match d with
  | .ins c _ => if c ∈ cs then some false else none
  | .bl _ => some (decide (t = "bool" ∨ t = "int"))
  | .non => some (decide (t = "NoneType"))
  | .int _ => some (decide (t = "int"))
  | .str _ => some (decide (t = "str"))
  | .tup _ => some (decide (t = "tuple"))
  | .lst _ => some (decide (t = "list"))
  | .dic _ _ => some (decide (t = "dict"))
  | _ => none
def kTy2 (cs : List Nat) (t u : String) (d : D) : Option Bool := match kTy cs t d, kTy cs u d with
  | some a, some b => some (a || b)
  | _, _ => none
/-- .. of that class -/
def kCl (cs : List Nat) (n : Nat) (d : D) : Option Bool := match d with
  | .ins c _ => if c ∈ cs ∧ n ∈ cs then some (c == n) else none
  | .non => if n ∈ cs then some false else none
  | .bl _ => if n ∈ cs then some false else none
  | .int _ => if n ∈ cs then some false else none
  | .str _ => if n ∈ cs then some false else none
  | .tup _ => if n ∈ cs then some false else none
  | .lst _ => if n ∈ cs then some false else none
  | .dic _ _ => if n ∈ cs then some false else none
  | _ => none
theorem kit_ty {K : PySem.W.Frag} {T : Tb} {cs : List Nat} (h : IsC K T cs) {t : String} (ht : t ∈ tyN) {d : D} {b : Bool} (hk : kTy cs t d = some b) : (∀ c ds, d = .ins c ds → InsT K (T.cls c)) ∧ ∃ v, tyD T d = some v ∧ PySem.W.kitOne K v (.type t) = some b := by
  have ht' := ht
  have ht : t = "NoneType" ∨ t = "bool" ∨ t = "int" ∨ t = "str" ∨ t = "tuple" ∨ t = "list" ∨ t = "dict" := by simpa [tyN] using ht
  cases d with
  | ins c ds =>
    have hk : (if c ∈ cs then some false else none) = some b := hk
    by_cases hc : c ∈ cs
    · rw [if_pos hc] at hk
      cases hk
      refine ⟨(fun c' ds' e => by cases e; exact h.insT hc), _, rfl, (h.ty hc ht').1⟩
    · rw [if_neg hc] at hk
      cases hk
  | non =>
    cases hk
    refine ⟨(fun _ _ e => nomatch e), _, rfl, ?_⟩
    rcases ht with rfl | rfl | rfl | rfl | rfl | rfl | rfl <;> rfl
  | bl x =>
    cases hk
    refine ⟨(fun _ _ e => nomatch e), _, rfl, ?_⟩
    rcases ht with rfl | rfl | rfl | rfl | rfl | rfl | rfl <;> rfl
  | int x =>
    cases hk
    refine ⟨(fun _ _ e => nomatch e), _, rfl, ?_⟩
    rcases ht with rfl | rfl | rfl | rfl | rfl | rfl | rfl <;> rfl
  | str x =>
    cases hk
    refine ⟨(fun _ _ e => nomatch e), _, rfl, ?_⟩
    rcases ht with rfl | rfl | rfl | rfl | rfl | rfl | rfl <;> rfl
  | tup x =>
    cases hk
    refine ⟨(fun _ _ e => nomatch e), _, rfl, ?_⟩
    rcases ht with rfl | rfl | rfl | rfl | rfl | rfl | rfl <;> rfl
  | lst x =>
    cases hk
    refine ⟨(fun _ _ e => nomatch e), _, rfl, ?_⟩
    rcases ht with rfl | rfl | rfl | rfl | rfl | rfl | rfl <;> rfl
  | dic x y =>
    cases hk
    refine ⟨(fun _ _ e => nomatch e), _, rfl, ?_⟩
    rcases ht with rfl | rfl | rfl | rfl | rfl | rfl | rfl <;> rfl
  | _ => cases hk
theorem isi_ty {K : PySem.W.Frag} {T : Tb} {cs : List Nat} (h : IsC K T cs) {t : String} (ht : t ∈ tyN) : IsiOk K T (.type t) (kTy cs t) := fun d b hk => kit_ty h ht hk
theorem isi_ty2 {K : PySem.W.Frag} {T : Tb} {cs : List Nat} (h : IsC K T cs) {t u : String} (ht : t ∈ tyN) (hu : u ∈ tyN) : IsiTOk K T [.type t, .type u] (kTy2 cs t u) := fun d b hk => by
  unfold kTy2 at hk
  split at hk
  · rename_i a b' h1 h2
    cases hk
    obtain ⟨q1, v, q2, q3⟩ := kit_ty h ht h1
    obtain ⟨_, v', q4, q5⟩ := kit_ty h hu h2
    rw [q2] at q4
    cases q4
    refine ⟨q1, v, q2, ?_⟩
    show PySem.W.kitAny K v [.type t, .type u] = _
    simp only [PySem.W.kitAny, q3, q5]
    cases a <;> cases b' <;> rfl
  · cases hk
theorem isi_cl {K : PySem.W.Frag} {T : Tb} {cs : List Nat} (h : IsC K T cs) {n : Nat} : IsiOk K T (.ref (T.cls n)) (kCl cs n) := fun d b hk => by
  have flat : ∀ {d : D} {t : String}, t ∈ tyN → (∀ c ds, d ≠ .ins c ds) → tyD T d = some (.type t) → kCl cs n d = (if n ∈ cs then some false else none) → kCl cs n d = some b → (∀ c ds, d = .ins c ds → InsT K (T.cls c)) ∧ ∃ t, tyD T d = some t ∧ PySem.W.kitOne K t (.ref (T.cls n)) = some b := fun {d t} ht nd e1 e2 hk => by
    rw [e2] at hk
    by_cases hc : n ∈ cs
    · rw [if_pos hc] at hk
      cases hk
      exact ⟨fun c ds e => absurd e (nd c ds), _, e1, (h.ty hc ht).2⟩
    · rw [if_neg hc] at hk
      cases hk
  cases d with
  | ins c ds =>
    have hk : (if c ∈ cs ∧ n ∈ cs then some (c == n) else none) = some b := hk
    by_cases hc : c ∈ cs ∧ n ∈ cs
    · rw [if_pos hc] at hk
      cases hk
      exact ⟨(fun c' ds' e => by cases e; exact h.insT hc.1), _, rfl, h.cc hc.1 hc.2⟩
    · rw [if_neg hc] at hk
      cases hk
  | non => exact flat (t := "NoneType") (by decide) (fun _ _ e => nomatch e) rfl rfl hk
  | bl x => exact flat (t := "bool") (by decide) (fun _ _ e => nomatch e) rfl rfl hk
  | int x => exact flat (t := "int") (by decide) (fun _ _ e => nomatch e) rfl rfl hk
  | str x => exact flat (t := "str") (by decide) (fun _ _ e => nomatch e) rfl rfl hk
  | tup x => exact flat (t := "tuple") (by decide) (fun _ _ e => nomatch e) rfl rfl hk
  | lst x => exact flat (t := "list") (by decide) (fun _ _ e => nomatch e) rfl rfl hk
  | dic x y => exact flat (t := "dict") (by decide) (fun _ _ e => nomatch e) rfl rfl hk
  | _ => cases hk
section
variable {X : Cx} {T : Tb} {W : WX} {e e2 : Expr} {m : EM} {pos p p2 p3 p4 : Pos} {x : Str} {cs : List Nat} {t u : String}
/-- the built-in types' names -/
theorem boot_of {t : String} (ht : t ∈ tyN) (hn : t ≠ "NoneType") : bootBuiltins t = some (.type t) := by
  have ht : t = "NoneType" ∨ t = "bool" ∨ t = "int" ∨ t = "str" ∨ t = "tuple" ∨ t = "list" ∨ t = "dict" := by simpa [tyN] using ht
  rcases ht with rfl | rfl | rfl | rfl | rfl | rfl | rfl
  · exact absurd rfl hn
  · decide +kernel
  · decide +kernel
  · decide +kernel
  · decide +kernel
  · decide +kernel
  · decide +kernel
theorem q_isTy (h : IsC X.K T cs) (hg2 : Gl X t := by rfl) (hm2 : X.mg t = none) (hg : Gl X "isinstance" := by rfl) (hm : X.mg "isinstance" = none) (ha : QB X T W e m) (ht : t ∈ tyN := by decide) (hnt : t ≠ "NoneType" := by decide) (hn : (t : Str) ≠ "__name__" := by decide) (hd : ((t : Str) == ("__debug__" : Str)) = false := by decide)
    (hs : starEach [e, .Name t p2] X.env = (false, eval e X.env) :: starEach [.Name t p2] X.env := by rfl) (hs2 : starEach [.Name t p2] X.env = (false, eval (.Name t p2) X.env) :: starEach [] X.env := by rfl) (hpl : (backTo pos (starEach [.Name t p2] X.env)).any (·.1) = false := by rfl) :
    QE X T W (.Call (.Name "isinstance" p) [e, .Name t p2] [] pos) (gIsi (kTy cs t) m) :=
  q_isi1 (te := fun _ _ _ => True) (isi_ty h ht) (.ty t) (pe_bltn (v := .ty t) hg2 hm2 (boot_of ht hnt) rfl hn hd) hg hm ha hs hs2 hpl
theorem q_isTy2 {x1 : Nat} (h : IsC X.K T cs) (hg2 : Gl X t := by rfl) (hm2 : X.mg t = none) (hg3 : Gl X u := by rfl) (hm3 : X.mg u = none) (hg : Gl X "isinstance" := by rfl) (hm : X.mg "isinstance" = none) (ha : QB X T W e m) (ht : t ∈ tyN := by decide) (hnt : t ≠ "NoneType" := by decide) (hn : (t : Str) ≠ "__name__" := by decide) (hd : ((t : Str) == ("__debug__" : Str)) = false := by decide)
    (hu : u ∈ tyN := by decide) (hnu : u ≠ "NoneType" := by decide) (hnu2 : (u : Str) ≠ "__name__" := by decide) (hdu : ((u : Str) == ("__debug__" : Str)) = false := by decide)
    (hs : starEach [e, .Tuple [.Name t p2, .Name u p3] x1 p4] X.env = (false, eval e X.env) :: starEach [.Tuple [.Name t p2, .Name u p3] x1 p4] X.env := by rfl) (hs2 : starEach [.Tuple [.Name t p2, .Name u p3] x1 p4] X.env = (false, eval (.Tuple [.Name t p2, .Name u p3] x1 p4) X.env) :: starEach [] X.env := by rfl) (hpl : (backTo pos (starEach [.Tuple [.Name t p2, .Name u p3] x1 p4] X.env)).any (·.1) = false := by rfl)
    (ht1 : starEach [.Name t p2, .Name u p3] X.env = (false, eval (.Name t p2) X.env) :: starEach [.Name u p3] X.env := by rfl) (ht2 : starEach [.Name u p3] X.env = (false, eval (.Name u p3) X.env) :: starEach [] X.env := by rfl) :
    QE X T W (.Call (.Name "isinstance" p) [e, .Tuple [.Name t p2, .Name u p3] x1 p4] [] pos) (gIsi (kTy2 cs t u) m) :=
  q_isi2 (isi_ty2 h ht hu) (.ty t) (.ty u) (pe_bltn (v := .ty t) hg2 hm2 (boot_of ht hnt) rfl hn hd) (pe_bltn (v := .ty u) hg3 hm3 (boot_of hu hnu) rfl hnu2 hdu) hg hm ha hs hs2 hpl ht1 ht2
theorem q_isCl {n : Nat} (h : IsC X.K T cs) (hm2 : X.mg x = some (.ref (T.cls n))) (hg2 : Gl X x := by rfl) (hg : Gl X "isinstance" := by rfl) (hm : X.mg "isinstance" = none) (ha : QB X T W e m) (hd : (x == ("__debug__" : Str)) = false := by decide)
    (hs : starEach [e, .Name x p2] X.env = (false, eval e X.env) :: starEach [.Name x p2] X.env := by rfl) (hs2 : starEach [.Name x p2] X.env = (false, eval (.Name x p2) X.env) :: starEach [] X.env := by rfl) (hpl : (backTo pos (starEach [.Name x p2] X.env)).any (·.1) = false := by rfl) :
    QE X T W (.Call (.Name "isinstance" p) [e, .Name x p2] [] pos) (gIsi (kCl cs n) m) :=
  q_isi1 (te := fun _ _ _ => True) (isi_cl h) (.own _) (pe_glob (v := .ref (T.cls n)) hg2 hm2 rfl hd) hg hm ha hs hs2 hpl
end

/-! ### functions as values -/
section
variable {P : Program} {w : World} {K : PySem.W.Frag} {mg : Str → Option Value} {base : Heap} {T : Tb}
/-- the def at T.fn i -/
structure FnA (P : Program) (w : World) (K : PySem.W.Frag) (mg : Str → Option Value) (base : Heap) (T : Tb) (k i n : Nat) (F : FM) : Prop where
  ex : ∃ fd ps, FnOk P w K mg base (L2.CX P w) k (T.fn i) fd ps (spD K T n F) ∧ PySem.W.keepIn K (.ref (T.fn i)) = true ∧ Binds K fd ps []
theorem FnA.tb {o : Option Addr} {k i n : Nat} {F : FM} (h : FnA P w K mg base T k i n F) : FnA P w K mg base (T.w o) k i n F := by
  obtain ⟨fd, ps, h1, h2⟩ := h.ex
  exact ⟨fd, ps, h1.imp fun vs H Q E z => spD_tb z, h2⟩
theorem Fn.at_ {k i n : Nat} {x : Str} {F : FM} (h : Fn P w K mg base T k x n F) (e : mg x = some (.ref (T.fn i))) : FnA P w K mg base T k i n F := by
  obtain ⟨f, fd, ps, h1, h2, h3, h4⟩ := h.ex
  rw [e] at h2
  cases h2
  exact ⟨fd, ps, h1, h3, h4⟩
end
def mCallV (i : Nat) (tbl : List (Nat × FM)) (lm : LM) : EM := fun ρ s => match ρ[i]? with
  | some (.v (.fn j)) => match tbl.lookup j with
    | some F => (lm ρ s).bind fun ds s1 => F ds s1
    | none => .no
  | _ => .no
section
variable {X : Cx} {T : Tb} {W : WX} {e : Expr} {es : List Expr} {lm : LM} {pos p : Pos} {x : Str} {i j k n : Nat} {tbl : List (Nat × FM)}
theorem q_gfn {i : Nat} (hm : X.mg x = some (.ref (T.fn i))) (hg : Gl X x := by rfl) (hd : (x == ("__debug__" : Str)) = false := by decide) : QE X T W (.Name x pos) (mC (.fn i)) := q_c (v := .ref (T.fn i)) (pe_glob hg hm rfl hd) fun _ _ => .fn i
theorem q_callV (hF : ∀ q ∈ tbl, FnA X.prog X.w X.K X.mg X.base T k q.1 n q.2) (hr : Room j X.A) (tk : Takes X W) (hk : k ≤ j := by decide) (ha : QS X T W n (e :: es) lm) (hN : X.N[i]? = some x := by rfl) (hv : Vis X.env.scope x := by first | exact Or.inl rfl | exact Or.inr (Or.inl rfl) | exact Or.inr (Or.inr rfl))
    (hd : (x == ("__debug__" : Str)) = false := by decide) (hcd : (x == ("__classdict__" : Str)) = false := by decide)
    (he : starEach (e :: es) X.env = (false, eval e X.env) :: starEach es X.env := by rfl) (hpl : (backTo pos (starEach es X.env)).any (·.1) = false := by rfl) :
    QE X T W (.Call (.Name x p) (e :: es) [] pos) (mCallV i tbl lm) := by
  refine ⟨fun pins s σ H Q I h => ?_⟩
  obtain ⟨B, Z, cm, ρ, s0, r, q⟩ := h
  unfold mCallV at q
  split at q
  · rename_i i' e0
    obtain ⟨v, h1, h2⟩ := r.val _ _ e0
    cases h2
    split at q
    · rename_i F eF
      obtain ⟨fd, ps, F1, kp, b⟩ := (hF _ (lookup_mem eF)).ex
      refine wpAny_Call_Name_kw (thn ((pe_var (pos := p) hN hv hd hcd).run pins s σ H (fun v H1 => v = .ref (T.fn i') ∧ H1 = H) I ⟨_, h1, rfl, rfl⟩) fun u s1 ⟨v, H1, I1, r1, q1⟩ => ?_)
      obtain ⟨rfl, rfl⟩ := q1
      cases r1
      have h' : tCallS (spD X.K T n F) (WE W) (tP X.K T W (ALn X.K T n) lm) σ H1 Q := tCallF_of ⟨B, Z, cm, ρ, s0, r, q⟩
      refine PySem.W.callWith_K (h₀ := X.base) I.ok.mod.kin kp (thn (ha.run pos pins s1 σ _ _ I1 h') fun us s2 ⟨vs, H2, I2, r, q⟩ => ⟨I2.kIn, ?_⟩) he hpl
      exact run_fnS (E := WE W) F1 (hr.mono hk) b (passAt tk σ) I2 r q
    · exact q.elim
  · exact q.elim

/-! ### constants of the module: tuples | dicts -/
theorem q_gtup {v : Addr} {xs : List V} {ds : List D} (hm : X.mg x = some (.ref v)) (hs : ∀ H, SqT X.K H v xs) (hr : ∀ cm G, Reps X.K T cm G xs ds) (hg : Gl X x := by rfl) (hd : (x == ("__debug__" : Str)) = false := by decide) : QE X T W (.Name x pos) (mC (.tup ds)) :=
  q_c (v := .ref v) (pe_glob hg hm rfl hd) fun cm G => .tup (hs G) (hr cm G)
end
end Tv

/-! Tv15: rules in short for the printer -/
namespace Tv
open PySem PySem.Spec PyProof.Rows L2

theorem hu64 {A : Around} {k : Nat} (hr : Room k A) : A.units + 64 < cLine := by have := hr.un; omega
def gSliceA (x : D) (lo hi : Option Int) (s : S) : R D := match x with
  | .tup a => .ok (.tup (cutD a lo hi)) s
  | .lst a => .ok (.lst (cutD a lo hi)) s
  | .frz a => .ok (.lst (cutD a lo hi)) s
  | .str z => if z.length ≤ sizeLine then .ok (.str (cutS z lo hi)) s else .no
  | _ => .no
def gAddA : D → D → S → R D := fun x y s => match x, y with
  | .int i, .int j => .ok (.int (i + j)) s
  | .str a, .str b => if a.length + b.length ≤ sizeLine then .ok (.str (a ++ b)) s else .no
  | .tup a, .tup b => if a.length + b.length ≤ sizeLine then .ok (.tup (a ++ b)) s else .no
  | .lst a, .lst b => if a.length + b.length ≤ sizeLine then .ok (.lst (a ++ b)) s else .no
  | _, _ => .no
def fldOkB (T : Tb) (f : Str) (ixs : List (Nat × Nat)) : Bool := ixs.all fun p => decide (fldIx (T.fl p.1) f = some p.2)
theorem fldOkB_ok {T : Tb} {f : Str} {ixs : List (Nat × Nat)} (h : fldOkB T f ixs = true) : FldOk T f ixs := fun p hp => of_decide_eq_true (List.all_eq_true.mp h p hp)
theorem ClsOk.no {K : PySem.W.Frag} {T : Tb} {c : Nat} {f : Str} (h : ClsOk K T c) (hf : (T.fl c).contains f = true) : NoAttr K (T.cls c) f := h.2 f (List.contains_iff_mem.mp hf)
section
variable {X : Cx} {T : Tb} {W : WX} {a b e : Expr} {ma mb m : EM} {pos p2 : Pos} {lo hi : Option Expr} {lom him : OM} {x : Str}
theorem osl_any : OSl X T (AR X.K T) (fun x lo hi H Q => (rSlA X.K x lo hi H Q ∨ rSlS x lo hi H Q) ∨ rSlL X.K x lo hi H Q) gSliceA := by
  intro F cm H s W x d lo hi Q r a p
  cases d with
  | tup ds => exact .inl (osl_tup F cm H s W x _ lo hi Q r a p)
  | str z => exact .inl (osl_tup F cm H s W x _ lo hi Q r a p)
  | lst ds => exact .inr (osl_lst F cm H s W x (.lst ds) lo hi Q r a fun v H' cm' ex r' z => p v H' cm' ex r' (AF.val r z))
  | frz ds => exact .inr (osl_lst F cm H s W x (.frz ds) lo hi Q r a fun v H' cm' ex r' z => p v H' cm' ex r' (AF.val r z))
  | _ => exact p.elim
theorem q_sliceA (he : QB X T W e m) (hl : QO X T W lo lom) (hh : QO X T W hi him) : QE X T W (.Subscript e (.Slice lo hi none p2) pos) (mSlice gSliceA m lom him) :=
  PE.conv (pe_slice ((sl_tupA.or sl_str).or sl_list) he hl hh) fun _ _ _ h => tSl_of osl_any up_AR h
theorem o2_addA : O2 X T (AR X.K T) (fun x y H Q => rAddAll X.K x y H Q ∨ rCat x y H Q) gAddA := by
  intro F cm H s W x y dx dy Q r a b p
  cases dx with
  | int i =>
    cases dy with
    | int j => exact .inl (o2_add F cm H s W x y _ _ Q r a b p)
    | _ => exact p.elim
  | str i =>
    cases dy with
    | str j => exact .inl (o2_add F cm H s W x y _ _ Q r a b p)
    | _ => exact p.elim
  | tup i =>
    cases dy with
    | tup j => exact .inl (o2_add F cm H s W x y _ _ Q r a b p)
    | _ => exact p.elim
  | lst i =>
    cases dy with
    | lst j =>
      refine .inr (o2_cat F cm H s W x y (.lst i) (.lst j) Q r a b ?_)
      unfold gCat
      unfold gAddA at p
      dsimp only at p ⊢
      split at p
      · rename_i hl
        rw [if_pos hl]
        exact fun v H' cm' ex r' z => p v H' cm' ex r' (AF.val r z)
      · exact p.elim
    | _ => exact p.elim
  | _ => exact p.elim
theorem q_addA (ha : QB X T W a ma) (hb : QB X T W b mb) : QE X T W (.BinOp a .Add b pos) (mOp gAddA ma mb) := q_op (op_addAll.or op_cat) o2_addA up_AR ha hb
theorem q_gintE {i : Int} (h : ∃ t, X.mg x = some (.int i t)) (hg : Gl X x := by rfl) (hd : (x == ("__debug__" : Str)) = false := by decide) : QE X T W (.Name x pos) (mC (.int i)) := by
  obtain ⟨t, ht⟩ := h
  exact q_gint hg ht hd
theorem q_gstrE {i : Str} (h : ∃ t, X.mg x = some (.str i t)) (hg : Gl X x := by rfl) (hd : (x == ("__debug__" : Str)) = false := by decide) : QE X T W (.Name x pos) (mC (.str i)) := by
  obtain ⟨t, ht⟩ := h
  exact q_gstr hg ht hd
theorem q_fldC {f : Str} {cs : List Nat} {ixs : List (Nat × Nat)} (h : IsC X.K T cs) (he : QB X T W e m) (hx : ∀ p ∈ ixs, p.1 ∈ cs := by decide) (hf : fldOkB T f ixs = true := by kernel_rfl) (hb : attributeBase e f X.env (eval e X.env) = eval e X.env := by rfl) : QE X T W (.Attribute e f pos) (mFld ixs m) :=
  q_fld (fun p hp => h.cl p.1 (hx p hp)) (fldOkB_ok hf) he hb
theorem IsC.tb {K : PySem.W.Frag} {o : Option Addr} {cs : List Nat} (h : IsC K T cs) : IsC K (T.w o) cs := ⟨h.cl, h.ins, h.kit, h.inj⟩
end
end Tv

/-! Tv16: the end -/
namespace Tv
open PySem PySem.Spec PyProof.Rows L2
theorem reps_ints {K : PySem.W.Frag} {T : Tb} {cm : List Addr} {G : Hp} : ∀ ns : List Int, Reps K T cm G (ns.map V.int) (ns.map D.int)
  | [] => .nil
  | n :: ns => .cons (.int n) (reps_ints ns)
abbrev scr (ns : List Int) : D := .frz (ns.map D.int)
theorem lawAt {l : PySem.W.OpenLaw} {w : World} {K : PySem.W.Frag} {mg : Str → Option Value} {fa : Addr} {h : Heap} {k : Nat} {fd : FuncData} {T : Tb} {F : FM} (hb : ∀ (s : Shared) (v : Value), BindsTo s fd ⟨[v], []⟩ [("script", v)])
    (hF : ∀ base : Heap, K.In base → base.Ns mainGlobals mg → FnOk l.prog w K mg base (L2.CX l.prog w) k fa fd ["script"] (spD K T 1 F))
    (hl : ∀ ns : List Int, ns.length ≤ 63 → (∀ z ∈ ns, Builtin.Int.intBits z ≤ 1048576) → ∃ s, F [scr ns] [] = .ok (.bl true) s) : LamX.LawAtS l w K (L2.CX l.prog w) k 63 "script" mg fa h := by
  refine ⟨fd, [], spD K T 1 F, (fun _ h => nomatch h), (fun _ h => nomatch h), (fun _ h => nomatch h), hb, fun H a ns h1 h2 _ hS => ?_, fun base b1 b2 _ => hF base b1 b2⟩
  obtain ⟨s, e⟩ := hl ns h1 h2
  have eG : GV [] (fun _ => False) O0 H = H := by
    funext b
    show hid _ H b = H b
    unfold hid
    exact if_neg fun z => by
      rcases z with z | z | z
      · cases z
      · exact z
      · exact z
  refine ⟨rfl, [], fun _ => False, [scr ns], [], ⟨rfl, List.nodup_nil, (fun n a d e => by cases e), (fun _ h => nomatch h), (fun _ h => h.elim), (fun _ h => nomatch h)⟩, ?_, ?_⟩
  · rw [eG]
    exact .cons (.frz hS (reps_ints ns)) .nil
  · rw [e]
    intro v H' cm' _ _ r
    cases r
    rfl
end Tv

/-! Tv17: the evaluator's steps, applied forms -/
namespace Tv
open PySem PySem.Spec PyProof.Rows L2
section
variable {ρ : List SD} {s : S} {a b c m : EM} {ta tb tc : TM} {lm : LM} {x y d : D} {i k n : Nat} {sa sb : SM} {F : FM}
theorem v_var : mVar i ρ s = match (ρ[i]? : Option SD) with | some (.v d) => .ok d s | _ => .no := by
  unfold mVar
  cases (ρ[i]? : Option SD) with
  | none => rfl
  | some y => cases y <;> rfl
theorem v_varB : mVarB i ρ s = match (ρ[i]? : Option SD) with | some (.v d) => .ok d s | some (.own d) => .ok d s | _ => .no := by
  unfold mVarB
  cases (ρ[i]? : Option SD) with
  | none => rfl
  | some y => cases y <;> rfl
theorem v_c : mC d ρ s = .ok d s := rfl
theorem v_op {g : D → D → S → R D} : mOp g a b ρ s = match a ρ s with
  | .ok x s1 => (match b ρ s1 with | .ok y s2 => g x y s2 | .er c ds s => .er c ds s | .no => .no)
  | .er c ds s => .er c ds s
  | .no => .no := by
  unfold mOp
  cases a ρ s <;> (try rfl)
  rename_i x1 s1
  dsimp only [R.bind, mE]
  cases b ρ s1 <;> rfl
theorem v_un {g : D → S → R D} : mUn g a ρ s = match a ρ s with
  | .ok x s1 => g x s1
  | .er c ds s => .er c ds s
  | .no => .no := by
  unfold mUn
  cases a ρ s <;> rfl
theorem v_nil : mNil ρ s = .ok [] s := rfl
theorem v_cons : mCons a lm ρ s = match a ρ s with
  | .ok x s1 => (match lm ρ s1 with | .ok xs s2 => .ok (x :: xs) s2 | .er c ds s => .er c ds s | .no => .no)
  | .er c ds s => .er c ds s
  | .no => .no := by
  unfold mCons
  cases a ρ s <;> (try rfl)
  rename_i x1 s1
  dsimp only [R.bind, mE]
  cases lm ρ s1 <;> rfl
theorem v_tup : mTup lm ρ s = match lm ρ s with
  | .ok xs s1 => .ok (.tup xs) s1
  | .er c ds s => .er c ds s
  | .no => .no := by
  unfold mTup
  cases lm ρ s <;> rfl
theorem v_lst : mLst lm ρ s = match lm ρ s with
  | .ok xs s1 => .ok (.lst xs) s1
  | .er c ds s => .er c ds s
  | .no => .no := by
  unfold mLst
  cases lm ρ s <;> rfl
theorem v_test : mTest a ρ s = match a ρ s with
  | .ok x s1 => (match x with | .bl b => .ok b s1 | _ => .no)
  | .er c ds s => .er c ds s
  | .no => .no := by
  unfold mTest
  cases a ρ s <;> (try rfl)
theorem v_and : mAnd ta tb ρ s = match ta ρ s with
  | .ok x s1 => (match x with | true => tb ρ s1 | false => .ok false s1)
  | .er c ds s => .er c ds s
  | .no => .no := by
  unfold mAnd
  cases ta ρ s <;> (try rfl)
theorem v_or : mOr ta tb ρ s = match ta ρ s with
  | .ok x s1 => (match x with | true => .ok true s1 | false => tb ρ s1)
  | .er c ds s => .er c ds s
  | .no => .no := by
  unfold mOr
  cases ta ρ s <;> (try rfl)
theorem v_not : mNot ta ρ s = match ta ρ s with
  | .ok x s1 => .ok (!x) s1
  | .er c ds s => .er c ds s
  | .no => .no := by
  unfold mNot
  cases ta ρ s <;> rfl
theorem v_if : mIf tc a b ρ s = match tc ρ s with
  | .ok x s1 => (match x with | true => a ρ s1 | false => b ρ s1)
  | .er c ds s => .er c ds s
  | .no => .no := by
  unfold mIf
  cases tc ρ s <;> (try rfl)
theorem v_andV : mAndV a b ρ s = match a ρ s with
  | .ok x s1 => (match x with | .bl true => b ρ s1 | .bl false => .ok (.bl false) s1 | _ => .no)
  | .er c ds s => .er c ds s
  | .no => .no := by
  unfold mAndV
  cases a ρ s <;> (try rfl)
theorem v_orV : mOrV a b ρ s = match a ρ s with
  | .ok x s1 => (match x with | .bl true => .ok (.bl true) s1 | .bl false => b ρ s1 | _ => .no)
  | .er c ds s => .er c ds s
  | .no => .no := by
  unfold mOrV
  cases a ρ s <;> (try rfl)
theorem v_notV : mNotV a ρ s = match a ρ s with
  | .ok x s1 => (match x with | .bl b => .ok (.bl (!b)) s1 | _ => .no)
  | .er c ds s => .er c ds s
  | .no => .no := by
  unfold mNotV
  cases a ρ s <;> (try rfl)
theorem v_chain {g g' : D → D → S → R D} : mChain g g' a b c ρ s = match a ρ s with
  | .ok x s1 => (match b ρ s1 with
    | .ok y s2 => (match g x y s2 with
      | .ok z s3 => (match z with
        | .bl true => (match c ρ s3 with | .ok w s4 => g' y w s4 | .er c ds s => .er c ds s | .no => .no)
        | .bl false => .ok (.bl false) s3
        | _ => .no)
      | .er c ds s => .er c ds s
      | .no => .no)
    | .er c ds s => .er c ds s
    | .no => .no)
  | .er c ds s => .er c ds s
  | .no => .no := by
  unfold mChain
  cases a ρ s <;> (try rfl)
  rename_i x1 s1
  dsimp only [R.bind]
  cases b ρ s1 <;> (try rfl)
  rename_i x2 s2
  dsimp only [R.bind]
  cases g x1 x2 s2 <;> (try rfl)
  rename_i x3 s3
  dsimp only [R.bind]
  cases x3 <;> (try rfl)
  rename_i k
  cases k <;> (try rfl)
  dsimp only [R.bind]
  cases c ρ s3 <;> rfl
theorem v_call {g : List D → S → R D} : mCall g lm ρ s = match lm ρ s with
  | .ok xs s1 => g xs s1
  | .er c ds s => .er c ds s
  | .no => .no := by
  unfold mCall
  cases lm ρ s <;> rfl
theorem v_callF : mCallF F lm ρ s = match lm ρ s with
  | .ok xs s1 => F xs s1
  | .er c ds s => .er c ds s
  | .no => .no := by
  unfold mCallF
  cases lm ρ s <;> rfl
theorem v_callV {tbl : List (Nat × FM)} : mCallV i tbl lm ρ s = match (ρ[i]? : Option SD) with
  | some (.v (.fn j)) => (match tbl.lookup j with
    | some F => (match lm ρ s with | .ok xs s1 => F xs s1 | .er c ds s => .er c ds s | .no => .no)
    | none => .no)
  | _ => .no := by
  unfold mCallV
  cases (ρ[i]? : Option SD) with
  | none => rfl
  | some y =>
    cases y with
    | v d =>
      cases d <;> (try rfl)
      rename_i j
      dsimp only
      cases tbl.lookup j <;> (try rfl)
      dsimp only
      cases lm ρ s <;> rfl
    | _ => rfl
theorem v_isi {k : D → Option Bool} : gIsi k m ρ s = match m ρ s with
  | .ok x s1 => (match k x with | some b => .ok (.bl b) s1 | none => .no)
  | .er c ds s => .er c ds s
  | .no => .no := by
  unfold gIsi
  cases m ρ s <;> (try rfl)
theorem v_slice {g : D → Option Int → Option Int → S → R D} {lo hi : OM} : mSlice g m lo hi ρ s = match m ρ s with
  | .ok x s1 => (match lo ρ s1 with
    | .ok l s2 => (match hi ρ s2 with | .ok u s3 => g x l u s3 | .er c ds s => .er c ds s | .no => .no)
    | .er c ds s => .er c ds s
    | .no => .no)
  | .er c ds s => .er c ds s
  | .no => .no := by
  unfold mSlice
  cases m ρ s <;> (try rfl)
  rename_i x1 s1
  dsimp only [R.bind, mE]
  cases lo ρ s1 <;> (try rfl)
  rename_i x2 s2
  dsimp only [R.bind, mE]
  cases hi ρ s2 <;> rfl
theorem v_part : mPart m ρ s = match m ρ s with
  | .ok x s1 => (match x with | .int i => .ok (some i) s1 | _ => .no)
  | .er c ds s => .er c ds s
  | .no => .no := by
  unfold mPart
  cases m ρ s <;> (try rfl)
theorem v_noPart : mNoPart ρ s = .ok none s := rfl
theorem v_fld {ixs : List (Nat × Nat)} : mFld ixs m ρ s = match m ρ s with
  | .ok x s1 => (match x with
    | .ins c ds => match ixs.lookup c with
      | some j => (match (ds[j]? : Option D) with | some d => .ok d s1 | none => .no)
      | none => .no
    | .cell n => match (s1[n]? : Option D) with
      | some (.ins c ds) => (match ixs.lookup c with
        | some j => (match (ds[j]? : Option D) with | some d => .ok d s1 | none => .no)
        | none => .no)
      | _ => .no
    | _ => .no)
  | .er c ds s => .er c ds s
  | .no => .no := by
  unfold mFld
  cases m ρ s <;> (try rfl)
theorem v_comp {vs : List Nat} {mi : LM} {pm : Pt} {tt : TM} {te : EM} : mComp vs mi pm tt te ρ s = match mi ρ s with
  | .ok ds s1 => if unowned ρ vs = true ∧ ds.length ≤ sizeLine then (match compF pm tt te (wipeR ρ vs) ds s1 with | .ok ys s2 => .ok (.lst ys) s2 | .er c ds s => .er c ds s | .no => .no) else .no
  | .er c ds s => .er c ds s
  | .no => .no := by
  unfold mComp
  cases mi ρ s <;> (try rfl)
  rename_i x1 s1
  dsimp only [R.bind]
  split <;> (try rfl)
  cases compF pm tt te (wipeR ρ vs) x1 s1 <;> rfl
theorem v_yes : mYes ρ s = .ok true s := rfl
theorem v_seqI : mSeqI m ρ s = match m ρ s with
  | .ok x s1 => (match x with
    | .tup ds => .ok ds s1
    | .lst ds => .ok ds s1
    | .frz ds => .ok ds s1
    | .str z => .ok (z.cps.toList.map fun c => .str ⟨#[c]⟩) s1
    | _ => .no)
  | .er c ds s => .er c ds s
  | .no => .no := by
  unfold mSeqI
  cases m ρ s <;> (try rfl)
theorem v_rng1 : mRng1 lm ρ s = match lm ρ s with
  | .ok xs s1 => (match xs with
    | [.int j] => if rngOk j then .ok (rngD 0 j.toNat) s1 else .no
    | _ => .no)
  | .er c ds s => .er c ds s
  | .no => .no := by
  unfold mRng1
  cases lm ρ s <;> (try rfl)
theorem v_rng2 : mRng2 lm ρ s = match lm ρ s with
  | .ok xs s1 => (match xs with
    | [.int i, .int j] => if rngOk i && rngOk j then .ok (rngD i (j - i).toNat) s1 else .no
    | _ => .no)
  | .er c ds s => .er c ds s
  | .no => .no := by
  unfold mRng2
  cases lm ρ s <;> (try rfl)
theorem v_enumI : mEnumI lm ρ s = match lm ρ s with
  | .ok xs s1 => (match xs with
    | [x] => (match seqV x with | some ds => .ok (enumD ds) s1 | none => .no)
    | _ => .no)
  | .er c ds s => .er c ds s
  | .no => .no := by
  unfold mEnumI
  cases lm ρ s <;> (try rfl)
theorem v_zipI : mZipI lm ρ s = match lm ρ s with
  | .ok xs s1 => (match xs with
    | [x, y] => (match seqV x, seqV y with | some ds, some es => .ok (zipD ds es) s1 | _, _ => .no)
    | _ => .no)
  | .er c ds s => .er c ds s
  | .no => .no := by
  unfold mZipI
  cases lm ρ s <;> (try rfl)
/-! ### statements -/
theorem v_next : mNext ρ s = .nx ρ s := rfl
theorem v_seq : mSeq sa sb ρ s = match sa ρ s with
  | .nx ρ' s' => sb ρ' s'
  | .rt d s' => .rt d s'
  | .bk ρ' s' => .bk ρ' s'
  | .ct ρ' s' => .ct ρ' s'
  | .er c ds ρ' s' => .er c ds ρ' s'
  | .no => .no := by
  unfold mSeq
  cases sa ρ s <;> rfl
theorem v_set : mSet i m ρ s = match m ρ s with
  | .ok d s' => .nx (ρ.set i (.v d)) s'
  | .er c ds s' => .er c ds ρ s'
  | .no => .no := by
  unfold mSet mE
  cases m ρ s <;> rfl
theorem v_setO : mSetO i m ρ s = match m ρ s with
  | .ok d s' => (if i < ρ.length then .nx (ρ.set i (.own d)) s' else .no)
  | .er c ds s' => .er c ds ρ s'
  | .no => .no := by
  unfold mSetO mE
  cases m ρ s <;> rfl
theorem v_drop : mDrop m ρ s = match m ρ s with
  | .ok d s' => .nx ρ s'
  | .er c ds s' => .er c ds ρ s'
  | .no => .no := by
  unfold mDrop mE
  cases m ρ s <;> rfl
theorem v_ret : mRet m ρ s = match m ρ s with
  | .ok d s' => .rt d s'
  | .er c ds s' => .er c ds ρ s'
  | .no => .no := by
  unfold mRet mE
  cases m ρ s <;> rfl
theorem v_retN : mRetN ρ s = .rt .non s := rfl
theorem v_brk : mBrk ρ s = .bk ρ s := rfl
theorem v_cnt : mCnt ρ s = .ct ρ s := rfl
theorem v_ifS : mIfS tc sa sb ρ s = match tc ρ s with
  | .ok b s' => (match b with | true => sa ρ s' | false => sb ρ s')
  | .er k ds s' => .er k ds ρ s'
  | .no => .no := by
  show mIfS tc sa sb ρ s = _
  unfold mIfS
  cases tc ρ s with
  | ok b s' => cases b <;> rfl
  | er _ _ _ => rfl
  | no => rfl
theorem v_frz : mFrz i sa ρ s = sa (frz i ρ) s := rfl
theorem v_while {fuel : List SD → S → Nat} : mWhile fuel tc sb ρ s = loopW tc sb (fuel ρ s) ρ s := rfl
theorem v_for {mi : LM} {pm : Pt} : mFor mi pm sb ρ s = match mi ρ s with
  | .ok ds s1 => loopF pm sb ds ρ s1
  | .er k e s1 => .er k e ρ s1
  | .no => .no := by
  unfold mFor
  cases mi ρ s <;> rfl
theorem v_meth {g : List D → List D → Option (D × List D)} : mMethS i g lm ρ s = match ownL i ρ with
  | some ds => (match lm ρ s with
    | .ok as s1 => (match g ds as with
      | some (_, ds') => .nx (ρ.set i (.own (.lst ds'))) s1
      | none => .no)
    | .er c ds s1 => .er c ds ρ s1
    | .no => .no)
  | none => .no := by
  unfold mMethS
  cases ownL i ρ <;> (try rfl)
theorem v_setIx {mi : EM} : mSetIx i mi m ρ s = match m ρ s with
  | .ok d s1 => (match baseOk i ρ with
    | true => (match mi ρ s1 with
      | .ok k s2 => (match k with | .int k => setIx i k d ρ s2 | _ => .no)
      | .er c ds s' => .er c ds ρ s'
      | .no => .no)
    | false => .no)
  | .er c ds s' => .er c ds ρ s'
  | .no => .no := by
  unfold mSetIx mE
  cases m ρ s <;> (try rfl)
theorem v_cell : mCell i m ρ s = match m ρ s with
  | .ok d s1 => .nx (ρ.set i (.v (.cell s1.length))) (s1 ++ [d])
  | .er c ds s' => .er c ds ρ s'
  | .no => .no := by
  unfold mCell mE
  cases m ρ s <;> rfl
theorem v_aug {g : Int → Int → Int} : mAug i g m ρ s = match (ρ[i]? : Option SD) with
  | some (.v (.int a)) => (match m ρ s with
    | .ok d s1 => (match d with | .int b => .nx (ρ.set i (.v (.int (g a b)))) s1 | _ => .no)
    | .er c ds s' => .er c ds ρ s'
    | .no => .no)
  | _ => .no := by
  unfold mAug mE
  cases (ρ[i]? : Option SD) with
  | none => rfl
  | some y =>
    cases y with
    | v d =>
      cases d <;> (try rfl)
    | _ => rfl
theorem v_pt {pt : Pt} : mPt pt m ρ s = match m ρ s with
  | .ok d s1 => (match pt.run d ρ with | some ρ' => .nx ρ' s1 | none => .no)
  | .er c ds s' => .er c ds ρ s'
  | .no => .no := by
  unfold mPt mE
  cases m ρ s <;> (try rfl)
theorem v_par {is : List Nat} {ms : List Bool} : mPar is ms lm ρ s = match lm ρ s with
  | .ok ds s1 => (match setM is ms ds ρ with
    | some ρ' => .nx ρ' s1
    | none => .no)
  | .er c ds s1 => .er c ds ρ s1
  | .no => .no := by
  unfold mPar
  cases lm ρ s <;> (try rfl)
theorem v_setF {j : Nat} {c0 : Nat} : mSetF c0 j m ρ s = match m ρ s with
  | .ok d s1 => (match (ρ[0]? : Option SD) with
    | some (.own (.sf c' ds)) => if c' = c0 ∧ ds.length = j then .nx (ρ.set 0 (.own (.sf c0 (ds ++ [d])))) s1 else .no
    | _ => .no)
  | .er c ds s' => .er c ds ρ s'
  | .no => .no := by
  unfold mSetF mE
  cases m ρ s <;> (try rfl)
theorem v_fun {e : Nat} {ds : List D} : mFun e sb ds s = match sb (ds.map .v ++ List.replicate e .un) s with
  | .nx _ s' => .ok .non s'
  | .rt d s' => .ok d s'
  | .er c es _ s' => .er c es s'
  | .bk _ _ => .no
  | .ct _ _ => .no
  | .no => .no := by
  show mFun e sb ds s = _
  unfold mFun
  cases sb (ds.map .v ++ List.replicate e .un) s <;> rfl
theorem v_ne_ok {α : Type} {x : α} : (R.ok x s).ne = .ok x s := rfl
theorem v_loopF_nil {pm : Pt} : loopF pm sb [] ρ s = .nx ρ s := rfl
theorem v_loopF {pm : Pt} {ds : List D} : loopF pm sb (d :: ds) ρ s = match pm.run d ρ with
  | some ρ1 => (match sb ρ1 s with
    | .nx ρ' s' => loopF pm sb ds ρ' s'
    | .ct ρ' s' => loopF pm sb ds ρ' s'
    | .bk ρ' s' => .nx ρ' s'
    | .rt d s' => .rt d s'
    | .er k e ρ' s' => .er k e ρ' s'
    | .no => .no)
  | none => .no := by
  conv => lhs; unfold loopF
  all_goals (cases pm.run d ρ <;> (try rfl))
theorem v_loopW : loopW tc sb (n + 1) ρ s = match tc ρ s with
  | .ok b s1 => (match b with
    | true => (match sb ρ s1 with
      | .nx ρ' s' => loopW tc sb n ρ' s'
      | .ct ρ' s' => loopW tc sb n ρ' s'
      | .bk ρ' s' => .nx ρ' s'
      | .rt d s' => .rt d s'
      | .er k ds ρ' s' => .er k ds ρ' s'
      | .no => .no)
    | false => .nx ρ s1)
  | .er k ds s1 => .er k ds ρ s1
  | .no => .no := by
  show loopW tc sb (n + 1) ρ s = _
  conv => lhs; unfold loopW
  cases tc ρ s with
  | ok b s' => cases b <;> rfl
  | er _ _ _ => rfl
  | no => rfl
theorem v_compF_nil {pm : Pt} {tt : TM} {te : EM} : compF pm tt te ρ [] s = .ok [] s := rfl
theorem v_compF {pm : Pt} {tt : TM} {te : EM} {ds : List D} : compF pm tt te ρ (d :: ds) s = match pm.run d ρ with
  | some ρ1 => (match tt ρ1 s with
    | .ok k s1 => (match k with
      | true => (match te ρ1 s1 with
        | .ok y s2 => (match compF pm tt te ρ ds s2 with | .ok ys s3 => .ok (y :: ys) s3 | .er c ds s => .er c ds s | .no => .no)
        | _ => .no)
      | false => compF pm tt te ρ ds s1)
    | _ => .no)
  | none => .no := by
  show compF pm tt te ρ (d :: ds) s = _
  conv => lhs; unfold compF
  cases pm.run d ρ with
  | none => rfl
  | some ρ1 =>
    dsimp only
    cases tt ρ1 s with
    | ok k s1 =>
      cases k with
      | true =>
        show (R.bind (R.ne (te ρ1 s1)) _) = _
        simp only
        generalize te ρ1 s1 = r
        cases r with
        | ok y s2 =>
          show (R.bind (compF pm tt te ρ ds s2) _) = _
          simp only
          generalize compF pm tt te ρ ds s2 = r2
          cases r2 <;> rfl
        | er _ _ _ => rfl
        | no => rfl
      | false => rfl
    | er _ _ _ => rfl
    | no => rfl
/-! ### operations -/
variable {i j : Int} {z w : Bool}
theorem w_add : gAddA (.int i) (.int j) s = .ok (.int (i + j)) s := rfl
theorem w_sub : gSub (.int i) (.int j) s = .ok (.int (i - j)) s := rfl
theorem w_lt : gLt (.int i) (.int j) s = .ok (.bl (decide (i < j))) s := rfl
theorem w_le : gLe (.int i) (.int j) s = .ok (.bl (decide (i ≤ j))) s := rfl
theorem w_gt : gGt (.int i) (.int j) s = .ok (.bl (decide (j < i))) s := rfl
theorem w_ge : gGe (.int i) (.int j) s = .ok (.bl (decide (j ≤ i))) s := rfl
theorem w_neg : gNeg (.int i) s = .ok (.int (-i)) s := rfl
theorem eqD_int (i j : Int) : eqD (.int i) (.int j) = some (decide (i = j)) := by
  unfold eqD D.py
  dsimp only
  rw [if_pos ⟨rfl, rfl⟩]
  show some (i == j) = _
  congr 1
theorem eqD_bl (i j : Bool) : eqD (.bl i) (.bl j) = some (i == j) := by
  unfold eqD D.py
  dsimp only
  rw [if_pos ⟨rfl, rfl⟩]
  cases i <;> cases j <;> rfl
theorem w_eq {x y : D} {k : Bool} (h : eqD x y = some k) : gEq x y s = .ok (.bl k) s := by
  show (match eqD x y with | some b => R.ok (D.bl b) s | none => R.no) = _
  rw [h]
theorem w_ne {x y : D} {k : Bool} (h : eqD x y = some k) : gNe x y s = .ok (.bl (!k)) s := by
  show (match eqD x y with | some b => R.ok (D.bl (!b)) s | none => R.no) = _
  rw [h]
theorem w_eqI : gEq (.int i) (.int j) s = .ok (.bl (decide (i = j))) s := w_eq (eqD_int i j)
theorem w_neI : gNe (.int i) (.int j) s = .ok (.bl (!decide (i = j))) s := w_ne (eqD_int i j)
theorem w_eqB : gEq (.bl z) (.bl w) s = .ok (.bl (z == w)) s := w_eq (eqD_bl z w)
theorem w_neB : gNe (.bl z) (.bl w) s = .ok (.bl (!(z == w))) s := w_ne (eqD_bl z w)
theorem w_mod (h : 0 < j) : gMod (.int i) (.int j) s = .ok (.int (i % j)) s := by
  show (if 0 < j then _ else _) = _
  rw [if_pos h]
theorem w_is : gIs x .non s = .ok (.bl (isNon x)) s := rfl
theorem w_isNot : gIsNot x .non s = .ok (.bl (!isNon x)) s := rfl
theorem w_ix20 {a b : D} : gIx (.tup [a, b]) (.int 0) s = .ok a s := rfl
theorem w_ix21 {a b : D} : gIx (.tup [a, b]) (.int 1) s = .ok b s := rfl
theorem w_lenT {ds : List D} : gLen [.tup ds] s = .ok (.int (ds.length : Nat)) s := rfl
theorem w_lenL {ds : List D} : gLen [.lst ds] s = .ok (.int (ds.length : Nat)) s := rfl
theorem w_lenZ {ds : List D} : gLen [.frz ds] s = .ok (.int (ds.length : Nat)) s := rfl
theorem w_abs : gAbs [.int i] s = .ok (.int (i.natAbs : Nat)) s := by
  show R.ok (D.int (if i < 0 then -i else i)) s = _
  congr 2
  split <;> omega
theorem w_int : gInt [.int i] s = .ok (.int i) s := rfl
theorem w_min : gMin [.int i, .int j] s = .ok (.int (min i j)) s := by
  show R.ok (D.int (if j < i then j else i)) s = _
  congr 2
  omega
theorem w_max : gMax [.int i, .int j] s = .ok (.int (max i j)) s := by
  show R.ok (D.int (if j > i then j else i)) s = _
  congr 2
  omega
theorem w_tupT {ds : List D} : gTuple [.tup ds] s = .ok (.tup ds) s := rfl
theorem w_tupL {ds : List D} : gTuple [.lst ds] s = .ok (.tup ds) s := rfl
theorem w_tupZ {ds : List D} : gTuple [.frz ds] s = .ok (.tup ds) s := rfl
theorem atI_nat {α : Type} (xs : List α) (i : Nat) : atI xs (i : Int) = xs[i]? := by
  unfold atI ixN
  rw [if_pos (by omega)]
  by_cases h : i < xs.length
  · rw [if_pos (by omega)]
    show xs[((i : Int)).toNat]? = _
    rw [Int.toNat_natCast]
  · rw [if_neg (by omega)]
    show none = _
    rw [List.getElem?_eq_none (by omega)]
theorem atI_neg {α : Type} (xs : List α) (k : Nat) (h : k < xs.length) : atI xs (-((k : Int) + 1)) = xs[xs.length - 1 - k]? := by
  unfold atI ixN
  rw [if_neg (by omega), if_pos (by omega)]
  show xs[(-((k : Int) + 1) + xs.length).toNat]? = _
  congr 1
  omega
theorem ixT {ds : List D} {i : Int} {d : D} (h : atI ds i = some d) : gIx (.tup ds) (.int i) s = .ok d s := by
  show (match atI ds i with | some d => R.ok d s | none => R.no) = _
  rw [h]
theorem ixL {ds : List D} {i : Int} {d : D} (h : atI ds i = some d) : gIx (.lst ds) (.int i) s = .ok d s := by
  show (match atI ds i with | some d => R.ok d s | none => R.no) = _
  rw [h]
theorem ixZ {ds : List D} {i : Int} {d : D} (h : atI ds i = some d) : gIx (.frz ds) (.int i) s = .ok d s := by
  show (match atI ds i with | some d => R.ok d s | none => R.no) = _
  rw [h]
theorem kT_int {cs : List Nat} {t : String} : kTy cs t (.int i) = some (decide (t = "int")) := rfl
theorem kT_bl {cs : List Nat} {t : String} : kTy cs t (.bl z) = some (decide (t = "bool" ∨ t = "int")) := rfl
theorem kT_non {cs : List Nat} {t : String} : kTy cs t .non = some (decide (t = "NoneType")) := rfl
theorem kT_str {cs : List Nat} {t : String} {x : Str} : kTy cs t (.str x) = some (decide (t = "str")) := rfl
theorem kT_tup {cs : List Nat} {t : String} {ds : List D} : kTy cs t (.tup ds) = some (decide (t = "tuple")) := rfl
theorem kT_lst {cs : List Nat} {t : String} {ds : List D} : kTy cs t (.lst ds) = some (decide (t = "list")) := rfl
theorem k2 {cs : List Nat} {t u : String} {d : D} : kTy2 cs t u d = match kTy cs t d, kTy cs u d with
  | some a, some b => some (a || b)
  | _, _ => none := rfl
end
end Tv

/-! Tv18: comprehensions and loops that leave the store -/
namespace Tv
open PySem PySem.Spec PyProof.Rows L2
/-- a comprehension whose tests and elements leave the store -/
theorem compF_pure {pm : Pt} {tt : TM} {te : EM} {ρ : List SD} (p : D → Bool) (f : D → D) : ∀ (ds : List D) (s : S), (∀ d, d ∈ ds → ∃ ρ1, pm.run d ρ = some ρ1 ∧ tt ρ1 s = .ok (p d) s ∧ (p d = true → te ρ1 s = .ok (f d) s)) → compF pm tt te ρ ds s = .ok ((ds.filter p).map f) s
  | [], s, _ => rfl
  | d :: ds, s, h => by
    obtain ⟨ρ1, h1, h2, h3⟩ := h d List.mem_cons_self
    have ih := compF_pure p f ds s fun d hd => h d (List.mem_cons_of_mem _ hd)
    rw [v_compF, h1]
    simp only [h2]
    cases hp : p d with
    | true =>
      simp only [h3 hp, ih]
      rw [List.filter_cons_of_pos hp]
      rfl
    | false =>
      simp only [ih]
      rw [List.filter_cons_of_neg (by rw [hp]; exact Bool.false_ne_true)]
theorem compF_none {pm : Pt} {tt : TM} {te : EM} {ρ : List SD} {ds : List D} {s : S} (h : ∀ d, d ∈ ds → ∃ ρ1, pm.run d ρ = some ρ1 ∧ tt ρ1 s = .ok false s) : compF pm tt te ρ ds s = .ok [] s := by
  have := compF_pure (pm := pm) (tt := tt) (te := te) (ρ := ρ) (fun _ => false) id ds s fun d hd => by
    obtain ⟨ρ1, h1, h2⟩ := h d hd
    exact ⟨ρ1, h1, h2, fun z => by cases z⟩
  rw [this]
  simp
theorem compF_map {pm : Pt} {te : EM} {ρ : List SD} {ds : List D} {s : S} (f : D → D) (h : ∀ d, d ∈ ds → ∃ ρ1, pm.run d ρ = some ρ1 ∧ te ρ1 s = .ok (f d) s) : compF pm mYes te ρ ds s = .ok (ds.map f) s := by
  have := compF_pure (pm := pm) (tt := mYes) (te := te) (ρ := ρ) (fun _ => true) f ds s fun d hd => by
    obtain ⟨ρ1, h1, h2⟩ := h d hd
    exact ⟨ρ1, h1, rfl, fun _ => h2⟩
  rw [this, List.filter_eq_self.mpr (fun _ _ => rfl)]
/-- .. over values of a Lean list -/
theorem compF_mapL {α : Type} {pm : Pt} {te : EM} {ρ : List SD} {s : S} (g : α → D) (f : α → D) (l : List α) (h : ∀ a, a ∈ l → ∃ ρ1, pm.run (g a) ρ = some ρ1 ∧ te ρ1 s = .ok (f a) s) : compF pm mYes te ρ (l.map g) s = .ok (l.map f) s := by
  induction l with
  | nil => rfl
  | cons a l ih =>
    obtain ⟨ρ1, h1, h2⟩ := h a List.mem_cons_self
    have ih := ih fun a ha => h a (List.mem_cons_of_mem _ ha)
    rw [List.map_cons, v_compF, h1]
    simp only [v_yes, h2, ih]
    rfl
theorem compF_filL {α : Type} {pm : Pt} {tt : TM} {te : EM} {ρ : List SD} {s : S} (g : α → D) (p : α → Bool) (f : α → D) (l : List α) (h : ∀ a, a ∈ l → ∃ ρ1, pm.run (g a) ρ = some ρ1 ∧ tt ρ1 s = .ok (p a) s ∧ (p a = true → te ρ1 s = .ok (f a) s)) : compF pm tt te ρ (l.map g) s = .ok ((l.filter p).map f) s := by
  induction l with
  | nil => rfl
  | cons a l ih =>
    obtain ⟨ρ1, h1, h2, h3⟩ := h a List.mem_cons_self
    have ih := ih fun a ha => h a (List.mem_cons_of_mem _ ha)
    rw [List.map_cons, v_compF, h1]
    simp only [h2]
    cases hp : p a with
    | true =>
      simp only [h3 hp, ih]
      rw [List.filter_cons_of_pos hp]
      rfl
    | false =>
      simp only [ih]
      rw [List.filter_cons_of_neg (by rw [hp]; exact Bool.false_ne_true)]
theorem rngD_map (i : Int) (n : Nat) : rngD i n = (List.range n).map fun k : Nat => D.int (i + (k : Int)) := rfl
theorem size_ok {n : Nat} (h : n ≤ 100000) : n ≤ sizeLine := by rw [sizeLine_eq]; omega
theorem rng_ok {i : Int} (h1 : -1000000 ≤ i) (h2 : i ≤ 1000000) : rngOk i = true := decide_eq_true ⟨by omega, by omega⟩
theorem atI_get {α : Type} {xs : List α} {i : Nat} {x : α} (h : xs[i]? = some x) : atI xs (i : Int) = some x := by rw [Tv.atI_nat, h]
theorem eqD_nil : eqD (.lst []) (.lst []) = some true := by
  unfold eqD D.py D.pys
  dsimp only [Option.map]
  rw [if_pos ⟨rfl, rfl⟩]
  rfl
theorem eqD_non : eqD .non .non = some true := by
  unfold eqD D.py
  dsimp only
  rw [if_pos ⟨rfl, rfl⟩]
  rfl
/-! ### equality of values as the program sees it -/
/-- ints, None, tuples and lists of such, at most n deep -/
def pl : Nat → D → Bool
  | _, .int _ => true
  | _, .non => true
  | n + 1, .tup ds => ds.all (pl n)
  | n + 1, .lst ds => ds.all (pl n)
  | _, _ => false
theorem pls_py {n : Nat} (ih : ∀ d, pl n d = true → ∃ p, d.py = some p ∧ p.canLay0 = true ∧ p.depth ≤ n) : ∀ ds : List D, ds.all (pl n) = true → ∃ ps, D.pys ds = some ps ∧ PyData.canLayAll0 ps = true ∧ PyData.depthAll ps ≤ n
  | [], _ => ⟨[], rfl, rfl, Nat.zero_le _⟩
  | d :: ds, h => by
    rw [List.all_cons, Bool.and_eq_true] at h
    obtain ⟨p, h1, h2, h3⟩ := ih d h.1
    obtain ⟨ps, g1, g2, g3⟩ := pls_py ih ds h.2
    refine ⟨p :: ps, ?_, ?_, ?_⟩
    · unfold D.pys
      rw [h1, g1]
    · unfold PyData.canLayAll0
      rw [h2, g2]
      rfl
    · unfold PyData.depthAll
      omega
theorem pl_py : ∀ (n : Nat) (d : D), pl n d = true → ∃ p, d.py = some p ∧ p.canLay0 = true ∧ p.depth ≤ n
  | n, .int i, _ => ⟨.int i, rfl, rfl, Nat.zero_le _⟩
  | n, .non, _ => ⟨.none, rfl, rfl, Nat.zero_le _⟩
  | 0, .tup ds, h => by unfold pl at h; cases h
  | 0, .lst ds, h => by unfold pl at h; cases h
  | n + 1, .tup ds, h => by
    unfold pl at h
    obtain ⟨ps, g1, g2, g3⟩ := pls_py (pl_py n) ds h
    refine ⟨.tuple ps, ?_, ?_, ?_⟩
    · unfold D.py
      rw [g1]
      rfl
    · unfold PyData.canLay0
      exact g2
    · unfold PyData.depth
      omega
  | n + 1, .lst ds, h => by
    unfold pl at h
    obtain ⟨ps, g1, g2, g3⟩ := pls_py (pl_py n) ds h
    refine ⟨.list ps, ?_, ?_, ?_⟩
    · unfold D.py
      rw [g1]
      rfl
    · unfold PyData.canLay0
      exact g2
    · unfold PyData.depth
      omega
  | n, .bl b, h => by unfold pl at h; cases n <;> cases h
  | n, .str b, h => by unfold pl at h; cases n <;> cases h
  | n, .frz b, h => by unfold pl at h; cases n <;> cases h
  | n, .ins _ _, h => by unfold pl at h; cases n <;> cases h
  | n, .cell _, h => by unfold pl at h; cases n <;> cases h
  | n, .fn _, h => by unfold pl at h; cases n <;> cases h
  | n, .dic _ _, h => by unfold pl at h; cases n <;> cases h
  | n, .exc _ _, h => by unfold pl at h; cases n <;> cases h
  | n, .lam _, h => by unfold pl at h; cases n <;> cases h
  | n, .tab _, h => by unfold pl at h; cases n <;> cases h
  | n, .sf _ _, h => by unfold pl at h; cases n <;> cases h
theorem eqvs_pl {n : Nat} (ih : ∀ x y p q, pl n x = true → pl n y = true → D.py x = some p → D.py y = some q → (PyData.eqv p q = true ↔ x = y)) : ∀ (xs ys : List D) (ps qs : List PyData), xs.all (pl n) = true → ys.all (pl n) = true → D.pys xs = some ps → D.pys ys = some qs → (PyData.eqvAll ps qs = true ↔ xs = ys) := by
  have key : ∀ {x : D} {xs : List D} {l : List PyData}, D.pys (x :: xs) = some l → (x :: xs).all (pl n) = true → ∃ p ps, l = p :: ps ∧ x.py = some p ∧ D.pys xs = some ps := fun {x xs l} h hp => by
    unfold D.pys at h
    cases e1 : x.py with
    | none => rw [e1] at h; cases h
    | some p =>
      cases e2 : D.pys xs with
      | none => rw [e1, e2] at h; cases h
      | some ps =>
        rw [e1, e2] at h
        cases h
        exact ⟨p, ps, rfl, rfl, rfl⟩
  intro xs
  induction xs with
  | nil =>
    intro ys ps qs h1 h2 e1 e2
    cases e1
    cases ys with
    | nil => cases e2; simp [PyData.eqvAll]
    | cons y ys =>
      obtain ⟨q, qs', rfl, _, _⟩ := key e2 h2
      simp [PyData.eqvAll]
  | cons x xs ihx =>
    intro ys ps qs h1 h2 e1 e2
    obtain ⟨p, ps', rfl, k1, k2⟩ := key e1 h1
    cases ys with
    | nil => cases e2; simp [PyData.eqvAll]
    | cons y ys =>
      obtain ⟨q, qs', rfl, l1, l2⟩ := key e2 h2
      rw [List.all_cons, Bool.and_eq_true] at h1 h2
      have a := ih x y p q h1.1 h2.1 k1 l1
      have b := ihx ys ps' qs' h1.2 h2.2 k2 l2
      rw [PyData.eqvAll, Bool.and_eq_true, a, b, List.cons.injEq]
theorem eqv_pl : ∀ (n : Nat) (x y : D) (p q : PyData), pl n x = true → pl n y = true → D.py x = some p → D.py y = some q → (PyData.eqv p q = true ↔ x = y) := by
  intro n
  induction n with
  | zero =>
    intro x y p q hx hy ex ey
    cases x with
    | int i =>
      cases ex
      cases y with
      | int j => cases ey; simp [PyData.eqv]
      | non => cases ey; simp [PyData.eqv]
      | _ => unfold pl at hy; cases hy
    | non =>
      cases ex
      cases y with
      | int j => cases ey; simp [PyData.eqv]
      | non => cases ey; simp [PyData.eqv]
      | _ => unfold pl at hy; cases hy
    | _ => unfold pl at hx; cases hx
  | succ n ih =>
    intro x y p q hx hy ex ey
    have tupP : ∀ {ds : List D} {p : PyData}, D.py (.tup ds) = some p → ∃ ps, p = .tuple ps ∧ D.pys ds = some ps := fun {ds p} h => by
      unfold D.py at h
      cases e : D.pys ds with
      | none => rw [e] at h; cases h
      | some ps => rw [e] at h; cases h; exact ⟨ps, rfl, rfl⟩
    have lstP : ∀ {ds : List D} {p : PyData}, D.py (.lst ds) = some p → ∃ ps, p = .list ps ∧ D.pys ds = some ps := fun {ds p} h => by
      unfold D.py at h
      cases e : D.pys ds with
      | none => rw [e] at h; cases h
      | some ps => rw [e] at h; cases h; exact ⟨ps, rfl, rfl⟩
    cases x with
    | int i =>
      cases ex
      cases y with
      | int j => cases ey; simp [PyData.eqv]
      | non => cases ey; simp [PyData.eqv]
      | tup ds => obtain ⟨ps, rfl, _⟩ := tupP ey; simp [PyData.eqv]
      | lst ds => obtain ⟨ps, rfl, _⟩ := lstP ey; simp [PyData.eqv]
      | _ => unfold pl at hy; cases hy
    | non =>
      cases ex
      cases y with
      | int j => cases ey; simp [PyData.eqv]
      | non => cases ey; simp [PyData.eqv]
      | tup ds => obtain ⟨ps, rfl, _⟩ := tupP ey; simp [PyData.eqv]
      | lst ds => obtain ⟨ps, rfl, _⟩ := lstP ey; simp [PyData.eqv]
      | _ => unfold pl at hy; cases hy
    | tup ds =>
      obtain ⟨ps, rfl, e1⟩ := tupP ex
      cases y with
      | int j => cases ey; simp [PyData.eqv]
      | non => cases ey; simp [PyData.eqv]
      | tup es =>
        obtain ⟨qs, rfl, e2⟩ := tupP ey
        unfold pl at hx hy
        rw [PyData.eqv, eqvs_pl ih ds es ps qs hx hy e1 e2, D.tup.injEq]
      | lst es => obtain ⟨qs, rfl, _⟩ := lstP ey; simp [PyData.eqv]
      | _ => unfold pl at hy; cases hy
    | lst ds =>
      obtain ⟨ps, rfl, e1⟩ := lstP ex
      cases y with
      | int j => cases ey; simp [PyData.eqv]
      | non => cases ey; simp [PyData.eqv]
      | tup es => obtain ⟨qs, rfl, _⟩ := tupP ey; simp [PyData.eqv]
      | lst es =>
        obtain ⟨qs, rfl, e2⟩ := lstP ey
        unfold pl at hx hy
        rw [PyData.eqv, eqvs_pl ih ds es ps qs hx hy e1 e2, D.lst.injEq]
      | _ => unfold pl at hy; cases hy
    | _ => unfold pl at hx; cases hx
theorem eqD_pl {n : Nat} {x y : D} (hx : pl n x = true) (hy : pl n y = true) (hn : n ≤ 64 := by omega) {k : Bool} (hk : k = true ↔ x = y) : eqD x y = some k := by
  obtain ⟨p, h1, h2, h3⟩ := pl_py n x hx
  obtain ⟨q, g1, g2, g3⟩ := pl_py n y hy
  unfold eqD
  rw [h1, g1]
  dsimp only
  have s1 : SeqAt.shaped p = true := by
    show (p.canLay0 && decide (p.depth ≤ 64)) = true
    rw [h2, decide_eq_true (by omega)]
    rfl
  have s2 : SeqAt.shaped q = true := by
    show (q.canLay0 && decide (q.depth ≤ 64)) = true
    rw [g2, decide_eq_true (by omega)]
    rfl
  rw [if_pos ⟨s1, s2⟩]
  congr 1
  have := eqv_pl n x y p q hx hy h1 g1
  rw [Bool.eq_iff_iff, this, hk]
/-! ### loops -/
theorem loopF_fold {α β : Type} {pm : Pt} {b : SM} (g : α → D) (f : β → α → β) (I : β → List SD → S → Prop) : ∀ (l : List α) (st : β) (ρ : List SD) (s : S),
    (∀ a, a ∈ l → ∀ st ρ s, I st ρ s → ∃ ρ1 ρ' s', pm.run (g a) ρ = some ρ1 ∧ b ρ1 s = .nx ρ' s' ∧ I (f st a) ρ' s') → I st ρ s → ∃ ρ' s', loopF pm b (l.map g) ρ s = .nx ρ' s' ∧ I (l.foldl f st) ρ' s'
  | [], st, ρ, s, _, h => ⟨ρ, s, rfl, h⟩
  | a :: l, st, ρ, s, hs, h => by
    obtain ⟨ρ1, ρ', s', e1, e2, h'⟩ := hs a List.mem_cons_self st ρ s h
    obtain ⟨ρ2, s2, e3, h2⟩ := loopF_fold g f I l (f st a) ρ' s' (fun a ha => hs a (List.mem_cons_of_mem _ ha)) h'
    refine ⟨ρ2, s2, ?_, h2⟩
    rw [List.map_cons, v_loopF, e1]
    simp only [e2, e3]
/-- turn by turn -/
theorem loopF_inv {pm : Pt} {b : SM} (I : Nat → List SD → S → Prop) : ∀ (ds : List D) (k : Nat) (ρ : List SD) (s : S),
    (∀ (i : Nat) (d : D) ρ s, ds[i]? = some d → I (k + i) ρ s → ∃ ρ1 ρ' s', pm.run d ρ = some ρ1 ∧ (b ρ1 s = .nx ρ' s' ∨ b ρ1 s = .ct ρ' s') ∧ I (k + i + 1) ρ' s') → I k ρ s → ∃ ρ' s', loopF pm b ds ρ s = .nx ρ' s' ∧ I (k + ds.length) ρ' s'
  | [], k, ρ, s, _, h => ⟨ρ, s, rfl, h⟩
  | d :: ds, k, ρ, s, hs, h => by
    obtain ⟨ρ1, ρ', s', e1, e2, h'⟩ := hs 0 d ρ s rfl h
    obtain ⟨ρ2, s2, e3, h2⟩ := loopF_inv I ds (k + 1) ρ' s' (fun i d ρ s hi hI => by
      have := hs (i + 1) d ρ s hi (by rw [show k + (i + 1) = k + 1 + i by omega]; exact hI)
      rw [show k + 1 + i + 1 = k + (i + 1) + 1 by omega]
      exact this) h'
    refine ⟨ρ2, s2, ?_, by rw [List.length_cons, show k + (ds.length + 1) = k + 1 + ds.length by omega]; exact h2⟩
    rw [v_loopF, e1]
    rcases e2 with e2 | e2
    · simp only [e2, e3]
    · simp only [e2, e3]
/-- the first for which p stands is given back -/
theorem loopF_find {α : Type} {pm : Pt} {b : SM} (g : α → D) (p : α → Bool) (r : α → D) (I : List SD → S → Prop) : ∀ (l : List α) (ρ : List SD) (s : S),
    (∀ a, a ∈ l → ∀ ρ s, I ρ s → ∃ ρ1, pm.run (g a) ρ = some ρ1 ∧ ((p a = true ∧ ∃ s', b ρ1 s = .rt (r a) s') ∨ (p a = false ∧ ∃ ρ' s', b ρ1 s = .nx ρ' s' ∧ I ρ' s'))) → I ρ s →
      (∃ a s', l.find? p = some a ∧ loopF pm b (l.map g) ρ s = .rt (r a) s') ∨ (l.find? p = none ∧ ∃ ρ' s', loopF pm b (l.map g) ρ s = .nx ρ' s' ∧ I ρ' s')
  | [], ρ, s, _, h => .inr ⟨rfl, ρ, s, rfl, h⟩
  | a :: l, ρ, s, hs, h => by
    obtain ⟨ρ1, e1, e2⟩ := hs a List.mem_cons_self ρ s h
    rcases e2 with ⟨hp, s', e2⟩ | ⟨hp, ρ', s', e2, h'⟩
    · refine .inl ⟨a, s', by rw [List.find?_cons_of_pos hp], ?_⟩
      rw [List.map_cons, v_loopF, e1]
      simp only [e2]
    · have ih := loopF_find g p r I l ρ' s' (fun a ha => hs a (List.mem_cons_of_mem _ ha)) h'
      rw [List.find?_cons_of_neg (by rw [hp]; exact Bool.false_ne_true)]
      have e3 : loopF pm b ((a :: l).map g) ρ s = loopF pm b (l.map g) ρ' s' := by
        rw [List.map_cons, v_loopF, e1]
        simp only [e2]
      rw [e3]
      exact ih
end Tv

/-! Tx1: an own exception whose __init__ says super().__init__('..'), then self.f = f for each parameter: at the library's level -/
namespace Tx
open PySem PySem.Spec PySem.Calls PyProof.Rows PySem.W

abbrev tailVE : List Value := [.type "ValueError", .type "Exception", .type "BaseException", .type "object"]
/-- the statement super().__init__('m') -/
abbrev supSt (m : Str) (j : Nat) (q0 q1 q2 q3 q4 q5 : Pos) : Stmt := .Expr (.Call (.Attribute (.Call (.Name "super" q0) [] [] q1) "__init__" q2) [.Constant (.str m) j q3] [] q4) q5
/-- self.f = f -/
abbrev stoSt (f : Str) (q0 q1 q2 q3 : Pos) : Stmt := .Assign [.Attribute (.Name "self" q0) f q1] (.Name f q2) q3
/-- how super().__init__('m') is read (by the places in the text) -/
def SupForm (m : Str) (j : Nat) (q0 q1 q2 q3 q4 : Pos) : Prop := ∀ env : Env, ∃ pl : Sem Bool, eval (.Call (.Attribute (.Call (.Name "super" q0) [] [] q1) "__init__" q2) [.Constant (.str m) j q3] [] q4) env = (do
  let ov ← attributeBase (.Call (.Name "super" q0) [] [] q1) "__init__" env (eval (.Call (.Name "super" q0) [] [] q1) env)
  standAt q2.atName
  let (f, first) ← holding [ov] (getMethod ov "__init__" pl)
  callWith q4 f first (backTo q4 (starEach [.Constant (.str m) j q3] env)) [])
/-- what a class C, its __init__ at f and the cell cc are -/
structure XCl (prog : Program) (K : Frag) (C f cc : Addr) (body : List Stmt) (fd : FuncData) : Prop where
  cls : ∃ nm q N bs bm sn sub ab col dd k0 k1 k2 k3 k5, K.lookup C = some (excClassObj nm q C N bs bm true sn sub ab col dd k0 k1 k2 k3 k5 "ValueError.__new__") ∧ PySem.HandSPX.refsVE bm = true ∧ alongIn K "__init__" bm = some (some (.builtin "ValueError.__init__"))
  sa : findIn K (.ref C) "__setattr__" = some (some (.builtin "object.__setattr__"))
  veC : subIn K (.ref C) (.type "ValueError") = some true
  exC : subIn K (.ref C) (.type "BaseException") = some true
  tyC : typeIn K (.ref C) = some (.type "type")
  kC : keepIn K (.ref C) = true
  slf : mroIn K C (.ref C) = some true
  ini : findIn K (.ref C) "__init__" = some (some (.ref f))
  iniT : typeIn K (.ref f) = some (.type "function")
  opq : nsIn K cStatics "thirdparty.any" = some none
  fn : ∃ oc od osl qual params scope doc pm an cda ct nm dV kV, fd = ksFn nm qual params body scope dV kV doc pm an (.ref cda) ct cc ∧ K.lookup f = some ⟨oc, od, .func fd, osl⟩ ∧ codeIn K (.ref cda) qual = true ∧
    (params.posonlyargs ++ params.args).head?.map (·.arg) = some "self" ∧ scope.names.lookup ("super" : Str) = some .globalImplicit ∧ scope.names.lookup ("__class__" : Str) = some .free ∧ scope.kind = .function ∧ scope.isCoroutine = false ∧ scope.isGenerator = false ∧ (∀ x ∈ scope.names, x.2 ≠ .cell) ∧
    scope.names.lookup ("self" : Str) = some .local ∧
    ∃ ccl cdd ccs vs file tf, K.lookup cda = some ⟨ccl, cdd, .fields vs, ccs⟩ ∧ vs[2]? = some (.str file tf) ∧ ((prog.main.file : Str) == file) = true
  cell : ∃ cl cld csl, K.lookup cc = some ⟨cl, cld, .cell (some (.ref C)), csl⟩
  top : (prog.main.scope.names.lookup ("super" : Str)).isSome = false

section
variable {prog : Program} {w : World} {A : Around} {h : Heap} {g : Array GenState} {dr : Drawn} {t : Nat} {os : OsState} {K : Frag} {C f cc x L : Addr} {body : List Stmt} {fd : FuncData} {c : Code}
theorem XCl.clsIn {prog : Program} (T : XCl prog K C f cc body fd) : ∃ cd bm, clsIn K C = some cd ∧ cd.mro = .ref C :: bm ∧ PySem.HandSPX.refsVE cd.mro = true ∧ cd.hasDict = true ∧ alongIn K "__init__" bm = some (some (.builtin "ValueError.__init__")) := by
  obtain ⟨nm, q, N, bs, bm, sn, sub, ab, col, dd, k0, k1, k2, k3, k5, hC, hbm, hal⟩ := T.cls
  refine ⟨{ name := nm, bases := bs, mro := .ref C :: bm, ns := N, qualname := q, hasDict := true, slotNames := sn, subclasses := sub, abstract := ab, collection := col, hasDel := false }, bm, ?_, rfl, hbm, rfl, hal⟩
  unfold PySem.W.clsIn
  rw [hC] <;> rfl
/-- what stays: all but x -/
def Kx (x : Addr) (h h' : Heap) : Prop := ∀ b o, b ≠ x → h.get? b = some o → h'.get? b = some o
theorem Kx.trans {x : Addr} {h h1 h2 : Heap} (a : Kx x h h1) (b : Kx x h1 h2) : Kx x h h2 := fun d o n e => b d o n (a d o n e)
theorem Kx.ns {x a : Addr} {h h1 : Heap} {m : Str → Option Value} (k : Kx x h h1) (n : h.Ns a m) (e : a ≠ x) : h1.Ns a m := n.at fun o z => k a o e z
theorem Kx.inK {x : Addr} {h h1 : Heap} (k : Kx x h h1) (X : K.In h) (n : K.lookup x = none) : K.In h1 := fun a o e => k a o (fun z => by rw [z, n] at e; cases e) (X a o e)
/-- super().__init__('m') -/
theorem run_super {m : Str} {j : Nat} {q0 q1 q2 q3 q4 q5 : Pos} {qual : Str} {scope : Scope} {mL mg mb : Str → Option Value} {bd : List Stmt} {cda t0 : Addr} {E : Value → Shared → Prop} {Q : Flow → Shared → Prop}
    (SF : SupForm m j q0 q1 q2 q3 q4) (T : XCl prog K C f cc body fd) (X : K.In h) (hG : h.Ns mainGlobals mg) (hB : h.Ns builtinsNs mb) (hmg : mg "super" = none) (hmb : mb "super" = some (.type "super")) (nx : K.lookup x = none)
    (hx : h.get? x = some (excObj C t0 none .none)) (hL : h.Ns L mL) (hs : mL "self" = some (.ref x)) (hLx : L ≠ x)
    (hf : fd.scope = scope) (hcd : fd.code = .ref cda) (hq : ksEnv qual scope L f (.ref cda) cc = callEnv fd L f)
    (h1 : ∀ h' t1 tk, Kx x h h' → h'.get? x = some (excObj C t1 none .none) → Q .next ⟨h', g, dr, tk, os⟩) :
    _root_.PySem.wpAt (model prog w) A (.func bd (ksEnv qual scope L f (.ref cda) cc)) (exec (supSt m j q0 q1 q2 q3 q4 q5) (ksEnv qual scope L f (.ref cda) cc)) Q E ⟨h, g, dr, t, os⟩ := by
  obtain ⟨cd, bm, hcl, hmro, hVE, hhd, hal⟩ := T.clsIn
  obtain ⟨oc, od, osl, qual', params, scope', doc, pm, an, cda', ct, nm, dV, kV, e, hlf, hci, hp, hks, hkc, hk, hco, hgen, hnc, hsl, ccl, cdd, ccs, vs, file, tf, hcda, hvs, hfile⟩ := T.fn
  obtain ⟨cl, cld, csl, hcc⟩ := T.cell
  have ec : cda' = cda := by
    have z : fd.code = .ref cda' := by rw [e]
    rw [hcd] at z
    exact (Value.ref.inj z).symm
  have es : scope' = scope := by
    have z : fd.scope = scope' := by rw [e]
    rw [hf] at z
    exact z.symm
  subst ec es
  obtain ⟨ar, har, hself⟩ : ∃ ar, (fd.params.posonlyargs ++ fd.params.args).head? = some ar ∧ ar.arg = "self" := by
    have z : fd.params = params := by rw [e]
    rw [z]
    cases q : (params.posonlyargs ++ params.args).head? with
    | none => rw [q] at hp; cases hp
    | some a => rw [q] at hp; exact ⟨a, rfl, Option.some.inj hp⟩
  obtain ⟨oD, hD1, hD2⟩ : ∃ oD, h.get? C = some oD ∧ oD.data = .cls cd := by
    unfold PySem.W.clsIn at hcl
    split at hcl
    · rename_i c d cd' sl ho
      cases hcl
      exact ⟨_, X _ _ ho, rfl⟩
    · cases hcl
  have I0 : InstAt h x (excObj C t0 none .none) C none := ⟨hx, rfl, rfl, trivial⟩
  refine ks_wpAt_Expr_any ?_ (by show (scope'.kind == .module && _) = false; rw [hk]; rfl)
  obtain ⟨pl, he⟩ := SF (ksEnv qual scope' L f (.ref cda') cc)
  refine ks_wpAt_MethodCall (pl := pl) ?_ he
  refine ks_wpAt_super_base (env := ksEnv qual scope' L f (.ref cda') cc) hks hkc rfl rfl (X _ _ hlf) rfl har rfl (X _ _ hcda) rfl hvs hfile T.top ?_
  refine ks_loadName_global hk hks (loadGlobal_builtin (env := ksEnv qual scope' L f (.ref cda') cc) hG hmg hB hmb ⟨rfl, ?_⟩)
  refine wpAny_loadName_free hk hkc rfl ⟨_, X _ _ hcc, rfl⟩ ?_
  rw [hself]
  refine wpAny_loadName_local hk hsl hL hs ?_
  refine ks_wpAny_isType_cls hD1 hD2 ⟨rfl, ?_⟩
  refine ks_wpAny_call_super hD1 hD2 hx rfl (fun c e => by cases e) (looks_mroIn X T.slf) (fun h1' e1 k1 => ?_)
  have X1 : K.In h1' := X.keeps k1
  have hso := e1
  have I1 : InstAt h1' x (excObj C t0 none .none) C none := ⟨k1 _ _ hx, rfl, rfl, trivial⟩
  refine kxs_getMethod kxs_ValueError (l₀ := cd.mro) hso (looks_opaque X1 T.opq) (fun A Q E s k q => wpAny_bind ((looks_clsIn X1 hcl) A _ E s k (wpAny_pure q))) (by rw [hmro]; show ((Value.ref C :: bm).dropWhile (· != .ref C)).drop 1 = bm; simp [List.dropWhile_cons]) X1 hal (I1.type.andThen (looks_subIn X1 T.veC)) (ks_ne X1 I1 hcl) rfl ?_
  show wpAny _ _ (callWith q4 (.ref h1'.objs.size) [] (backTo q4 (starEach [.Constant (.str m) j q3] _)) []) _ _ _
  have k2 : ∀ b o, h1'.get? b = some o → (h1'.push (kxs_mw "ValueError.__init__" x)).get? b = some o := fun b o z => Heap.get?_push_of_some _ z
  have hu : (h1'.push (kxs_mw "ValueError.__init__" x)).get? h1'.objs.size = some (kxs_mw "ValueError.__init__" x) := Heap.get?_push_size _ rfl
  have hx2 : (h1'.push (kxs_mw "ValueError.__init__" x)).get? x = some (excObj C t0 none .none) := k2 _ _ (k1 _ _ hx)
  have ho : Kx x h (h1'.push (kxs_mw "ValueError.__init__" x)) := fun b o _ z => k2 _ _ (k1 _ _ z)
  obtain ⟨nm2, qn, N, bs, bm2, sn, sub, ab, col, dd, k0, k1', k2', k3, k5, hC, hbm, hal2⟩ := T.cls
  have hC2 := k2 _ _ (X1 _ _ hC)
  refine kxs_callWith (i := "ValueError.__init__") (x := x) rfl ?_
  refine evalArgs_plain (Calls.spliced_cons ?_)
  refine wpAny_Constant_str (k := j) (pos := q3) ?_
  refine Calls.spliced_nil ⟨hu, ?_⟩
  refine wpAny_call (codeAny_of_tree ?_)
  show wpAny _ A.in1 (callAny (.ref h1'.objs.size) ⟨[.str m _], []⟩) _ _ _
  unfold callAny
  refine wpAny_bind (wpAny_load hu ?_)
  refine wpAny_bind (check_bound_init F.excBase_ValueError.toExcCallFacts hC2 hx2 rfl ?_)
  refine wpAny_bind (wpAny_pure (wpAny_pure ⟨plainId_quiet F.excBase_ValueError.init.plain _, codeAny_builtin F.excBase_ValueError.initEntry ?_⟩))
  refine exc_init_tree (cls := .ref C) (t0 := t0) (dv := none) (c2 := .none) (c3 := .none) (b4 := .bool false) hx2 (by show 1 ≤ sizeLine; rw [sizeLine_eq]; omega) fun h3 k3 e3 _ => ?_
  exact h1 h3 _ _ (ho.trans fun b o n z => k3 b o n z) e3
end

/-! ### self.f = f -/
theorem lookup_mem {α β : Type} [BEq α] [LawfulBEq α] : ∀ {l : List (α × β)} {n : α} {v : β}, (n, v) ∈ l → (l.map (·.1)).Nodup → l.lookup n = some v
  | [], _, _, h, _ => by cases h
  | (a, b) :: l, n, v, h, nd => by
    rw [List.map_cons, List.nodup_cons] at nd
    rcases List.mem_cons.mp h with e | e
    · cases e
      simp [List.lookup]
    · have : (n == a) = false := by
        cases q : n == a with
        | false => rfl
        | true =>
          have := eq_of_beq q
          subst this
          exact absurd (List.mem_map_of_mem (f := (·.1)) e) nd.1
      rw [List.lookup_cons, this]
      exact lookup_mem e nd.2
theorem zip_look {ps : List Str} {us : List Value} {i : Nat} {n : Str} {u : Value} (nd : ps.Nodup) (hl : us.length = ps.length) (h1 : ps[i]? = some n) (h2 : us[i]? = some u) : (ps.zip us).reverse.lookup n = some u := by
  have hm : (ps.zip us).map (·.1) = ps := by rw [List.map_fst_zip (by omega)]
  refine lookup_mem (List.mem_reverse.mpr ?_) ?_
  · refine List.mem_iff_getElem?.mpr ⟨i, ?_⟩
    rw [List.getElem?_zip_eq_some]
    exact ⟨h1, h2⟩
  · rw [List.map_reverse, hm]
    exact List.pairwise_reverse.mpr (List.Pairwise.imp (fun e => Ne.symm e) nd)
inductive Sts : List Str → List Stmt → Prop
  | nil : Sts [] []
  | cons {f : Str} {q0 q1 q2 q3 : Pos} {fs : List Str} {rest : List Stmt} : Sts fs rest → Sts (f :: fs) (stoSt f q0 q1 q2 q3 :: rest)
/-- the exception while its fields are stored: done, the last first -/
structure Doing (h0 h : Heap) (C x L : Addr) (mL : Str → Option Value) (done : List (Str × Value)) : Prop where
  keep : ∀ b o, h0.get? b = some o → h.get? b = some o
  ns : h.Ns L mL
  at_ : ∃ t1 od, h.get? x = some (excObj C t1 od .none) ∧ ((done = [] ∧ od = none) ∨ ∃ dx, od = some dx ∧ dx ≠ x ∧ dx ≠ L ∧ h0.get? dx = none ∧ h.Ns1 dx (fun y => done.lookup y) ∧ done ≠ [])
section
variable {prog : Program} {w : World} {A : Around} {h h0 : Heap} {g : Array GenState} {dr : Drawn} {t : Nat} {os : OsState} {K : Frag} {C f cc x L : Addr} {body : List Stmt} {fd : FuncData} {c : Code} {mL : Str → Option Value}
theorem lookup_cons_fun (f : Str) (u : Value) (l : List (Str × Value)) : (fun y => if y = f then some u else l.lookup y) = fun y => ((f, u) :: l).lookup y := by
  funext y
  rw [List.lookup_cons]
  by_cases e : y = f
  · subst e
    simp
  · have : (y == f) = false := beq_eq_false_iff_ne.mpr e
    rw [if_neg e, this]
theorem within_lookup (l : List (Str × Value)) : Within (fun y => l.lookup y) (l.map (·.1)) := fun y hy => by
  have hy : l.lookup y ≠ none := hy
  cases q : l.lookup y with
  | none => exact absurd q hy
  | some v =>
    exact List.mem_map_of_mem (f := (·.1)) (PySem.mem_of_lookup q)
theorem run_sto {env : Env} {fl : Str} {u : Value} {q0 q1 q2 q3 : Pos} {done : List (Str × Value)} {E : Value → Shared → Prop} {Q : Flow → Shared → Prop} (T : XCl prog K C f cc body fd) (X : K.In h0) (n0 : h0.get? x = none) (nL0 : h0.get? L = none) (D : Doing h0 h C x L mL done)
    (hLx : L ≠ x) (hk : env.scope.kind = .function) (hl : env.locals = L) (hs : env.kindOf "self" = some .local) (hf : env.kindOf fl = some .local) (hms : mL "self" = some (.ref x)) (hmf : mL fl = some u) (hd : (fl == ("__debug__" : Str)) = false) (hno : findIn K (.ref C) fl = some none) (hn : done.length ≤ 900)
    (hq : ∀ h' tk, Doing h0 h' C x L mL ((fl, u) :: done) → Q .next ⟨h', g, dr, tk, os⟩) :
    wpAny (model prog w) A (exec (stoSt fl q0 q1 q2 q3) env) Q E ⟨h, g, dr, t, os⟩ := by
  obtain ⟨cd, bm, hcl, hmro, hVE, hhd, hal⟩ := T.clsIn
  obtain ⟨t1, od, hx, hod⟩ := D.at_
  have Xh : K.In h := X.keeps D.keep
  subst hl
  refine plainObj_wpAny_Assign_Attribute ?_
  refine wpAny_Name (wpAny_loadName_local hk hf D.ns hmf ?_) hd
  refine wpAny_Name (wpAny_loadName_local hk hs D.ns hms ?_)
  rcases hod with ⟨rfl, rfl⟩ | ⟨dx, rfl, ndx, ndL, d0, hns, _⟩
  · refine set_plain Xh (ox := excObj C t1 none .none) (od := none) ⟨hx, rfl, rfl, trivial⟩ T.sa ?_
    refine PySem.HandSPX.exc_osa Xh hx hcl hVE hhd hno fun h' tk' dx k dn dne hx' hn' => ?_
    refine hq h' tk' ⟨fun b o z => k b o (fun e => by rw [e, n0] at z; cases z) (D.keep b o z), D.ns.at fun o z => k _ o hLx z, t1, some dx, hx', .inr ⟨dx, rfl, dne, ?_, ?_, ?_, List.cons_ne_nil _ _⟩⟩
    · intro e
      have := D.ns.lt
      rw [← e] at this
      exact absurd this (Nat.not_lt_of_le dn)
    · cases z : h0.get? dx with
      | none => rfl
      | some o => exact absurd (Heap.lt_size (D.keep _ _ z)) (Nat.not_lt_of_le dn)
    · rw [← lookup_cons_fun]
      exact hn'
  · obtain ⟨oD, esD, epD, hoD, hdD, hcD⟩ := hns.count (within_lookup done)
    refine set_plain Xh (ox := excObj C t1 (some dx) .none) (od := some oD) ⟨hx, rfl, rfl, hoD⟩ T.sa ?_
    refine PySem.OEX.osa_old Xh hx hns (within_lookup done) (by rw [List.length_map]; omega) hcl hVE hhd hno fun h' tk' k hn' => ?_
    refine hq h' tk' ⟨fun b o z => k b o (fun e => by rw [e, d0] at z; cases z) (D.keep b o z), D.ns.at fun o z => k _ o (Ne.symm ndL) z, t1, some dx, k _ _ (Ne.symm ndx) hx, .inr ⟨dx, rfl, ndx, ndL, d0, ?_, List.cons_ne_nil _ _⟩⟩
    rw [← lookup_cons_fun]
    exact hn'
theorem run_stos {env : Env} {E : Value → Shared → Prop} {Q : Flow → Shared → Prop} (T : XCl prog K C f cc body fd) (X : K.In h0) (n0 : h0.get? x = none) (nL0 : h0.get? L = none) (hLx : L ≠ x) (hk : env.scope.kind = .function) (hl : env.locals = L) (hs : env.kindOf "self" = some .local) (hms : mL "self" = some (.ref x)) :
    ∀ {fs : List Str} {us : List Value} {rest : List Stmt} {done : List (Str × Value)} {h : Heap} {t : Nat}, Sts fs rest → us.length = fs.length → Doing h0 h C x L mL done → (∀ p ∈ fs.zip us, env.kindOf p.1 = some .local ∧ mL p.1 = some p.2 ∧ (p.1 == ("__debug__" : Str)) = false ∧ findIn K (.ref C) p.1 = some none) → done.length + fs.length ≤ 900 →
      (∀ h' tk, Doing h0 h' C x L mL ((fs.zip us).reverse ++ done) → Q .next ⟨h', g, dr, tk, os⟩) → wpAny (model prog w) A (execs rest env) Q E ⟨h, g, dr, t, os⟩
  | _, [], _, done, h, t, .nil, _, D, _, _, hq => wpAny_execs_nil (hq h t D)
  | _, u :: us, _, done, h, t, .cons (f := fl) (fs := fs) S, hlen, D, hf, hn, hq => by
    obtain ⟨e1, e2, e3, e4⟩ := hf (fl, u) (List.mem_cons_self ..)
    simp only [List.length_cons] at hn hlen
    refine wpAny_execs_cons (run_sto T X n0 nL0 D hLx hk hl hs e1 hms e2 e3 e4 (by omega) fun h' tk D' => ?_)
    refine run_stos T X n0 nL0 hLx hk hl hs hms S (by omega) D' (fun p hp => hf p (List.mem_cons_of_mem _ hp)) (by simp only [List.length_cons]; omega) fun h2 tk2 D2 => hq h2 tk2 ?_
    rw [List.zip_cons_cons, List.reverse_cons, List.append_assoc]
    exact D2
  | _, _ :: _, _, _, _, _, .nil, hlen, _, _, _, _ => by cases hlen
  | _, [], _, _, _, _, .cons _, hlen, _, _, _, _ => by cases hlen
/-- C(us) -/
theorem run_make {A : Around} {m : Str} {j : Nat} {q0 q1 q2 q3 q4 q5 : Pos} {fs : List Str} {rest : List Stmt} {us : List Value} {R : Result → Shared → Prop} {mg mb : Str → Option Value} (SF : SupForm m j q0 q1 q2 q3 q4)
    (T : XCl prog K C f cc (supSt m j q0 q1 q2 q3 q4 q5 :: rest) fd) (S : Sts fs rest) (hb : fd.body = .stmts (supSt m j q0 q1 q2 q3 q4 q5 :: rest)) (X : K.In h) (hG : h.Ns mainGlobals mg) (hB : h.Ns builtinsNs mb) (hmg : mg "super" = none) (hmb : mb "super" = some (.type "super"))
    (hlim : h.NoLimit) (hu : us.length = fs.length) (hu9 : us.length ≤ 900) (nd : (("self" : Str) :: fs).Nodup) (hloc : ∀ y ∈ fs, fd.scope.names.lookup y = some .local ∧ (y == ("__debug__" : Str)) = false ∧ findIn K (.ref C) y = some none) (hroom : (A.under (.builtin "type.__call__" ⟨.ref C :: us, []⟩)).depth < recursionLimit)
    (hbind : ∀ (s : Shared) (a : Value), K.In s.heap → BindsTo s fd ⟨a :: us, []⟩ ((("self" : Str) :: fs).zip (a :: us)))
    (hq : ∀ h' tk t1 od, (∀ b o, h.get? b = some o → h'.get? b = some o) → h'.get? (h.objs.size + 1) = some (excObj C t1 od .none) → ((fs = [] ∧ od = none) ∨ ∃ dx, od = some dx ∧ dx ≠ h.objs.size + 1 ∧ h.get? dx = none ∧ h'.Ns1 dx (fun y => (fs.zip us).reverse.lookup y) ∧ fs ≠ []) →
      R (.ok (.ret (.ref (h.objs.size + 1)))) ⟨h', g, dr, tk, os⟩) :
    codeAny (model prog w) A (.call (.ref C) ⟨us, []⟩) R ⟨h, g, dr, t, os⟩ := by
  obtain ⟨nm2, qn, N, bs, bm, sn, sub, ab, col, dd, k0, k1, k2, k3, k5, hC, hbm, hal⟩ := T.cls
  obtain ⟨oc, od, osl, qual, params, scope, doc, pm, an, cda, ct, nm, dV, kV, e, hlf, hci, hp, hks, hkc, hk, hco, hgen, hnc, hsl, _⟩ := id T.fn
  refine PySem.HandSPX.call_own F.excBase_ValueError (fun Y => PySem.HandSPX.refsVE_contains Y bm hbm) (X _ _ hC) (looks_findIn X T.ini) (fun self => bind_fn X self T.iniT) (by rw [sizeLine_eq]; omega) ?_
  have kk : ∀ b o, h.get? b = some o → ((h.push (kdv_tup us)).push (PySem.HandSPX.excO C h.objs.size)).get? b = some o := fun b o e => Heap.get?_push_of_some _ (Heap.get?_push_of_some _ e)
  have hget : ((h.push (kdv_tup us)).push (PySem.HandSPX.excO C h.objs.size)).get? (h.objs.size + 1) = some (PySem.HandSPX.excO C h.objs.size) := by heap_get
  have X2 := X.keeps kk
  have nx : h.get? (h.objs.size + 1) = none := Heap.get?_none_of_le (Nat.le_add_right _ _)
  have nxK : K.lookup (h.objs.size + 1) = none := by
    cases z : K.lookup (h.objs.size + 1) with
    | none => rfl
    | some o => rw [X _ _ z] at nx; cases nx
  have hfd : fd.scope = scope := by rw [e]
  have hcode : fd.code = .ref cda := by rw [e]
  have hl2 : (Value.ref (h.objs.size + 1) :: us).length = (("self" : Str) :: fs).length := by simp [hu]
  generalize hh2 : (h.push (kdv_tup us)).push (PySem.HandSPX.excO C h.objs.size) = h2 at *
  have hs2 : h2.objs.size = h.objs.size + 2 := by rw [← hh2, Heap.size_push, Heap.size_push]
  refine ks_codeAny_call_defAt (fd := fd) (body := supSt m j q0 q1 q2 q3 q4 q5 :: rest) (binds := (("self" : Str) :: fs).zip (.ref (h.objs.size + 1) :: us)) hroom (X2 _ _ hlf) rfl (hlim.keeps kk) (codeRec_of X2 (by rw [e]; exact hci)) hb (hbind _ _ X2) (by rw [hfd]; exact hnc) ?_ (fun h3 hns k3 => ?_) (by rw [hfd]; exact hco) (by rw [hfd]; exact hgen) (by rw [hfd]; exact hk)
  · rintro ⟨y, v⟩ hy
    have := (List.of_mem_zip hy).1
    rcases List.mem_cons.mp this with e1 | e1
    · rw [e1, hfd]; exact hsl
    · exact (hloc y e1).1
  · have eE : callEnv fd h2.objs.size f = ksEnv qual scope h2.objs.size f (.ref cda) cc := by rw [e] <;> rfl
    rw [eE]
    have X3 := X2.keeps k3
    have hms : (fun y => (((("self" : Str) :: fs).zip (.ref (h.objs.size + 1) :: us)).reverse.lookup y)) "self" = some (.ref (h.objs.size + 1)) := zip_look (i := 0) nd hl2 rfl rfl
    have hLx : h2.objs.size ≠ h.objs.size + 1 := by omega
    refine ks_wpAt_execs_cons (run_super (t0 := h.objs.size) SF T X3 ((hG.keeps kk).keeps k3) ((hB.keeps kk).keeps k3) hmg hmb nxK (k3 _ _ hget) hns hms hLx hfd hcode eE.symm fun h4 t1 tk k4 hx4 => wpAt_of_wpAny ?_)
    have kb : ∀ b o, h.get? b = some o → h4.get? b = some o := fun b o z => k4 b o (fun q => by rw [q, nx] at z; cases z) (k3 _ _ (kk _ _ z))
    refine run_stos (h0 := h) (x := h.objs.size + 1) (L := h2.objs.size) (env := ksEnv qual scope h2.objs.size f (.ref cda) cc) T X nx (Heap.get?_none_of_le (by omega)) hLx hk rfl hsl hms S hu ⟨kb, k4.ns hns hLx, t1, none, hx4, .inl ⟨rfl, rfl⟩⟩ ?_ (by rw [List.length_nil]; omega) fun h5 tk5 D5 => ?_
    · rintro ⟨y, v⟩ hy
      obtain ⟨i, hi⟩ := List.mem_iff_getElem?.mp hy
      rw [List.getElem?_zip_eq_some] at hi
      obtain ⟨i1, i2⟩ := hi
      obtain ⟨l1, l2, l3⟩ := hloc y (List.mem_of_getElem? i1)
      exact ⟨by rw [← hfd]; exact l1, zip_look (i := i + 1) nd hl2 (by simpa using i1) (by simpa using i2), l2, l3⟩
    · obtain ⟨t5, od5, hx5, hod⟩ := D5.at_
      rw [List.append_nil] at hod
      refine ⟨rfl, hq h5 tk5 t5 od5 D5.keep hx5 ?_⟩
      rcases hod with ⟨z1, z2⟩ | ⟨dx, z1, z2, _, z3, z4, z5⟩
      · refine .inl ⟨?_, z2⟩
        have := congrArg List.length z1
        rw [List.length_reverse, List.length_zip, List.length_nil] at this
        cases fs with
        | nil => rfl
        | cons a b => simp only [List.length_cons] at this hu; omega
      · exact .inr ⟨dx, z1, z2, z3, z4, fun e => z5 (by subst e; rfl)⟩
end
end Tx

/-! Tx2: raise C(..) of an own exception -/
namespace Tv
open PySem PySem.Spec PyProof.Rows L2

/-- an exception class of the text: its number, its name, its fields (the parameters of its __init__) -/
structure Exc (P : Program) (K : PySem.W.Frag) (mg : Str → Option Value) (T : Tb) (c : Nat) (x : Str) (fs : List Str) : Prop where
  mg_ : mg x = some (.ref (T.cls c))
  sup : mg "super" = none
  fl : T.fl c = fs
  len : fs.length ≤ 800
  nd : (("self" : Str) :: fs).Nodup
  ex : ∃ f cc m j q0 q1 q2 q3 q4 q5 rest fd, Tx.XCl P K (T.cls c) f cc (Tx.supSt m j q0 q1 q2 q3 q4 q5 :: rest) fd ∧ Tx.SupForm m j q0 q1 q2 q3 q4 ∧ Tx.Sts fs rest ∧ fd.body = .stmts (Tx.supSt m j q0 q1 q2 q3 q4 q5 :: rest) ∧
    (∀ y ∈ fs, fd.scope.names.lookup y = some .local ∧ (y == ("__debug__" : Str)) = false ∧ PySem.W.findIn K (.ref (T.cls c)) y = some none) ∧ Binds K fd (("self" : Str) :: fs) []
theorem Exc.tb {P : Program} {K : PySem.W.Frag} {mg : Str → Option Value} {T : Tb} {c : Nat} {x : Str} {fs : List Str} {o : Option Addr} (h : Exc P K mg T c x fs) : Exc P K mg (T.w o) c x fs := ⟨h.mg_, h.sup, h.fl, h.len, h.nd, h.ex⟩
theorem lookup_rev {α β : Type} [BEq α] [LawfulBEq α] {l : List (α × β)} (nd : (l.map (·.1)).Nodup) (y : α) : l.reverse.lookup y = l.lookup y := by
  have ndr : (l.reverse.map (·.1)).Nodup := by
    rw [List.map_reverse]
    exact List.pairwise_reverse.mpr (List.Pairwise.imp (fun e => Ne.symm e) nd)
  have mem : ∀ {m : List (α × β)} {v : β}, m.lookup y = some v → (y, v) ∈ m := by
    intro m v
    induction m with
    | nil => intro h; cases h
    | cons p m ih =>
      intro h
      obtain ⟨a, b⟩ := p
      rw [List.lookup_cons] at h
      cases q : y == a with
      | true =>
        rw [q] at h
        cases h
        rw [eq_of_beq q]
        exact List.mem_cons_self
      | false =>
        rw [q] at h
        exact List.mem_cons_of_mem _ (ih h)
  cases q : l.lookup y with
  | some v => exact Tx.lookup_mem (List.mem_reverse.mpr (mem q)) ndr
  | none =>
    cases q2 : l.reverse.lookup y with
    | none => rfl
    | some v =>
      rw [Tx.lookup_mem (List.mem_reverse.mp (mem q2)) nd] at q
      cases q
theorem relO_zip {vs : List V} {us : List Value} (r : Vals vs us) : ∀ (fs : List Str) (f : Str), RelO ((fs.zip vs).lookup f) ((fs.zip us).lookup f) := by
  induction r with
  | nil =>
    intro fs f
    rw [List.zip_nil_right, List.zip_nil_right]
    trivial
  | cons h _ ih =>
    intro fs f
    cases fs with
    | nil => trivial
    | cons g fs =>
      rw [List.zip_cons_cons, List.zip_cons_cons, List.lookup_cons, List.lookup_cons]
      cases f == g with
      | true => exact h
      | false => exact ih fs f
/-- the reading of C(e, ..) -/
def tMkX (C : Addr) (fs : List Str) (ta : TA) : L2.St → Hp → XK → Prop := fun σ H Q => ta σ H fun vs H1 => vs.length = fs.length ∧ (fs = [] → Q (.ref C) none H1) ∧ (fs ≠ [] → ∀ d, H1 d = none → Q (.ref C) (some d) (upd H1 d (.xd (fs.zip vs))))
section
variable {X : Cx} {T : Tb} {W : WX} {c : Nat} {x : Str} {fs : List Str} {es : List Expr} {e : Expr} {ta : TA} {p pos : Pos}
theorem run_exc {pins : List (Addr × Obj)} {σ : L2.St} {H1 : Hp} {s1 : Shared} {Q : XK} {us : List Value} {vs : List V} (Ex : Exc X.prog X.K X.mg T c x fs) (hr : Room 1 X.A) (I1 : Inv X pins σ H1 s1) (r1 : Vals vs us) (hl : vs.length = fs.length)
    (q0 : fs = [] → Q (.ref (T.cls c)) none H1) (q1 : fs ≠ [] → ∀ d, H1 d = none → Q (.ref (T.cls c)) (some d) (upd H1 d (.xd (fs.zip vs)))) : wpAny (model X.prog X.w) X.A (call (.ref (T.cls c)) us) (MkP X pins σ Q) X.xe s1 := by
  obtain ⟨f, cc, m, j, p0, p1, p2, p3, p4, p5, rest, fd, XC, SF, S, hb, hloc, hbd⟩ := Ex.ex
  have hu : us.length = fs.length := by rw [← r1.length, hl]
  obtain ⟨mb, hB, hbb⟩ := I1.mod.blt
  have hl9 := Ex.len
  obtain ⟨h, g, dr, t, os⟩ := s1
  have hg : h.Ns mainGlobals X.mg := I1.mod.glob.keeps I1.bk
  have hB' : h.Ns builtinsNs mb := hB.keeps I1.bk
  have hms : mb "super" = some (.type "super") := (hbb _ (by decide)).trans (by decide +kernel)
  have hlim : h.NoLimit := I1.nolimit
  refine wpAny_call (Tx.run_make SF XC S hb I1.kIn hg hB' Ex.sup hms hlim hu (by omega) Ex.nd hloc ?_ (fun s a k => ?_) (fun h' tk t1 od k hx hod => ?_))
  · rw [make_depth]
    have := hr.dp
    omega
  · have := hbd s (a :: us) k (by simp [hu])
    rw [List.append_nil] at this
    exact this
  · obtain ⟨G, g1, g2⟩ := restrict h' fun b => decide (b ≠ h.objs.size + 1)
    have gk : ∀ b, b ≠ h.objs.size + 1 → G.get? b = h'.get? b := fun b hb => g1 b (decide_eq_true hb)
    have ga : G.get? (h.objs.size + 1) = none := g2 _ (by simp)
    have nx : h.get? (h.objs.size + 1) = none := Heap.get?_none_of_le (Nat.le_add_right _ _)
    have kG : ∀ b o, h.get? b = some o → G.get? b = some o := fun b o e => by
      rw [gk b (fun z => by rw [z, nx] at e; cases e)]
      exact k b o e
    have kG' : ∀ b o, G.get? b = some o → h'.get? b = some o := fun b o e => by
      by_cases q : b = h.objs.size + 1
      · rw [q, ga] at e; cases e
      · rw [gk b q] at e; exact e
    have na : H1 (h.objs.size + 1) = none := I1.hok.gone nx
    rcases hod with ⟨rfl, rfl⟩ | ⟨dx, rfl, dne, dn, hns, nf⟩
    · exact ⟨h.objs.size + 1, _, _, ⟨G, g, dr, t, os⟩, H1, _, none, rfl, I1.kept (h' := G) (t' := t) kG, kG', ga, hx, ⟨rfl, rfl⟩, rfl, rfl, na, rfl, I1.bare, raises_own XC.exC XC.tyC, q0 rfl⟩
    · have hd1 : H1 dx = none := I1.hok.gone dn
      have nd : fs.Nodup := (List.nodup_cons.mp Ex.nd).2
      have I2 : Inv X pins σ (upd H1 dx (.xd (fs.zip vs))) ⟨G, g, dr, t, os⟩ := Inv.laidN (t' := t) I1 kG dn hd1 ⟨_, hns.at fun o y => (gk dx dne).trans y, fun f => by
        rw [lookup_rev (by rw [List.map_fst_zip (by omega)]; exact nd)]
        exact relO_zip r1 fs f⟩
      refine ⟨h.objs.size + 1, _, _, ⟨G, g, dr, t, os⟩, _, _, some dx, rfl, I2, kG', ga, hx, ⟨rfl, rfl⟩, rfl, rfl, ?_, rfl, I1.bare, raises_own XC.exC XC.tyC, q1 nf dx hd1⟩
      rw [upd_ne (Ne.symm dne)]
      exact na
variable {j k : Nat} {lm : LM}
theorem pmk_exc (Ex : Exc X.prog X.K X.mg T c x fs) (hr : Room j X.A) (hk : 1 ≤ j) (hg : Gl X x) (ha : PA X (e :: es) ta) (hdb : (x == ("__debug__" : Str)) = false := by decide)
    (he : starEach (e :: es) X.env = (false, eval e X.env) :: starEach es X.env := by rfl) (hpl : (backTo pos (starEach es X.env)).any (·.1) = false := by rfl) :
    PMk X (.Call (.Name x p) (e :: es) [] pos) (tMkX (T.cls c) fs ta) := by
  intro pins s σ H Q I h
  obtain ⟨f, cc, m, j, p0, p1, p2, p3, p4, p5, rest, fd, XC, _⟩ := id Ex.ex
  refine wpAny_Call_Name_kw (ld_glob I hg Ex.mg_ ?_ hdb)
  refine PySem.W.callWith_K (h₀ := X.base) I.ok.mod.kin XC.kC (thn (ha.run pos pins s σ H _ I h) fun us s1 ⟨vs, H1, I1, r1, hl, q0, q1⟩ => ⟨I1.kIn, ?_⟩) he hpl
  exact run_exc Ex (hr.mono hk) I1 r1 hl q0 q1
theorem pmk_exc0 (Ex : Exc X.prog X.K X.mg T c x []) (hr : Room j X.A) (hk : 1 ≤ j) (hg : Gl X x) (hdb : (x == ("__debug__" : Str)) = false := by decide) :
    PMk X (.Call (.Name x p) [] [] pos) (tMkX (T.cls c) [] tNil) := by
  intro pins s σ H Q I h
  obtain ⟨f, cc, m, j, p0, p1, p2, p3, p4, p5, rest, fd, XC, _⟩ := id Ex.ex
  refine wpAny_Call_Name_kw (ld_glob I hg Ex.mg_ ?_ hdb)
  obtain ⟨hl, q0, q1⟩ := h
  exact PySem.W.callWith_K0 I.kIn XC.kC (run_exc (us := []) (vs := []) Ex (hr.mono hk) I .nil hl q0 q1)
/-- raise C(e, ..) -/
def mRaise (c : Nat) (lm : LM) : SM := fun ρ s => match lm ρ s with
  | .ok ds s' => .er c ds ρ s'
  | .er k es s' => .er k es ρ s'
  | .no => .no
theorem mRaise_of {n : Nat} {D0 : Ends} {σ : L2.St} {H : Hp} (hfl : T.fl c = fs) (hn : fs.length = n) (h : tS X.K T W (mRaise c lm) D0 σ H) : tMkX (T.cls c) fs (tP X.K T W (ALn X.K T n) lm) σ H fun cls d H' => W cls d σ H' := by
  obtain ⟨B, Z, cm, ρ, s, r, p⟩ := h
  refine ⟨B, Z, cm, ρ, s, r, tE_of (fun ds s' e vs H' cm' ex r' z => ?_) (fun c ds s' e cls dx H' cm' ex r' z => ?_) (fun e => ?_)⟩
  · unfold mRaise at p
    rw [e] at p
    obtain ⟨z1, z2⟩ := z
    have hl : vs.length = fs.length := by rw [z2, hn]
    refine ⟨hl, fun e0 => ?_, fun e0 d hd => ?_⟩
    · subst e0
      have : vs = [] := List.length_eq_zero_iff.mp hl
      subst this
      cases z1
      exact p _ none σ H' cm' ex.pre r' ⟨rfl, .inl ⟨rfl, rfl, hfl⟩⟩
    · have g := sub_upd (o := .xd (fs.zip vs)) hd
      refine p _ (some d) σ _ cm' ex.pre (FRel.grow (F := ⟨B, Z, σ, ρ⟩) r' g) ⟨rfl, .inr ⟨d, _, rfl, vis_new (F := ⟨B, Z, σ, ρ⟩) r' hd, ?_, ?_⟩⟩
      · rw [List.map_fst_zip (by omega), hfl]
      · rw [List.map_snd_zip (by omega)]
        exact Reps.mono (.refl _) (sub_new (F := ⟨B, Z, σ, ρ⟩) r' hd) _ _ z1
  · unfold mRaise at p
    rw [e] at p
    exact p cls dx σ H' cm' ex.pre r' z
  · unfold mRaise at p
    rw [e] at p
    exact p
theorem q_raise {p2 : Pos} {n : Nat} (Ex : Exc X.prog X.K X.mg T c x fs) (hc : X.calm = true) (hr : Room j X.A) (tk : Takes X W) (ha : QS X T W n (e :: es) lm) (hn : fs.length = n := by rfl) (hk : 1 ≤ j := by decide) (hg : Gl X x := by rfl) (hdb : (x == ("__debug__" : Str)) = false := by decide)
    (he : starEach (e :: es) X.env = (false, eval e X.env) :: starEach es X.env := by rfl) (hpl : (backTo pos (starEach es X.env)).any (·.1) = false := by rfl) :
    QSt X T W (.Raise (some (.Call (.Name x p) (e :: es) [] pos)) none p2) (mRaise c lm) := PS.conv (ps_raise hc tk (pmk_exc Ex hr hk hg ha hdb he hpl)) fun Ed σ H h => mRaise_of Ex.fl hn h
theorem q_raise0 {p2 : Pos} (Ex : Exc X.prog X.K X.mg T c x []) (hc : X.calm = true) (hr : Room j X.A) (tk : Takes X W) (hk : 1 ≤ j := by decide) (hg : Gl X x := by rfl) (hdb : (x == ("__debug__" : Str)) = false := by decide) :
    QSt X T W (.Raise (some (.Call (.Name x p) [] [] pos)) none p2) (mRaise c mNil) := PS.conv (ps_raise hc tk (pmk_exc0 Ex hr hk hg hdb)) fun Ed σ H h => by
  have h' := mRaise_of (n := 0) Ex.fl rfl h
  obtain ⟨B, Z, cm, ρ, s, r, p⟩ := h'
  exact p.fin (F := ⟨B, Z, σ, ρ⟩) r ⟨.nil, rfl⟩
end
end Tv

/-! Tx3: methods of built-in values; the caught exception: isinstance, fields -/
namespace Tv
open PySem PySem.Spec PyProof.Rows L2

/-! ### x.m(y, ..) of a list or a text that stays -/
def tyB (T : String) (d : D) : Bool := match d with
  | .str _ => T == "str"
  | .lst _ => T == "list"
  | .frz _ => T == "list"
  | _ => false
def mBm (T : String) (g : D → List D → S → R D) (o : EM) (lm : LM) : EM := fun ρ s => (o ρ s).bind fun x s1 => if tyB T x then (lm ρ s1).bind fun ds s2 => g x ds s2 else .no
def OBm (X : Cx) (T : Tb) (A : AK D V) (r : V → List V → Hp → VK → Prop) (g : D → List D → S → R D) : Prop := ∀ (F : Fm) (cm : List Addr) (H : Hp) (s : S) (W : WX) (x : V) (d : D) (xs : List V) (ds : List D) (Q : VK),
  FRel X.K T F cm H s → AB X.K T F H cm H s x d → ABs X.K T F H cm H s xs ds → Post X.K T F cm H W A (g d ds s) Q → r x xs H Q
section
variable {X : Cx} {T : Tb} {W : WX} {n : Nat} {o e : Expr} {es : List Expr} {mo : EM} {lm : LM} {name : Str} {apos cpos : Pos} {t id : String} {r : V → List V → Hp → VK → Prop} {g : D → List D → S → R D} {A : AK D V}
theorem tyV_of {F : Fm} {H0 H : Hp} {cm : List Addr} {s : S} {v : V} {d : D} (z : AB X.K T F H0 cm H s v d) (h : tyB t d = true) : tyV X.K t v H := by
  cases d with
  | str x =>
    cases z.str
    exact eq_of_beq h
  | lst ds =>
    obtain ⟨a, xs, rfl, h1, _⟩ := z.lst
    exact .inl ⟨eq_of_beq h, xs, .of h1⟩
  | frz ds =>
    obtain ⟨a, xs, rfl, h1, _⟩ := z.frz
    exact .inl ⟨eq_of_beq h, xs, h1⟩
  | _ => cases h
theorem tBM_of (hg : OBm X T A r g) (up : Up A) {σ : L2.St} {H : Hp} {Q : VK} (h : tP X.K T W A (mBm t g mo lm) σ H Q) : tBM X.K t r (tP X.K T W (AB X.K T) mo) (tP X.K T W (ALB X.K T n) lm) σ H Q := by
  refine h.bind (AB X.K T) up fun B Z cm ρ x H1 ⟨cm1, dx, s1, e1, r1, a1, p1⟩ => ?_
  dsimp only at p1
  split at p1
  · rename_i ht
    refine ⟨tyV_of a1 ht, B, Z, cm1, ρ, s1, r1, (p1.bind (A := ALB X.K T n) up).mono fun y H2 ⟨cm2, dy, s2, e2, r2, a2, p2⟩ => ?_⟩
    exact hg _ _ _ _ _ _ _ _ _ _ r2 (a1.ext r1 e2) a2.1.h0 p2
  · exact p1.elim
theorem q_bm (pa : PlainAttrs t) (slot : Slot t name id) (hty : typeOf (.builtin id) = pure (.type "method_descriptor")) (hm : MtR X id r) (hg : OBm X T A r g) (up : Up A) (ho : QB X T W o mo) (ha : QSB X T W n (e :: es) lm)
    (hbase : attributeBase o name X.env (eval o X.env) = eval o X.env := by rfl)
    (hfew : ((backTo cpos (starEach (e :: es) X.env)).all (fun x => !x.1) && (backToKw cpos (keywordEach [] X.env)).all (fun x => x.1.isSome) && decide ((e :: es).length + ([] : List Keyword).length + (if ([] : List Keyword).isEmpty then 0 else 1) < 30)) = true := by rfl)
    (hline : (apos.endLine == cpos.line) = true := by rfl) (hs : starEach (e :: es) X.env = (false, eval e X.env) :: starEach es X.env := by rfl) (hplain : (backTo cpos (starEach es X.env)).any (·.1) = false := by rfl) :
    PE X (.Call (.Attribute o name apos) (e :: es) [] cpos) (tP X.K T W A (mBm t g mo lm)) := PE.conv (pe_bm pa slot hty hm ho ha hbase hfew hline hs hplain) fun _ _ _ h => tBM_of hg up h

/-! xs.count(True) of truth values; xs.index(y) -/
def allB : List D → Option (List Bool)
  | [] => some []
  | .bl b :: ds => (allB ds).map fun l => b :: l
  | _ :: _ => none
theorem allB_eq : ∀ {ds : List D} {bs : List Bool}, allB ds = some bs → ds = bs.map D.bl
  | [], _, h => by cases h; rfl
  | .bl b :: ds, bs, h => by
    unfold allB at h
    cases q : allB ds with
    | none => rw [q] at h; cases h
    | some l =>
      rw [q] at h
      cases h
      rw [allB_eq q]
      rfl
  | .non :: _, _, h => by cases h
  | .int _ :: _, _, h => by cases h
  | .str _ :: _, _, h => by cases h
  | .tup _ :: _, _, h => by cases h
  | .lst _ :: _, _, h => by cases h
  | .frz _ :: _, _, h => by cases h
  | .ins _ _ :: _, _, h => by cases h
  | .cell _ :: _, _, h => by cases h
  | .fn _ :: _, _, h => by cases h
  | .dic _ _ :: _, _, h => by cases h
  | .exc _ _ :: _, _, h => by cases h
  | .sf _ _ :: _, _, h => by cases h
  | .lam _ :: _, _, h => by cases h
  | .tab _ :: _, _, h => by cases h
def gCntB (x : D) (ds : List D) (s : S) : R D := match x, ds with
  | .lst l, [.bl b] => (match allB l with | some bs => .ok (.int (bs.count b : Nat)) s | none => .no)
  | _, _ => .no
theorem reps_bls {K : PySem.W.Frag} {cm : List Addr} {G : Hp} : ∀ {bs : List Bool} {xs : List V}, Reps K T cm G xs (bs.map D.bl) → xs = bs.map V.bl
  | [], _, h => by cases h; rfl
  | b :: bs, _, h => by
    cases h with
    | cons h1 h2 =>
      cases h1
      rw [reps_bls h2]
      rfl
def rCntB (K : PySem.W.Frag) : V → List V → Hp → VK → Prop := fun x xs H Q => ∃ (p : Addr) (bs : List Bool) (k : Bool), x = .ref p ∧ xs = [.bl k] ∧ SqL K H p (bs.map V.bl) ∧ Q (.int (bs.count k : Nat)) H
theorem cnt_vals : ∀ {bs : List Bool} {its : List Value}, Vals (bs.map V.bl) its → its = bs.map Value.bool
  | [], _, h => by cases h; rfl
  | b :: bs, _, h => by
    cases h with
    | cons h1 h2 =>
      cases h1
      rw [cnt_vals h2]
      rfl
theorem mt_cntB : MtR X "list.count" (rCntB X.K) := by
  intro pins s σ H x xs v us Q I rx rxs h
  obtain ⟨p, bs, k, rfl, rfl, hs, q⟩ := h
  cases rx
  obtain ⟨u, rfl, ru⟩ := rxs.one
  cases ru
  obtain ⟨its, rv, ⟨⟨oc, od, odt, osl⟩, m, ho, h1, h2, h3⟩, hlen⟩ := I.list hs
  dsimp only at h1 h3
  subst h1 h3
  have e0 := cnt_vals rv
  subst e0
  refine call_meets PySem.F.slot_list_count ⟨_, ho, rfl⟩ PySem.F.entry_list_count (PySem.F.args_list_count_2 _ _) (SeqAt.list_countAt p (bs.map Value.bool).toArray m od osl (.bool k) (fun y => match y with | .bool b => b == k | _ => false)) ⟨ho, fun y hy => ?_, ?_⟩
  · have hy' : y ∈ bs.map Value.bool := by simpa using hy
    obtain ⟨b, _, rfl⟩ := List.mem_map.mp hy'
    exact SeqAt.EqAt.bool_bool b k
  · refine ⟨.int (bs.count k : Nat), H, I.tok _, ⟨s.toks, ?_⟩, q⟩
    have e1 : (bs.map Value.bool).toArray.toList.countP (fun y => match y with | .bool b => b == k | _ => false) = bs.count k := by
      show (bs.map Value.bool).countP _ = _
      rw [List.countP_map]
      rfl
    rw [e1]
theorem obm_cntB : OBm X T (AR X.K T) (rCntB X.K) gCntB := by
  intro F cm H s W x d xs ds Q r a as p
  unfold gCntB at p
  split at p
  · rename_i l b
    split at p
    · rename_i bs e
      have e2 := allB_eq e
      subst e2
      obtain ⟨c, ys, rfl, h1, h3⟩ := a.lst
      cases as with
      | cons a1 at_ =>
        cases at_
        cases a1.bl
        rw [reps_bls h3] at h1
        exact ⟨c, bs, b, rfl, rfl, .of h1, p.fin r (.int _)⟩
    · exact p.elim
  · exact p.elim
theorem q_count (ho : QB X T W o mo) (ha : QB X T W e (mC (.bl true)))
    (hbase : attributeBase o "count" X.env (eval o X.env) = eval o X.env := by rfl)
    (hfew : ((backTo cpos (starEach [e] X.env)).all (fun x => !x.1) && (backToKw cpos (keywordEach [] X.env)).all (fun x => x.1.isSome) && decide ([e].length + ([] : List Keyword).length + (if ([] : List Keyword).isEmpty then 0 else 1) < 30)) = true := by rfl)
    (hline : (apos.endLine == cpos.line) = true := by rfl) (hs : starEach [e] X.env = (false, eval e X.env) :: starEach [] X.env := by rfl) (hplain : (backTo cpos (starEach [] X.env)).any (·.1) = false := by rfl) :
    QE X T W (.Call (.Attribute o "count" apos) [e] [] cpos) (mBm "list" gCntB mo (mCons (mC (.bl true)) mNil)) :=
  q_bm PySem.F.plainAttrs_list PySem.F.slot_list_count PySem.F.type_list_count mt_cntB obm_cntB up_AR ho (qb_cons ha qb_nil hs) hbase hfew hline hs hplain
/-- the first place at which it stands -/
def findP (d : PyData) : List PyData → Nat → Option Nat
  | [], _ => none
  | z :: zs, j => if PyData.eqv z d then some j else findP d zs (j + 1)
theorem findP_ok {d : PyData} : ∀ {zs : List PyData} {j k : Nat}, findP d zs j = some k → ∃ m z, k = j + m ∧ zs[m]? = some z ∧ PyData.eqv z d = true ∧ ∀ (i : Nat) (z' : PyData), i < m → zs[i]? = some z' → PyData.eqv z' d = false
  | [], _, _, h => by cases h
  | z :: zs, j, k, h => by
    unfold findP at h
    split at h
    · rename_i e
      cases h
      exact ⟨0, z, rfl, rfl, e, fun i z' hi => absurd hi (Nat.not_lt_zero _)⟩
    · rename_i e
      obtain ⟨m, z1, h1, h2, h3, h4⟩ := findP_ok h
      refine ⟨m + 1, z1, by omega, by simpa using h2, h3, fun i z' hi hz => ?_⟩
      cases i with
      | zero =>
        cases hz
        exact Bool.eq_false_iff.mpr e
      | succ i => exact h4 i z' (by omega) (by simpa using hz)
def gIndex (x : D) (ds : List D) (s : S) : R D := match ds with
  | [y] => (match x.py, y.py with
    | some (.list ps), some p => if SeqAt.shaped (.list ps) = true ∧ SeqAt.shaped p = true then (match findP p ps 0 with | some j => .ok (.int (j : Nat)) s | none => .no) else .no
    | _, _ => .no)
  | _ => .no
theorem obm_index : OBm X T (AR X.K T) (rIndexD X.K) gIndex := by
  intro F cm H s W x d xs ds Q r a as p
  unfold gIndex at p
  split at p
  · rename_i y
    split at p
    · rename_i ps q e1 e2
      split at p
      · rename_i hs
        split at p
        · rename_i j ej
          obtain ⟨m, z, h1, h2, h3, h4⟩ := findP_ok ej
          have hm : m = j := by omega
          subst hm
          have da := a.dp e1
          cases as with
          | @cons v _ _ _ a1 at_ =>
            cases at_
            have hx : ∃ c, x = .ref c := by
              cases d with
              | lst l => obtain ⟨c, _, e, _⟩ := a.lst; exact ⟨c, e⟩
              | _ => first | cases e1 | (unfold D.py at e1; generalize D.pys _ = z at e1; cases z <;> cases e1)
            obtain ⟨c, rfl⟩ := hx
            exact ⟨c, v, q, ps, m, z, rfl, rfl, da, a1.dp e2, hs.1, hs.2, h2, h3, h4, p.fin r (.int _)⟩
        · exact p.elim
      · exact p.elim
    · exact p.elim
  · exact p.elim
theorem q_index (hu : X.A.units + 64 < cLine) (hu2 : X.A.units + 65 < cLine) (ho : QB X T W o mo) {me : EM} (ha : QB X T W e me)
    (hbase : attributeBase o "index" X.env (eval o X.env) = eval o X.env := by rfl)
    (hfew : ((backTo cpos (starEach [e] X.env)).all (fun x => !x.1) && (backToKw cpos (keywordEach [] X.env)).all (fun x => x.1.isSome) && decide ([e].length + ([] : List Keyword).length + (if ([] : List Keyword).isEmpty then 0 else 1) < 30)) = true := by rfl)
    (hline : (apos.endLine == cpos.line) = true := by rfl) (hs : starEach [e] X.env = (false, eval e X.env) :: starEach [] X.env := by rfl) (hplain : (backTo cpos (starEach [] X.env)).any (·.1) = false := by rfl) :
    QE X T W (.Call (.Attribute o "index" apos) [e] [] cpos) (mBm "list" gIndex mo (mCons me mNil)) :=
  q_bm PySem.F.plainAttrs_list PySem.F.slot_list_index PySem.F.type_list_index (mt_indexD hu2) obm_index up_AR ho (qb_cons ha qb_nil hs) hbase hfew hline hs hplain
end
end Tv

/-! Tx4: the caught exception as a value; a def called with it in the suite -/
namespace Tv
open PySem PySem.Spec PyProof.Rows L2

def Tb.x (T : Tb) (o : Option (Addr × Nat × Option Addr)) : Tb := { T with xv := o }
def D.noX : D → Bool
  | .exc _ _ => false
  | .tup ds => nos ds
  | .lst ds => nos ds
  | .frz ds => nos ds
  | .ins _ ds => nos ds
  | .dic _ ds => nos ds
  | .sf _ ds => nos ds
  | _ => true
where nos : List D → Bool
  | [] => true
  | d :: ds => d.noX && nos ds
section
variable {K : PySem.W.Frag} {T : Tb} {cm : List Addr} {G : Hp} {o : Option (Addr × Nat × Option Addr)}
mutual
theorem Rep.xb (hn : T.xv = none) : ∀ (d : D) (v : V), Rep K T cm G v d → Rep K (T.x o) cm G v d
  | .non, _, h => by cases h; exact .non
  | .bl b, _, h => by cases h; exact .bl b
  | .int i, _, h => by cases h; exact .int i
  | .str x, _, h => by cases h; exact .str x
  | .tup ds, _, h => by
    cases h with
    | tup hs hr => exact .tup hs (Reps.xb hn ds _ hr)
  | .lst ds, _, h => by
    cases h with
    | lst hs hr => exact .lst hs (Reps.xb hn ds _ hr)
  | .frz ds, _, h => by
    cases h with
    | frz hs hr => exact .frz hs (Reps.xb hn ds _ hr)
  | .ins c ds, _, h => by
    cases h with
    | ins ha hm hr => exact .ins (T := T.x o) ha hm (Reps.xb hn ds _ hr)
  | .cell n, _, h => by
    cases h with
    | cell e => exact .cell e
  | .fn n, _, h => by
    cases h
    exact .fn (T := T.x o) n
  | .dic ks ds, _, h => by
    cases h with
    | dic ha hr => exact .dic ha (Reps.xb hn ds _ hr)
  | .exc _ _, _, h => by
    cases h with
    | exc0 e => rw [hn] at e; cases e
    | exc1 e ha hm hr => rw [hn] at e; cases e
  | .lam _, _, h => by
    cases h with
    | lam e e2 => exact .lam (T := T.x o) e e2
  | .sf _ _, _, h => by cases h
  | .tab _, _, h => by cases h
theorem Reps.xb (hn : T.xv = none) : ∀ (ds : List D) (vs : List V), Reps K T cm G vs ds → Reps K (T.x o) cm G vs ds
  | [], _, h => by cases h; exact .nil
  | d :: ds, _, h => by
    cases h with
    | cons h1 h2 => exact .cons (Rep.xb hn d _ h1) (Reps.xb hn ds _ h2)
end
mutual
theorem Rep.bx : ∀ (d : D) (v : V), d.noX = true → Rep K (T.x o) cm G v d → Rep K T cm G v d
  | .non, _, _, h => by cases h; exact .non
  | .bl b, _, _, h => by cases h; exact .bl b
  | .int i, _, _, h => by cases h; exact .int i
  | .str x, _, _, h => by cases h; exact .str x
  | .tup ds, _, n, h => by
    cases h with
    | tup hs hr => exact .tup hs (Reps.bx ds _ n hr)
  | .lst ds, _, n, h => by
    cases h with
    | lst hs hr => exact .lst hs (Reps.bx ds _ n hr)
  | .frz ds, _, n, h => by
    cases h with
    | frz hs hr => exact .frz hs (Reps.bx ds _ n hr)
  | .ins c ds, _, n, h => by
    cases h with
    | ins ha hm hr => exact .ins (T := T) ha hm (Reps.bx ds _ n hr)
  | .cell _, _, _, h => by
    cases h with
    | cell e => exact .cell e
  | .fn n, _, _, h => by
    cases h
    exact .fn (T := T) n
  | .dic ks ds, _, n, h => by
    cases h with
    | dic ha hr => exact .dic ha (Reps.bx ds _ n hr)
  | .exc _ _, _, n, h => by cases n
  | .lam _, _, _, h => by
    cases h with
    | lam e e2 => exact .lam (T := T) e e2
  | .sf _ _, _, _, h => by cases h
  | .tab _, _, _, h => by cases h
theorem Reps.bx : ∀ (ds : List D) (vs : List V), D.noX.nos ds = true → Reps K (T.x o) cm G vs ds → Reps K T cm G vs ds
  | [], _, _, h => by cases h; exact .nil
  | d :: ds, _, n, h => by
    have n' := Bool.and_eq_true_iff.mp n
    cases h with
    | cons h1 h2 => exact .cons (Rep.bx d _ n'.1 h1) (Reps.bx ds _ n'.2 h2)
end
theorem OwnRep.xb {H : Hp} {a : Addr} {d : D} (hn : T.xv = none) (h : OwnRep K T cm G H a d) : OwnRep K (T.x o) cm G H a d := by
  cases d with
  | lst ds =>
    obtain ⟨xs, h1, h2⟩ := h
    exact ⟨xs, h1, Reps.xb hn _ _ h2⟩
  | ins c ds =>
    obtain ⟨dx, fs, h1, h2, h3⟩ := h
    exact ⟨dx, fs, h1, h2, Reps.xb hn _ _ h3⟩
  | sf c ds =>
    obtain ⟨h0, dx, fs, h1, h2, h3⟩ := h
    exact ⟨h0, dx, fs, h1, h2, Reps.xb hn _ _ h3⟩
  | tab n => exact h
  | _ => exact h.elim
theorem OwnRep.bx {H : Hp} {a : Addr} {d : D} (n : d.noX = true) (h : OwnRep K (T.x o) cm G H a d) : OwnRep K T cm G H a d := by
  cases d with
  | lst ds =>
    obtain ⟨xs, h1, h2⟩ := h
    exact ⟨xs, h1, Reps.bx _ _ n h2⟩
  | ins c ds =>
    obtain ⟨dx, fs, h1, h2, h3⟩ := h
    exact ⟨dx, fs, h1, h2, Reps.bx _ _ n h3⟩
  | sf c ds =>
    obtain ⟨h0, dx, fs, h1, h2, h3⟩ := h
    exact ⟨h0, dx, fs, h1, h2, Reps.bx _ _ n h3⟩
  | tab n => exact h
  | _ => exact h.elim
theorem Cells.xb {Z O : Addr → Prop} {H : Hp} {s : S} (hn : T.xv = none) (c : Cells K T Z O cm H s) : Cells K (T.x o) Z O cm H s :=
  ⟨c.len, c.nd, fun n a d e1 e2 => (c.at_ n a d e1 e2).xb hn, c.there, c.zok, c.nosf⟩
theorem Cells.bx {Z O : Addr → Prop} {H : Hp} {s : S} (hx : ∀ d ∈ s, d.noX = true) (c : Cells K (T.x o) Z O cm H s) : Cells K T Z O cm H s :=
  ⟨c.len, c.nd, fun n a d e1 e2 => (c.at_ n a d e1 e2).bx (hx d (List.mem_of_getElem? e2)), c.there, c.zok, c.nosf⟩
end

/-! ### what the text's exception classes are -/
def xAll (K : PySem.W.Frag) (cs : List Addr) : Bool := cs.all fun c => (PySem.W.clsIn K c).isSome && (xfB K c && (insB K c && (decide (PySem.W.kitOne K (.ref c) (.type "ValueError") = some true) && cs.all fun d => decide (PySem.W.kitOne K (.ref c) (.ref d) = some (c == d)))))
structure IsX (K : PySem.W.Frag) (T : Tb) (es : List Nat) : Prop where
  ok : xAll K (es.map T.cls) = true
  inj : ∀ c ∈ es, ∀ d ∈ es, T.cls c = T.cls d → c = d
  no : ∀ c ∈ es, ∀ f ∈ T.fl c, PySem.W.findIn K (.ref (T.cls c)) f = some none
section
variable {K : PySem.W.Frag} {T : Tb} {es : List Nat}
theorem IsX.at_ (h : IsX K T es) {c : Nat} (hc : c ∈ es) : (PySem.W.clsIn K (T.cls c)).isSome = true ∧ XfC K (T.cls c) ∧ insB K (T.cls c) = true ∧ PySem.W.kitOne K (.ref (T.cls c)) (.type "ValueError") = some true ∧ ∀ d ∈ es, PySem.W.kitOne K (.ref (T.cls c)) (.ref (T.cls d)) = some (c == d) := by
  have q := List.all_eq_true.mp h.ok (T.cls c) (List.mem_map.mpr ⟨c, hc, rfl⟩)
  obtain ⟨q1, q⟩ := Bool.and_eq_true_iff.mp q
  obtain ⟨q2, q⟩ := Bool.and_eq_true_iff.mp q
  obtain ⟨q3, q⟩ := Bool.and_eq_true_iff.mp q
  obtain ⟨q4, q5⟩ := Bool.and_eq_true_iff.mp q
  refine ⟨q1, xfB_ok q2, q3, of_decide_eq_true q4, fun d hd => ?_⟩
  rw [of_decide_eq_true (List.all_eq_true.mp q5 (T.cls d) (List.mem_map.mpr ⟨d, hd, rfl⟩))]
  congr 1
  by_cases hcd : c = d
  · rw [hcd, beq_self_eq_true, beq_self_eq_true]
  · rw [beq_eq_false_iff_ne.mpr fun e => hcd (h.inj c hc d hd e), beq_eq_false_iff_ne.mpr hcd]
theorem IsX.x {o : Option (Addr × Nat × Option Addr)} (h : IsX K T es) : IsX K (T.x o) es := ⟨h.ok, h.inj, h.no⟩
end
/-- the exception that the suite holds: pinned -/
structure Held (X : Cx) (T : Tb) (es : List Nat) : Prop where
  ex : ∃ a c d oe vs, T.xv = some (a, c, d) ∧ c ∈ es ∧ (a, oe) ∈ X.pn ∧ Zc (.ref (T.cls c)) d oe ∧ oe.data = .fields vs
def gIsX (k : Nat → Option Bool) (m : EM) : EM := fun ρ s => (m ρ s).bind fun x s1 => match x with
  | .exc c _ => (match k c with | some b => .ok (.bl b) s1 | none => .no)
  | _ => .no
def kXc (es : List Nat) (n : Nat) (c : Nat) : Option Bool := if c ∈ es ∧ n ∈ es then some (c == n) else none
def kXv (es : List Nat) (c : Nat) : Option Bool := if c ∈ es then some true else none
def mFldX (ixs : List (Nat × Nat)) (m : EM) : EM := fun ρ s => (m ρ s).bind fun x s1 => match x with
  | .exc c ds => (match ixs.lookup c with
    | some j => (match ds[j]? with | some d => .ok d s1 | none => .no)
    | none => .no)
  | _ => .no
def rIsX (K : PySem.W.Frag) (T : Tb) : List V → Hp → VK → Prop := fun xs H Q => ∃ (a : Addr) (c : Nat) (d : Option Addr) (cv : V) (cvv : Value) (b : Bool), xs = [.ref a, cv] ∧ T.xv = some (a, c, d) ∧ (∀ dd, d = some dd → ∃ gs, H dd = some (.xd gs)) ∧ ClsV cv cvv ∧ PySem.W.kitOne K (.ref (T.cls c)) cvv = some b ∧ Q (.bl b) H
section
variable {X : Cx} {T : Tb} {W : WX} {es : List Nat} {e e2 : Expr} {m : EM} {pos p p2 : Pos} {x : Str}
/-- the held object in the state -/
theorem Held.inst {pins : List (Addr × Obj)} {σ : L2.St} {H : Hp} {s : Shared} {a : Addr} {c : Nat} {d : Option Addr} (h : Held X T es) (I : Inv X pins σ H s) (hx : T.xv = some (a, c, d)) (hd : ∀ dd, d = some dd → ∃ gs, H dd = some (.xd gs)) :
    c ∈ es ∧ ∃ oe od, PySem.W.InstAt s.heap a oe (T.cls c) od ∧ (∀ dd gs, d = some dd → H dd = some (.xd gs) → ∃ o2, od = some o2 ∧ ∃ mA, s.heap.Ns1 dd mA ∧ s.heap.get? dd = some o2 ∧ ∀ f, RelO (gs.lookup f) (mA f)) := by
  obtain ⟨a', c', d', oe, vs, h1, h2, h3, h4, h5⟩ := h.ex
  rw [h1] at hx
  cases hx
  obtain ⟨ha, _⟩ := I.pin (a, oe) (List.mem_append_left _ h3)
  cases d with
  | none => exact ⟨h2, oe, none, ⟨ha, h4.1, by unfold PySem.W.notCls; rw [h5] <;> rfl, by rw [h4.2]; trivial⟩, fun dd gs e => by cases e⟩
  | some dd =>
    obtain ⟨gs, hg⟩ := hd dd rfl
    have hx : ObjOk X.prog X.w H s.heap dd (.xd gs) := I.hok dd _ hg
    obtain ⟨mA, hns, hr⟩ := hx
    obtain ⟨o2, es2, ep2, ho, hr2⟩ := id hns
    refine ⟨h2, oe, some o2, ⟨ha, h4.1, by unfold PySem.W.notCls; rw [h5] <;> rfl, by rw [h4.2]; exact ho⟩, fun dd' gs' e1 e2 => ?_⟩
    cases e1
    rw [hg] at e2
    cases e2
    exact ⟨o2, rfl, mA, ⟨o2, es2, ep2, ho, hr2⟩, ho, hr⟩
theorem call_isX (hh : Held X T es) (hi : IsX X.K T es) : CallR X (.builtin "isinstance") (rIsX X.K T) := by
  intro pins s σ H xs us Q I r h
  obtain ⟨a, c, d, cv, cvv, b, rfl, hx, hd, hcv, e, q⟩ := h
  cases r with
  | cons rx rr =>
    cases rr with
    | cons rt rr =>
      cases rr
      cases rx
      have ec := hcv.eq rt
      subst ec
      obtain ⟨hc, oe, od, J, _⟩ := hh.inst I hx hd
      obtain ⟨k1, k2, k3, _, _⟩ := hi.at_ hc
      unfold insB at k3
      obtain ⟨n1, k3⟩ := Bool.and_eq_true_iff.mp k3
      obtain ⟨n2, k3⟩ := Bool.and_eq_true_iff.mp k3
      obtain ⟨n3, n4⟩ := Bool.and_eq_true_iff.mp k3
      exact PySem.W.kia_one (PySem.W.kitx_exc k1 k2.ga k2.gg k2.exC (of_decide_eq_true n1) (of_decide_eq_true n2) (of_decide_eq_true n3) (of_decide_eq_true n4)) I.kIn J e (fun z => nomatch z) fun tk => ⟨.bl b, H, I.tok _, rfl, q⟩
theorem rep_exc {cm : List Addr} {G H : Hp} {v : V} {c : Nat} {ds : List D} (hs : Sub G H) (z : Rep X.K T cm G v (.exc c ds)) : ∃ a d, v = .ref a ∧ T.xv = some (a, c, d) ∧ (∀ dd, d = some dd → ∃ gs, H dd = some (.xd gs)) := by
  cases z with
  | exc0 e => exact ⟨_, none, rfl, e, fun dd h => by cases h⟩
  | exc1 e ha _ _ => exact ⟨_, some _, rfl, e, fun dd h => by cases h; exact ⟨_, hs _ _ ha⟩⟩
theorem q_isXk (hh : Held X T es) (hi : IsX X.K T es) {k : Nat → Option Bool} {cv : V} {cvv : Value} {te : TE} (hk : ∀ c b, k c = some b → PySem.W.kitOne X.K (.ref (T.cls c)) cvv = some b) (hcv : ClsV cv cvv) (he2 : PE X e2 (tC cv)) (hg : Gl X "isinstance") (hm : X.mg "isinstance" = none) (ha : QE X T W e m)
    (hs : starEach [e, e2] X.env = (false, eval e X.env) :: starEach [e2] X.env := by rfl) (hs2 : starEach [e2] X.env = (false, eval e2 X.env) :: starEach [] X.env := by rfl) (hpl : (backTo pos (starEach [e2] X.env)).any (·.1) = false := by rfl) :
    QE X T W (.Call (.Name "isinstance" p) [e, e2] [] pos) (gIsX k m) := PE.conv (pe_callB (call_isX hh hi) hg hm PyProof.Rows.boot_isinstance (pa_cons ha (pa_cons he2 pa_nil hs2) hs) (by decide) (by decide) hs hpl) fun σ H Q h => by
  refine h.bind (AR X.K T) up_AR fun B Z cm ρ x H1 ⟨cm1, dx, s1, e1, r1, a1, p1⟩ => ?_
  dsimp only at p1
  split at p1
  · rename_i c ds
    split at p1
    · rename_i b hb
      obtain ⟨a, d, rfl, hx, hd⟩ := rep_exc (X := X) (T := T) Sub.hidH a1
      exact ⟨a, c, d, cv, cvv, b, rfl, hx, hd, hcv, hk _ _ hb, p1.fin r1 (.bl _)⟩
    · exact p1.elim
  · exact p1.elim
theorem q_isX {n : Nat} (hh : Held X T es) (hi : IsX X.K T es) (hm2 : X.mg x = some (.ref (T.cls n))) (hg2 : Gl X x := by rfl) (hg : Gl X "isinstance" := by rfl) (hm : X.mg "isinstance" = none) (ha : QE X T W e m) (hd : (x == ("__debug__" : Str)) = false := by decide)
    (hs : starEach [e, .Name x p2] X.env = (false, eval e X.env) :: starEach [.Name x p2] X.env := by rfl) (hs2 : starEach [.Name x p2] X.env = (false, eval (.Name x p2) X.env) :: starEach [] X.env := by rfl) (hpl : (backTo pos (starEach [.Name x p2] X.env)).any (·.1) = false := by rfl) :
    QE X T W (.Call (.Name "isinstance" p) [e, .Name x p2] [] pos) (gIsX (kXc es n) m) :=
  q_isXk (te := fun _ _ _ => True) hh hi (fun c b h => by
    unfold kXc at h
    split at h
    · rename_i hc
      cases h
      exact (hi.at_ hc.1).2.2.2.2 n hc.2
    · cases h) (.own _) (pe_glob (v := .ref (T.cls n)) hg2 hm2 rfl hd) hg hm ha hs hs2 hpl
theorem q_isXv (hh : Held X T es) (hi : IsX X.K T es) (hm2 : X.mg "ValueError" = none) (hg2 : Gl X "ValueError" := by rfl) (hg : Gl X "isinstance" := by rfl) (hm : X.mg "isinstance" = none) (ha : QE X T W e m)
    (hs : starEach [e, .Name "ValueError" p2] X.env = (false, eval e X.env) :: starEach [.Name "ValueError" p2] X.env := by rfl) (hs2 : starEach [.Name "ValueError" p2] X.env = (false, eval (.Name "ValueError" p2) X.env) :: starEach [] X.env := by rfl) (hpl : (backTo pos (starEach [.Name "ValueError" p2] X.env)).any (·.1) = false := by rfl) :
    QE X T W (.Call (.Name "isinstance" p) [e, .Name "ValueError" p2] [] pos) (gIsX (kXv es) m) :=
  q_isXk (te := fun _ _ _ => True) hh hi (fun c b h => by
    unfold kXv at h
    split at h
    · rename_i hc
      cases h
      exact (hi.at_ hc).2.2.2.1
    · cases h) (.ty "ValueError") (pe_bltn (v := .ty "ValueError") hg2 hm2 PyProof.Rows.Boot.«ValueError» rfl (by decide) (by decide)) hg hm ha hs hs2 hpl
theorem q_fldX {f : Str} {ixs : List (Nat × Nat)} (hh : Held X T es) (hi : IsX X.K T es) (he : QE X T W e m) (hf : fldOkB T f ixs = true := by kernel_rfl) (hb : attributeBase e f X.env (eval e X.env) = eval e X.env := by rfl) : QE X T W (.Attribute e f pos) (mFldX ixs m) := by
  refine ⟨fun pins s σ H Q I h => ?_⟩
  have h' : tP X.K T W (AR X.K T) m σ H fun x H1 => ∃ (a : Addr) (c : Nat) (dd : Addr) (gs : List (Str × V)) (v : V), x = .ref a ∧ T.xv = some (a, c, some dd) ∧ H1 dd = some (.xd gs) ∧ f ∈ T.fl c ∧ gs.lookup f = some v ∧ Q v H1 := by
    refine h.bind (AR X.K T) up_AR fun B Z cm ρ x H1 ⟨cm1, dx, s1, e1, r1, a1, p1⟩ => ?_
    dsimp only at p1
    split at p1
    · rename_i c ds
      split at p1
      · rename_i j hj
        split at p1
        · rename_i d hd
          have hfj := fldOkB_ok hf _ (lookup_mem hj)
          cases a1 with
          | exc0 e => cases hd
          | @exc1 a dd _ gs _ e ha hn hr =>
            obtain ⟨v, k1, k2⟩ := hr.get hd
            refine ⟨a, c, dd, gs, v, rfl, e, Sub.hidH _ _ ha, fldIx_mem hfj, ?_, p1.fin r1 k2⟩
            rw [lookup_fld (j := j) (by rw [hn]; exact hfj), k1]
        · exact p1.elim
      · exact p1.elim
    · exact p1.elim
  refine attr_of hb (thn (he.run pins s σ H _ I h') fun u s1 ⟨x, H1, I1, rx, a, c, dd, gs, v, ex, hx, hd, hm, hl, q⟩ => ?_)
  subst ex
  obtain rfl : u = Value.ref a := rx
  obtain ⟨hc, oe, od, J, hJ⟩ := hh.inst I1 hx (fun dd' e => by cases e; exact ⟨gs, hd⟩)
  obtain ⟨o2, rfl, mA, hns, ho, hr⟩ := hJ dd gs rfl hd
  obtain ⟨o3, ho3, hl3⟩ := lookIn_ns hns
  rw [ho] at ho3
  cases ho3
  obtain ⟨u, hu, ru⟩ := RelO.some_of (v := v) (o := mA f) (by rw [← hl]; exact hr f)
  obtain ⟨k1, k2, _⟩ := hi.at_ hc
  exact HandSPX.exc_get I1.kIn J k2.ga k2.gg k2.exC (PySem.W.findObj_own k2.hdC (hi.no c hc f hm) rfl (by rw [hl3, hu])) (handed_of ru) ⟨v, H1, I1.tok _, ru, q⟩
end
end Tv

/-! Tx5: a def called in an except suite with the exception that is held -/
namespace Tv
open PySem PySem.Spec PyProof.Rows L2

theorem run_hot {P : Program} {w : World} {K : PySem.W.Frag} {mg : Str → Option Value} {base : Heap} {x qual n0 : Str} {params : Arguments} {body : List Stmt} {scope : Scope} {f : Addr} {fd : FuncData} {N : List Str} {k : Nat}
    {A : Around} {outer : List Env} {s : Shared} {H : Hp} {us : List Value} {vs : List V} {Q : VK} {p : Addr × Obj} (F : FunD K x qual params body scope [] [] f fd) (S : FnScope N [n0] scope) (hr : L2H.RoomH (k + 1) A) (hpin : L2H.PinOk outer H s p)
    (e0 : Env0 P w K mg base A outer s H) (hb : BindsTo s fd ⟨us, []⟩ ([n0].zip us)) (r : Vals vs us) (hl : vs.length = 1)
    (hbody : ∀ cdv : Value, L2H.RoomH k (A.deeper (envOfC qual scope s.heap.objs.size f cdv)) → ∃ t, PSs (L2H.cxH C8.CX0 P w K mg base N qual scope f cdv A outer s H C8.E0 p) body t ∧ t { nx := fun _ H' => Q .non H', rt := Q } (L2.start N vs) H) :
    codeAny (model P w) A (.call (.ref f) ⟨us, []⟩) (CR C8.CX0 outer P w H s Q C8.E0) s := by
  obtain ⟨oc, od, dV, kV, doc, pm, an, cdv, ct, osl, rfl, lk, hcd, _, _⟩ := F.ex
  have KX : K.In s.heap := e0.mod.kin.keeps fun b o e => (e0.bs b o e).1
  have NL : s.heap.NoLimit := e0.mod.nolimit.keeps fun b o e => (e0.bs b o e).1
  have params_ : ∀ y ∈ [n0].zip us, scope.names.lookup y.1 = some .local ∨ (scope.names.lookup y.1 = some .cell ∧ ((cellsFrom (s.heap.objs.size + 1) scope.names []).lookup y.1).isSome = true) := by
    rintro ⟨n, v⟩ hy
    exact (S.par n (List.of_mem_zip hy).1).elim .inl fun q => .inr ⟨q, PySem.W.cellsFrom_some _ _ _ (.inl q)⟩
  refine codeAny_call_function hr.depth (KX _ _ lk) rfl S.co S.gen rfl (PySem.W.codeRec_of KX hcd) (hb _ _ _ _ (wpAny_newFunctionEnv_cells S.kind params_ fun env he s1 x1 => ?_))
  subst he
  obtain ⟨t, ht, hq⟩ := hbody cdv (hr.deeper _)
  have J : Inv (L2H.cxH C8.CX0 P w K mg base N qual scope f cdv A outer s H C8.E0 p) [] (L2.start N vs) H s1 := L2H.inv_startH S hpin e0 hl r x1
  refine ⟨NL.keeps x1.toInCall.keep, codeAny_func (wpAny_mono (ht.run [] s1 (L2.start N vs) H _ J hq) (fun fl s' hs => ?_) fun e s' hs => hs)⟩
  match fl, hs with
  | .ret u, ⟨v, σ', H', J', rv, q⟩ => exact ⟨v, H', J'.os, J'.bare, J'.base, J'.hok, rv, q⟩
  | .next, ⟨σ', H', J', q⟩ => exact ⟨V.non, H', J'.os, J'.bare, J'.base, J'.hok, rfl, q⟩
  | .brk, ⟨_, _, _, q⟩ => exact q.elim
  | .cont, ⟨_, _, _, q⟩ => exact q.elim

/-- the def x keeps F where it is called with the exception that is held -/
structure Hot (P : Program) (w : World) (K : PySem.W.Frag) (mg : Str → Option Value) (base : Heap) (T : Tb) (es : List Nat) (k : Nat) (x : Str) (F : FM) : Prop where
  ex : ∃ (f : Addr) (qual n0 : Str) (params : Arguments) (body : List Stmt) (scope : Scope) (fd : FuncData) (N : List Str) (m : SM), mg x = some (.ref f) ∧ FunD K x qual params body scope [] [] f fd ∧ FnScope N [n0] scope ∧ 1 ≤ N.length ∧ Binds K fd [n0] [] ∧ F = mFun (N.length - 1) m ∧
    ∀ (cdv : Value) (A : Around) (outer : List Env) (s : Shared) (H : Hp) (a : Addr) (c : Nat) (d : Option Addr) (oe : Obj) (vs : Array Value), c ∈ es → Zc (.ref (T.cls c)) d oe → oe.data = .fields vs → L2H.RoomH k (A.deeper (envOfC qual scope s.heap.objs.size f cdv)) →
      QSs (L2H.cxH C8.CX0 P w K mg base N qual scope f cdv A outer s H C8.E0 (a, oe)) (T.x (some (a, c, d))) (fun _ _ _ _ => False) body m
/-- what such a call is to give -/
def RHX (K : PySem.W.Frag) (T : Tb) (es : List Nat) (F : FM) (cls : Value) (d : Option Addr) : Hp → VK → Prop := fun H Q => ∃ cm Z c ds s s' r, c ∈ es ∧ Cells K T Z O0 cm H s ∧ ErrRep K T cm (GV cm Z O0 H) H cls d c ds ∧ F [.exc c ds] s = .ok r s' ∧ r.noX = true ∧ (∀ d ∈ s', d.noX = true) ∧
  ∀ v H' cm', Ext cm H cm' H' → Cells K T Z O0 cm' H' s' → Rep K T cm' (GV cm' Z O0 H') v r → Q v H'
section
variable {P : Program} {w : World} {K : PySem.W.Frag} {mg : Str → Option Value} {base : Heap} {T : Tb} {es : List Nat} {k : Nat} {x : Str} {F : FM}
theorem call_hot (hF : Hot P w K mg base T es k x F) (hT : T.xv = none) {A : Around} {outer : List Env} {s : Shared} {H : Hp} {Q : VK} {a : Addr} {oe : Obj} {vs : Array Value} {cls : Value} {d : Option Addr} (hr : L2H.RoomH (k + 1) A) (hpin : L2H.PinOk outer H s (a, oe))
    (e0 : Env0 P w K mg base A outer s H) (hz : Zc cls d oe) (hd : oe.data = .fields vs) (h : RHX K T es F cls d H Q) :
    ∃ f, mg x = some (.ref f) ∧ PySem.W.keepIn K (.ref f) = true ∧ codeAny (model P w) A (.call (.ref f) ⟨[.ref a], []⟩) (CR C8.CX0 outer P w H s Q C8.E0) s := by
  obtain ⟨f, qual, n0, params, body, scope, fd, N, m, hm, FD, S, hN, hb, rfl, hbody⟩ := hF.ex
  obtain ⟨cm, Z, c, ds, s0, s', r, hc, cl, ⟨rfl, er⟩, ev, n1, n2, q⟩ := h
  have KX : K.In s.heap := e0.mod.kin.keeps fun b o e => (e0.bs b o e).1
  have bt := hb s [.ref a] KX rfl
  rw [List.append_nil] at bt
  refine ⟨f, hm, FD.kp, run_hot (vs := [.ref a]) FD S hr hpin e0 bt (.cons rfl .nil) rfl fun cdv hr' => ⟨_, hbody cdv A outer s H a c d oe vs hc hz hd hr', ?_⟩⟩
  have rx : Rep K (T.x (some (a, c, d))) cm (GV cm Z O0 H) (.ref a) (.exc c ds) := by
    rcases er with ⟨rfl, rfl, _⟩ | ⟨dd, gs, rfl, h1, h2, h3⟩
    · exact .exc0 rfl
    · exact .exc1 (T := T.x (some (a, c, some dd))) rfl h1 h2 (Reps.xb hT _ _ h3)
  have R0 := Rel.start (N := N) (Cells.xb (o := some (a, c, d)) hT cl) (.cons rx .nil) hN
  refine ⟨offC cm H, Z, cm, _, s0, R0, ?_⟩
  show PostS _ _ _ _ _ _ (m (([.exc c ds] : List D).map .v ++ List.replicate (N.length - 1) .un) s0) _
  refine post_fn (T := T.x (some (a, c, d))) (K := K) (Q := Q) (E := fun _ _ _ => False) ?_
  rw [ev]
  refine fun v H' cm' ex c' z => q v H' cm' ex (c'.bx n2) (Rep.bx _ _ n1 z)
end
end Tv
namespace Tv
open PySem PySem.Spec PyProof.Rows L2
section
variable {K : PySem.W.Frag} {T : Tb} {cm : List Addr} {G : Hp}
mutual
theorem Rep.nox (hn : T.xv = none) : ∀ (d : D) (v : V), Rep K T cm G v d → d.noX = true
  | .non, _, _ => rfl
  | .bl b, _, _ => rfl
  | .int i, _, _ => rfl
  | .str x, _, _ => rfl
  | .tup ds, _, h => by
    cases h with
    | tup hs hr => exact Reps.nox hn ds _ hr
  | .lst ds, _, h => by
    cases h with
    | lst hs hr => exact Reps.nox hn ds _ hr
  | .frz ds, _, h => by
    cases h with
    | frz hs hr => exact Reps.nox hn ds _ hr
  | .ins c ds, _, h => by
    cases h with
    | ins ha hm hr => exact Reps.nox hn ds _ hr
  | .cell n, _, _ => rfl
  | .fn n, _, _ => rfl
  | .dic ks ds, _, h => by
    cases h with
    | dic ha hr => exact Reps.nox hn ds _ hr
  | .exc _ _, _, h => by
    cases h with
    | exc0 e => rw [hn] at e; cases e
    | exc1 e ha hm hr => rw [hn] at e; cases e
  | .lam _, _, _ => rfl
  | .sf _ _, _, h => by cases h
  | .tab _, _, h => by cases h
theorem Reps.nox (hn : T.xv = none) : ∀ (ds : List D) (vs : List V), Reps K T cm G vs ds → D.noX.nos ds = true
  | [], _, _ => rfl
  | d :: ds, _, h => by
    cases h with
    | cons h1 h2 => exact Bool.and_eq_true_iff.mpr ⟨Rep.nox hn d _ h1, Reps.nox hn ds _ h2⟩
end
theorem OwnRep.nox {H : Hp} {a : Addr} {d : D} (hn : T.xv = none) (h : OwnRep K T cm G H a d) : d.noX = true := by
  cases d with
  | lst ds =>
    obtain ⟨xs, h1, h2⟩ := h
    exact Reps.nox hn _ _ h2
  | ins c ds =>
    obtain ⟨dx, fs, h1, h2, h3⟩ := h
    exact Reps.nox hn _ _ h3
  | sf c ds =>
    obtain ⟨h0, dx, fs, h1, h2, h3⟩ := h
    exact Reps.nox hn _ _ h3
  | tab n => rfl
  | _ => exact h.elim
theorem Cells.nox {Z O : Addr → Prop} {H : Hp} {s : S} (hn : T.xv = none) (c : Cells K T Z O cm H s) : ∀ d ∈ s, d.noX = true := fun d hd => by
  obtain ⟨i, hi⟩ := List.mem_iff_getElem?.mp hd
  have hl : i < cm.length := by rw [c.len]; exact (List.getElem?_eq_some_iff.mp hi).1
  exact (c.at_ i _ d (List.getElem?_eq_getElem hl) hi).nox hn
/-- a frame's state as a caller's: what is owned is hidden -/
theorem FRel.toCells {F : Fm} {H : Hp} {s : S} (r : FRel K T F cm H s) : Cells K T (fun a => F.Z a ∨ F.O a) O0 cm H s :=
  ⟨r.cells.len, r.cells.nd, fun n a d e1 e2 => by rw [eG_zo]; exact r.cells.at_ n a d e1 e2, r.cells.there, fun a z => r.hidden (.inr z), r.cells.nosf⟩
theorem FRel.ofCells {F : Fm} {H H' : Hp} {cm' : List Addr} {s s' : S} (r : FRel K T F cm H s) (ex : Ext cm H cm' H') (c : Cells K T (fun a => F.Z a ∨ F.O a) O0 cm' H' s') : FRel K T F cm' H' s' :=
  Rel.ext r ex ⟨c.len, c.nd, fun n a d e1 e2 => by have := c.at_ n a d e1 e2; rw [eG_zo] at this; exact this, c.there, fun a z => c.zok a (.inl z), c.nosf⟩
end
end Tv

/-! Tx6: a lambda is made; _law_told(lambda: e) -/
namespace Tv
open PySem PySem.Spec PyProof.Rows L2 LamX

/-- the table at P has grown by the code object at c', or held it -/
inductive TabUp (P : Addr) (q : Str) (H : Hp) (c' : Addr) : Hp → Prop
  | hit {ps : Array Value} {pos : Pos} : H P = some (.tbl ps) → codeAmong pos ps.toList = some (.ref c') → H c' = some (CodeO c' q) → TabUp P q H c' H
  | new {ps more : Array Value} : H P = some (.tbl ps) → H c' = none → TriplesOk (ps ++ more).toList → (∀ (pos : Pos) (cv : Value), codeAmong pos (ps ++ more).toList = some cv → codeAmong pos ps.toList = some cv ∨ cv = .ref c') → TabUp P q H c' (upd (upd H P (.tbl (ps ++ more))) c' (CodeO c' q))
section
variable {X : Cx} {pins : List (Addr × Obj)} {σ : L2.St} {H : Hp} {s : Shared}
theorem lam_make3 {c P : Addr} {params : Arguments} {body : Expr} {scope : Scope} {pos : Pos} {E : Value → Shared → Prop} {Q : Value → Shared → Prop} (I : Inv X pins σ H s) (TB : TabB X.base X.mg c P) (hcode : X.env.code = .ref c)
    (hT : TabS H P (X.env.qual ++ "<lambda>")) (hdef : defaultsOf params X.env = ([], [])) (hfree : ∀ y ∈ scope.names, y.2 = .free → ∃ c, X.env.cells.lookup y.1 = some c)
    (h : ∀ (f c' : Addr) (pm ctv : Value) (H1 : Hp) (s' : Shared), Inv X pins σ H1 s' → TabUp P (X.env.qual ++ "<lambda>") H c' H1 →
      s'.heap.get? f = some (PySem.W.kla_obj "<lambda>" (X.env.qual ++ "<lambda>") params body scope (cloFrom X.env.cells scope.names []) pm c' ctv) → H1 f = none → f ∉ frs X.stack → H1 c' = some (CodeO c' (X.env.qual ++ "<lambda>")) → Q (.ref f) s') :
    wpAny (model X.prog X.w) X.A (eval (.Lambda params body scope pos) X.env) Q E s := by
  obtain ⟨ps, hP, tri, known⟩ := hT
  have nofr : ∀ f, s.heap.objs.size ≤ f → f ∉ frs X.stack := fun f hf z => by
    rcases List.mem_cons.mp (I.stkSub _ z) with e | e
    · exact absurd (I.lt) (by rw [← e]; exact Nat.not_lt_of_le hf)
    · exact I.nofs hf e
  have bP := TB.bm.keeps I.bk
  have gP : s.heap.get? P = some { cls := .none, data := .fields ps } := I.hok P _ hP
  refine PySem.W.kla_eval hdef ?_
  cases hc : codeAmong pos ps.toList with
  | some cv =>
    obtain ⟨c', rfl, hco⟩ := known pos cv hc
    refine PySem.W.kla_makeFunctionHit (closure_ok hfree) I.ok.glob (I.mod.glob.keeps I.bk) hcode (TB.code.keeps I.bk) gP tri hc bP fun ctv h' tk hx hsz => ?_
    exact h h'.objs.size c' ((X.mg "__name__").getD .none) ctv H _ (I.kept fun b o e => Heap.get?_push_of_some _ (hx b o e)) (.hit hP hc hco) (Heap.get?_push_size _ rfl) (I.hok.fresh hsz) (nofr _ hsz) hco
  | none =>
    refine PySem.W.kla_makeFunction (closure_ok hfree) I.ok.glob (I.mod.glob.keeps I.bk) hcode (TB.code.keeps I.bk) gP tri hc TB.gP bP fun c' ctv h' tk hx hge hlt hrec htb => ?_
    obtain ⟨c2, oc, vs, t, e2, hoc, hd, hv⟩ := hrec
    obtain rfl : c' = c2 := Value.ref.inj e2
    have nC : H c' = none := I.hok.fresh hge
    have sz : s.heap.objs.size ≤ h'.objs.size := Nat.le_trans hge (Nat.le_of_lt hlt)
    have J := inv_table (t' := tk) (more := #[rawInt pos.line, rawInt pos.col, .ref c']) (h' := h'.push (PySem.W.kla_obj "<lambda>" (X.env.qual ++ "<lambda>") params body scope (cloFrom X.env.cells scope.names []) ((X.mg "__name__").getD .none) c' ctv)) I hP
      (fun b o hb e => Heap.get?_push_of_some _ (hx b o hb e)) (Heap.get?_push_of_some _ htb) hge ⟨oc, vs, t, Heap.get?_push_of_some _ hoc, hd, hv⟩
    have toL : (ps ++ #[rawInt pos.line, rawInt pos.col, .ref c']).toList = ps.toList ++ [rawInt pos.line, rawInt pos.col, .ref c'] := by simp
    have nP : P ≠ c' := ne_of_none hP nC
    refine h h'.objs.size c' ((X.mg "__name__").getD .none) ctv _ _ J (.new hP nC (by rw [toL]; exact PySem.TriplesOk_snoc _ _ _ _ tri) fun p' cv hcv => by rw [toL] at hcv; exact among_app _ tri hcv) (Heap.get?_push_size _ rfl) ?_ (nofr _ sz) upd_same
    · rw [upd_ne (Nat.ne_of_gt hlt), upd_ne (Nat.ne_of_gt (Nat.lt_of_lt_of_le (Heap.lt_size gP) sz))]
      exact I.hok.fresh sz
end
section
variable {K : PySem.W.Frag} {T : Tb} {B : Hp} {Z : Addr → Prop} {cm : List Addr} {σ : L2.St} {H H1 : Hp} {ρ : List SD} {s : S} {kk n : Nat} {q : Str} {c' : Addr}
theorem OwnRep.tabS {G H : Hp} {a : Addr} (h : OwnRep K T cm G H a (.tab n)) (hs : Sub G H) : a = T.ta n ∧ TabS H a (T.tq n) := by
  obtain ⟨e, ps, h1, h2, h3⟩ := h
  refine ⟨e, ps, h1, h2, fun pos cv hc => ?_⟩
  obtain ⟨c, k1, k2⟩ := h3 pos cv hc
  exact ⟨c, k1, hs _ _ k2⟩
theorem Rel.tab (r : Rel K T B Z cm σ H ρ s) (h : s[kk]? = some (.tab n)) : cm[kk]? = some (T.ta n) ∧ TabS H (T.ta n) (T.tq n) := by
  have hk : kk < cm.length := by rw [r.cells.len]; exact (List.getElem?_eq_some_iff.mp h).1
  have e := List.getElem?_eq_getElem hk
  obtain ⟨e1, e2⟩ := (r.cells.at_ kk _ _ e h).tabS Sub.hidH
  rw [e1] at e e2
  exact ⟨e, e2⟩
theorem Rel.tabUp (r : Rel K T B Z cm σ H ρ s) (h : s[kk]? = some (.tab n)) (u : TabUp (T.ta n) (T.tq n) H c' H1) : Ext cm H cm H1 ∧ Rel K T B Z cm σ H1 ρ s := by
  obtain ⟨hc, _⟩ := r.tab h
  cases u with
  | hit _ _ _ => exact ⟨.refl _ _, r⟩
  | @new ps more hP nC g2 g3 =>
    have nP : T.ta n ≠ c' := ne_of_none hP nC
    have r1 : Rel K T B Z cm σ (upd H c' (CodeO c' (T.tq n))) ρ s := FRel.grow (F := ⟨B, Z, σ, ρ⟩) r (sub_upd nC)
    have eU : upd (upd H (T.ta n) (.tbl (ps ++ more))) c' (CodeO c' (T.tq n)) = upd (upd H c' (CodeO c' (T.tq n))) (T.ta n) (.tbl (ps ++ more)) := by
      funext b
      by_cases h1 : b = c'
      · rw [h1, upd_same, upd_ne (Ne.symm nP), upd_same]
      · by_cases h2 : b = T.ta n
        · rw [h2, upd_ne nP, upd_same, upd_same]
        · rw [upd_ne h1, upd_ne h2, upd_ne h2, upd_ne h1]
    have own0 : OwnRep K T cm (GV cm Z (Ow σ ρ) (upd H c' (CodeO c' (T.tq n)))) (upd H c' (CodeO c' (T.tq n))) (T.ta n) (.tab n) := r1.cells.at_ kk _ _ hc h
    obtain ⟨_, ps0, e0, t0, k0⟩ := own0
    have ep : ps0 = ps := by
      rw [upd_ne nP, hP] at e0
      cases e0
      rfl
    subst ep
    have vis : GV cm Z (Ow σ ρ) (upd H c' (CodeO c' (T.tq n))) c' = some (CodeO c' (T.tq n)) := vis_new (F := ⟨B, Z, σ, ρ⟩) r nC
    have own1 : OwnRep K T cm (GV cm Z (Ow σ ρ) (upd H c' (CodeO c' (T.tq n)))) (upd (upd H c' (CodeO c' (T.tq n))) (T.ta n) (.tbl (ps0 ++ more))) (T.ta n) (.tab n) := by
      refine ⟨rfl, _, upd_same, g2, fun pos cv hcv => ?_⟩
      rcases g3 pos cv hcv with z | z
      · exact k0 pos cv z
      · exact ⟨c', z, vis⟩
    have r2 := r1.mutCell hc own1
    have es : s.set kk (.tab n) = s := by
      refine List.ext_getElem? fun i => ?_
      rw [List.getElem?_set]
      split
      · rename_i e
        subst e
        split
        · exact h.symm
        · rename_i hl
          rw [List.getElem?_eq_none (by omega)]
      · rfl
    rw [es, ← eU] at r2
    refine ⟨⟨.refl _, fun a o e na => ⟨?_, na⟩, fun a e => ?_⟩, r2⟩
    · rw [upd_ne (ne_of_none e nC), upd_ne (fun z => na (by rw [z]; exact List.mem_of_getElem? hc))]
      exact e
    · by_cases h1 : a = c'
      · rw [h1, upd_same]; intro z; cases z
      · by_cases h2 : a = T.ta n
        · rw [h2, upd_ne nP, upd_same]; intro z; cases z
        · rw [upd_ne h1, upd_ne h2]; exact e
end
end Tv

/-! Tx7: told(lambda: e): what e gives, or the refusal -/
namespace Tv
open PySem PySem.Spec PyProof.Rows L2 LamX

def tellBody (to te tr : Str) (j : Nat) (p1 p2 p3 p4 p5 p6 p7 p8 p9 p10 p11 p12 : Pos) (x1 : Nat) : List Stmt :=
  [.Try [.Return (some (.Tuple [.Constant (.str "told") j p1, .Call (.Name to p2) [] [] p3] x1 p4)) p5] [.ExceptHandler (some (.Name te p6)) (some "e") [.Return (some (.Call (.Name tr p7) [.Name "e" p8] [] p9)) p10] p11] [] [] p12]
/-- told: the def that calls what it got; refuse: the def that it calls with the exception; base: the class that it catches -/
structure Tell (P : Program) (w : World) (K : PySem.W.Frag) (mg : Str → Option Value) (base : Heap) (T : Tb) (es : List Nat) (nm : Nat → Str) (k : Nat) (x to te tr : Str) : Prop where
  ex : ∃ (g : Addr) (qual : Str) (params : Arguments) (sg : Scope) (fd : FuncData) (j : Nat) (p1 p2 p3 p4 p5 p6 p7 p8 p9 p10 p11 p12 : Pos) (x1 : Nat), mg x = some (.ref g) ∧ FunD K x qual params (tellBody to te tr j p1 p2 p3 p4 p5 p6 p7 p8 p9 p10 p11 p12 x1) sg [] [] g fd ∧ FnScope [to, "e"] [to] sg ∧ Binds K fd [to] [] ∧
    sg.names.lookup te = some .globalImplicit ∧ sg.names.lookup tr = some .globalImplicit ∧ sg.names.lookup to = some .local ∧ sg.names.lookup ("e" : Str) = some .local
  hot : ∃ F, Hot P w K mg base T es k tr F ∧ ∀ c ds s, c ∈ es → ds.length = (T.fl c).length → F [.exc c ds] s = .ok (.tup (.str (nm c) :: ds)) s
  bs : ∃ C, mg te = some (.ref C) ∧ ∀ c ∈ es, PySem.W.exmOne K (.ref (T.cls c)) (.ref C) = some true
  dt : (to == ("__debug__" : Str)) = false
  ct : (to == ("__classdict__" : Str)) = false
  de : (te == ("__debug__" : Str)) = false
  dr : (tr == ("__debug__" : Str)) = false
def mTold (es : List Nat) (nm : Nat → Str) (kk n : Nat) (m : EM) : EM := fun ρ s => match s[kk]? with
  | some (.tab n') => if n' = n then (match m ρ s with
    | .ok d s1 => .ok (.tup [.str "told", d]) s1
    | .er c ds s1 => if c ∈ es then .ok (.tup (.str (nm c) :: ds)) s1 else .no
    | .no => .no) else .no
  | _ => .no
section
variable {X : Cx} {T : Tb} {W : WX} {es : List Nat} {nm : Nat → Str}
/-- refuse(e) in the suite -/
theorem pe_hot {F : FM} {k i : Nat} {x n : Str} {a : Addr} {oe : Obj} {vs : Array Value} {cls : Value} {d : Option Addr} {p1 p2 p3 : Pos} (hF : Hot X.prog X.w X.K X.mg X.base T es k x F) (hT : T.xv = none) (hr : L2H.RoomH (k + 1) X.A) (hp : (a, oe) ∈ X.pn) (hz : Zc cls d oe) (hd : oe.data = .fields vs)
    (hg : Gl X x) (hdb : (x == ("__debug__" : Str)) = false) (hN : X.N[i]? = some n) (hv : Vis X.env.scope n) (hdn : (n == ("__debug__" : Str)) = false) (hcn : (n == ("__classdict__" : Str)) = false)
    (he : starEach [.Name n p2] X.env = (false, eval (.Name n p2) X.env) :: starEach [] X.env := by rfl) (hpl : (backTo p3 (starEach [] X.env)).any (·.1) = false := by rfl) :
    PE X (.Call (.Name x p1) [.Name n p2] [] p3) (fun σ H Q => (σ.length = X.N.length → σ[i]? = some (some (.ref a))) ∧ RHX X.K T es F cls d H Q) := by
  refine ⟨fun pins s σ H Q I h => ?_⟩
  obtain ⟨hs, hq⟩ := h
  have hs := hs I.len
  have P1 := I.pin (a, oe) (List.mem_append_left _ hp)
  obtain ⟨f, qual, n0, params, body, scope, fd, N, m, hm, FD, _⟩ := id hF.ex
  refine wpAny_Call_Name_kw (ld_glob I hg hm ?_ hdb)
  refine PySem.W.callWith_K (h₀ := X.base) I.ok.mod.kin FD.kp (thn ((pa_cons (pe_var (pos := p2) (i := i) hN hv hdn hcn) pa_nil he).run p3 pins s σ H (fun us H1 => us = [.ref a] ∧ H1 = H) I ⟨_, hs, rfl, rfl⟩) fun us s1 ⟨vs1, H1, I1, r1, q1⟩ => ⟨I1.kIn, ?_⟩) he hpl
  obtain ⟨rfl, rfl⟩ := q1
  cases r1 with
  | cons r0 rn =>
    cases rn
    cases r0
    have Q1 := I1.pin (a, oe) (List.mem_append_left _ hp)
    have hpin : L2H.PinOk X.stack H1 s1 (a, oe) := ⟨Q1.1, Q1.2.1, fun hm => (List.mem_cons.mp (I1.stkSub a hm)).elim Q1.2.2.1 Q1.2.2.2.1, Q1.2.2.2.2⟩
    obtain ⟨f', hm', _, rc⟩ := call_hot hF hT hr hpin I1.env0 hz hd hq
    rw [hm] at hm'
    cases hm'
    refine wpAny_call (codeAny_mono rc fun r s' hq => ?_)
    match r, hq with
    | .error e, hq => exact (show False from hq).elim
    | .ok (.ret u), hq => exact I1.after hq
    | .ok .next, hq => exact (show False from hq).elim
    | .ok .brk, hq => exact (show False from hq).elim
    | .ok .cont, hq => exact (show False from hq).elim
theorem q_told {k kk n : Nat} {x to te tr : Str} {cc : Addr} {m : EM} {params : Arguments} {body : Expr} {scope : Scope} {p lpos pos : Pos} (TL : Tell X.prog X.w X.K X.mg X.base T es nm k x to te tr) (hT : T.xv = none) (TB : TabB X.base X.mg cc (T.ta n)) (hcode : X.env.code = .ref cc) (hq : T.tq n = X.env.qual ++ "<lambda>")
    {j : Nat} (hr : Room j X.A) (hj : k + 3 ≤ j) (L : LamS X.env.scope scope) (hdef : defaultsOf params X.env = ([], []))
    (hbind : ∀ (q : Str) (cl : List (Str × Addr)) (pm cv ctv : Value), bindArgs (PySem.W.kla_fn "<lambda>" q params body scope cl pm cv ctv) ⟨[], []⟩ = pure [])
    (hbody : ∀ (A : Around) (outer : List Env) (s : Shared) (H : Hp) (E : XK) (f c' : Addr), Room (j - 2) (A.deeper (lamEnv X scope s.heap.objs.size f c')) → QE (lamCx X A outer s H E scope f c') T (fun cls d _ H => E cls d H) body m)
    (hg : Gl X x := by rfl) (hdb : (x == ("__debug__" : Str)) = false := by decide) : QE X T W (.Call (.Name x p) [.Lambda params body scope lpos] [] pos) (mTold es nm kk n m) := by
  refine ⟨fun pins s σ H Q I h => ?_⟩
  obtain ⟨B, Z, cm, ρ, s0, r, ps⟩ := h
  unfold mTold at ps
  split at ps
  · rename_i n' hk
    split at ps
    · rename_i en
      subst en
      obtain ⟨hc, hTab⟩ := r.tab hk
      obtain ⟨g, qual, pg, sg, fd, jj, p1, p2, p3, p4, p5, p6, p7, p8, p9, p10, p11, p12, x1, hm, FD, Sg, hb, ge, gr, lo, le⟩ := TL.ex
      obtain ⟨F, hF, hFv⟩ := TL.hot
      obtain ⟨C, hC, hex⟩ := TL.bs
      refine wpAny_Call_Name_kw (ld_glob I hg hm ?_ hdb)
      refine PySem.W.callWith_K (h₀ := X.base) I.ok.mod.kin FD.kp ?_ (by rfl) (by rfl)
      show wpAny _ _ (spliced ((false, eval (.Lambda params body scope lpos) X.env) :: backTo pos (starEach [] X.env))) _ _ s
      refine Calls.spliced_cons (lam_make3 I TB hcode (by rw [← hq]; exact hTab) hdef (L.has I.ok) fun f c' pm' ctv H1 s' I1 up hf hfn hfr hco => ?_)
      refine Calls.spliced_nil ⟨I1.kIn, ?_⟩
      rw [← hq] at up hco
      obtain ⟨ex1, r1⟩ := r.tabUp hk up
      have rc : codeAny (model X.prog X.w) X.A (.call (.ref g) ⟨[.ref f], []⟩) (CR C8.CX0 X.stack X.prog X.w H1 s' Q C8.E0) s' := by
        obtain ⟨oc, od, dV, kV, doc, pm, an, cdv, ct, osl, rfl, lk, hcd, _, _⟩ := FD.ex
        obtain ⟨j', rfl⟩ : ∃ j', j = j' + 2 := ⟨j - 2, by omega⟩
        have hb1 := hb s' [.ref f] I1.kIn rfl
        rw [List.append_nil] at hb1
        refine run_ofS (N := [to, "e"]) (ps := [to]) (us := [.ref f]) (vs := [.ref f]) lk hcd Sg hr I1.env0 hb1 (.cons rfl .nil) rfl fun hr' => ?_
        refine ⟨_, PSs.nox (pss_one (ps_try_as (X := (cxOf C8.CX0 X.prog X.w X.K X.mg X.base [to, "e"] qual sg g cdv X.A X.stack s' H1 C8.E0).nox) (x := te) (n := "e") (c := .ref C) (i := 1)
          (tb := fun W D σZ HZ => ∃ Ech : XK, (∀ cls d σ' H', Ech cls d H' → W cls d σ' H') ∧ σZ[0]? = some (some (.ref f)) ∧ HZ c' = some (CodeO c' (T.tq n')) ∧ tP X.K T (fun cls d _ H => Ech cls d H) (AR X.K T) m σ HZ fun v H' => ∀ p, H' p = none → D.rt (.ref p) (upd H' p (.tup [.str "told", v])))
          (ts := fun a cls d D σZ HZ => (σZ.length = 2 → σZ[1]? = some (some (.ref a))) ∧ RHX X.K T es F cls d HZ D.rt)
          rfl rfl Sg.nd rfl le ⟨ge, TL.de, .inl hC⟩ LamX.takes0 (fun W pn xe tk _ => ?_) (fun a oe cls d pn hz hd => ?_))), ?_⟩
        · -- the body
          refine ⟨fun pins s2 σZ HZ D I2 h2 => ?_⟩
          obtain ⟨Ech, hW, h0, h1, h3⟩ := h2
          have hp := pe_act (tb := tP X.K T (fun cls d _ H => Ech cls d H) (AR X.K T) m) (Eg := C8.E0) (CXg := C8.CX0) (Ng := [to, "e"]) (qg := qual) (sg := sg) (g := g) (cdg := cdv) (k := j') (i := 0) (a := to) (p1 := p2) (p2 := p3) I1 L hf hfn hfr (hbind _ _ _ _ _) tk hW hr' (fun A outer s H hr2 => hbody A outer s H Ech f c' (by simpa using hr2)) rfl (.inl lo) TL.dt TL.ct
          rw [← hq] at hp
          refine (pss_one (ps_ret (pos := p5) (pe_tup (pos := p4) (x1 := x1) (pa_cons (pe_str (x := "told") (j := jj) (pos := p1)) (pa_cons hp pa_nil rfl) rfl)))).run pins s2 σZ HZ D I2 ?_
          refine ⟨h0, h1, ?_⟩
          obtain ⟨B', Z', cm', ρ', s0', r', pp⟩ := h3
          refine ⟨B', Z', cm', ρ', s0', r', pp.mono fun v H' hv => ⟨by show 2 ≤ sizeLine; rw [sizeLine_eq]; omega, hv⟩⟩
        · -- the suite
          obtain ⟨vs, hd⟩ := hd
          have hrH : L2H.RoomH (k + 1) (((cxOf C8.CX0 X.prog X.w X.K X.mg X.base [to, "e"] qual sg g cdv X.A X.stack s' H1 C8.E0).nox.suite a ((a, oe) :: pn)).A) := by
            have h1 := hr'.dp
            have h2 := hr'.un
            refine ⟨?_, ?_⟩
            · show (X.A.deeper (envOfC qual sg s'.heap.objs.size g cdv)).depth + 3 * (k + 1) + 5 < recursionLimit
              omega
            · show (X.A.deeper (envOfC qual sg s'.heap.objs.size g cdv)).units + 16 * (k + 1) + 200 < cLine
              omega
          exact pss_one (ps_ret (pos := p10) (pe_hot (X := (cxOf C8.CX0 X.prog X.w X.K X.mg X.base [to, "e"] qual sg g cdv X.A X.stack s' H1 C8.E0).nox.suite a ((a, oe) :: pn)) (n := "e") (i := 1) (p1 := p7) (p2 := p8) (p3 := p9) hF hT hrH List.mem_cons_self hz hd gr TL.dr rfl (.inl le) (by decide) (by decide) rfl rfl))
        · -- what is wanted
          refine ⟨fun cls d H' => ∃ b, PySem.W.exmOne X.K cls (.ref C) = some b ∧ (b = true → RHX X.K T es F cls d H' Q) ∧ (b = false → False), fun cls d σ' H' ⟨b, e1, e2, e3⟩ => ⟨b, e1, fun hb a na => ⟨fun hl => ?_, e2 hb⟩, fun hb => e3 hb⟩, rfl, hco, ⟨B, Z, cm, ρ, s0, r1, ?_⟩⟩
          · rw [List.length_set] at hl
            rw [List.getElem?_set_self (by omega)]
          · cases hm0 : m ρ s0 with
            | ok d s1 =>
              rw [hm0] at ps
              refine fun v H' cm' ex r' z p hp => ?_
              exact ps (.ref p) _ cm' (ex1.trans (ex.trans (Ext.grow (sub_upd hp)))) (r'.grow (sub_upd hp)) (rep_tup r' hp (.cons (.str _) (.cons z .nil)))
            | er c ds s1 =>
              rw [hm0] at ps
              dsimp only at ps
              split at ps
              · rename_i hces
                refine fun cls dx H' cm' ex r' z => ⟨true, by rw [z.1]; exact hex c hces, fun _ => ?_, fun e => by cases e⟩
                have hl : ds.length = (T.fl c).length := by
                  rcases z.2 with ⟨e1, _, e2⟩ | ⟨dd, gs, _, _, e1, e2⟩
                  · rw [e1, e2]
                    rfl
                  · rw [← e1, ← e2.len, List.length_map, List.length_map]
                have nd : D.noX.nos ds = true := by
                  rcases z.2 with ⟨e1, _, e2⟩ | ⟨dd, gs, _, _, e1, e2⟩
                  · rw [e1]; rfl
                  · exact Reps.nox hT _ _ e2
                have hfl : ∀ {a b : R D}, a = b → True := fun _ => trivial
                refine ⟨cm', fun a => Z a ∨ Ow σ ρ a, c, ds, s1, s1, _, hces, FRel.toCells (F := ⟨B, Z, σ, ρ⟩) r', by rw [eG_zo]; exact z, hFv c ds s1 hces hl, nd, r'.cells.nox hT, fun v H2 cm2 ex2 c2 z2 => ?_⟩
                exact ps v H2 cm2 (ex1.trans (ex.trans ex2)) (FRel.ofCells (F := ⟨B, Z, σ, ρ⟩) r' ex2 c2) (by rw [eG_zo] at z2; exact z2)
              · exact ps.elim
            | no => rw [hm0] at ps; exact ps.elim
      refine wpAny_call (codeAny_mono rc fun r s2 hq => ?_)
      match r, hq with
      | .error e, hq => exact (show False from hq).elim
      | .ok (.ret u), hq => exact I1.after hq
      | .ok .next, hq => exact (show False from hq).elim
      | .ok .brk, hq => exact (show False from hq).elim
      | .ok .cont, hq => exact (show False from hq).elim
    · exact ps.elim
  · exact ps.elim
end
end Tv

/-! Tx8: a lambda with parameters, nothing captured, as a value; its call -/
namespace Tv
open PySem PySem.Spec PyProof.Rows L2 LamX

/-- the lambda at f, its code object at c -/
def LamH (q : Str) (params : Arguments) (body : Expr) (scope : Scope) (f c : Addr) : HO := .ext fun h => ∃ pm ctv : Value, h.get? f = some (PySem.W.kla_obj "<lambda>" q params body scope [] pm c ctv)
theorem lamH_ok {P : Program} {w : World} {H : Hp} {h : Heap} {q : Str} {params : Arguments} {body : Expr} {scope : Scope} {f c : Addr} {pm ctv : Value} (e : h.get? f = some (PySem.W.kla_obj "<lambda>" q params body scope [] pm c ctv)) : ObjOk P w H h f (LamH q params body scope f c) :=
  ⟨⟨pm, ctv, e⟩, ⟨_, e⟩, fun _ _ ⟨pm, ctv, z⟩ k => ⟨pm, ctv, k _ z⟩⟩
theorem lamH_at {P : Program} {w : World} {H : Hp} {h : Heap} {q : Str} {params : Arguments} {body : Expr} {scope : Scope} {f c : Addr} (hok : HOk P w H h) (e : H f = some (LamH q params body scope f c)) : ∃ pm ctv : Value, h.get? f = some (PySem.W.kla_obj "<lambda>" q params body scope [] pm c ctv) := by
  have z : ObjOk P w H h f (.ext fun h => ∃ pm ctv : Value, h.get? f = some (PySem.W.kla_obj "<lambda>" q params body scope [] pm c ctv)) := hok f _ e
  exact z.1
section
variable {X : Cx} {pins : List (Addr × Obj)} {σ : L2.St} {H : Hp} {s : Shared}
theorem lam_make4 {c P : Addr} {params : Arguments} {body : Expr} {scope : Scope} {pos : Pos} {E : Value → Shared → Prop} {Q : Value → Shared → Prop} (I : Inv X pins σ H s) (TB : TabB X.base X.mg c P) (hcode : X.env.code = .ref c)
    (hT : TabS H P (X.env.qual ++ "<lambda>")) (hdef : defaultsOf params X.env = ([], [])) (hfree : ∀ y ∈ scope.names, y.2 = .free → ∃ c, X.env.cells.lookup y.1 = some c) (hcl : cloFrom X.env.cells scope.names [] = [])
    (h : ∀ (f c' : Addr) (H1 : Hp) (s' : Shared), TabUp P (X.env.qual ++ "<lambda>") H c' H1 → H1 f = none → Inv X pins σ (upd H1 f (LamH (X.env.qual ++ "<lambda>") params body scope f c')) s' → Q (.ref f) s') :
    wpAny (model X.prog X.w) X.A (eval (.Lambda params body scope pos) X.env) Q E s := by
  obtain ⟨ps, hP, tri, known⟩ := hT
  have bP := TB.bm.keeps I.bk
  have gP : s.heap.get? P = some { cls := .none, data := .fields ps } := I.hok P _ hP
  refine PySem.W.kla_eval hdef ?_
  cases hc : codeAmong pos ps.toList with
  | some cv =>
    obtain ⟨c', rfl, hco⟩ := known pos cv hc
    refine PySem.W.kla_makeFunctionHit (closure_ok hfree) I.ok.glob (I.mod.glob.keeps I.bk) hcode (TB.code.keeps I.bk) gP tri hc bP fun ctv h' tk hx hsz => ?_
    rw [hcl]
    have J : Inv X pins σ H { s with heap := h', toks := tk } := I.kept (t' := tk) hx
    refine h h'.objs.size c' H _ (.hit hP hc hco) (J.hok.fresh (Nat.le_refl _)) (J.laid (t' := tk) (fun b o e => Heap.get?_push_of_some _ e) (Nat.le_refl _) (lamH_ok (pm := (X.mg "__name__").getD .none) (ctv := ctv) (Heap.get?_push_size _ rfl)))
  | none =>
    refine PySem.W.kla_makeFunction (closure_ok hfree) I.ok.glob (I.mod.glob.keeps I.bk) hcode (TB.code.keeps I.bk) gP tri hc TB.gP bP fun c' ctv h' tk hx hge hlt hrec htb => ?_
    rw [hcl]
    obtain ⟨c2, oc, vs, t, e2, hoc, hd, hv⟩ := hrec
    obtain rfl : c' = c2 := Value.ref.inj e2
    have nC : H c' = none := I.hok.fresh hge
    have toL : (ps ++ #[rawInt pos.line, rawInt pos.col, .ref c']).toList = ps.toList ++ [rawInt pos.line, rawInt pos.col, .ref c'] := by simp
    have J := inv_table (t' := tk) (more := #[rawInt pos.line, rawInt pos.col, .ref c']) (h' := h') I hP hx htb hge ⟨oc, vs, t, hoc, hd, hv⟩
    have nf := J.hok.fresh (Nat.le_refl h'.objs.size)
    exact h h'.objs.size c' _ _ (.new hP nC (by rw [toL]; exact PySem.TriplesOk_snoc _ _ _ _ tri) fun p' cv hcv => by rw [toL] at hcv; exact among_app _ tri hcv) nf
      (J.laid (t' := tk) (fun b o e => Heap.get?_push_of_some _ e) (Nat.le_refl _) (lamH_ok (pm := (X.mg "__name__").getD .none) (ctv := ctv) (Heap.get?_push_size _ rfl)))
end
section
variable {K : PySem.W.Frag} {T : Tb} {B : Hp} {Z : Addr → Prop} {cm : List Addr} {σ : L2.St} {H H1 : Hp} {ρ : List SD} {s : S} {kk n : Nat} {c' : Addr}
theorem Rel.tabCode (r : Rel K T B Z cm σ H ρ s) (h : s[kk]? = some (.tab n)) (u : TabUp (T.ta n) (T.tq n) H c' H1) : GV cm Z (Ow σ ρ) H1 c' = some (CodeO c' (T.tq n)) := by
  obtain ⟨hc, _⟩ := r.tab h
  cases u with
  | @hit ps pos hP hcv hco =>
    obtain ⟨_, ps0, e0, t0, k0⟩ := r.cells.at_ kk _ _ hc h
    have e0 : H (T.ta n) = some (.tbl ps0) := e0
    rw [hP] at e0
    cases e0
    obtain ⟨c2, e1, e2⟩ := k0 pos _ hcv
    cases e1
    exact e2
  | @new ps more hP nC g2 g3 =>
    refine hid_some.mpr ⟨fun z => ?_, upd_same⟩
    exact r.hidden z nC
end
def mLamV (kk n l : Nat) : EM := fun _ s => match s[kk]? with
  | some (.tab n') => if n' = n then .ok (.lam l) s else .no
  | _ => .no
section
variable {X : Cx} {T : Tb} {W : WX}
theorem q_lamV {kk n l : Nat} {cc : Addr} {params : Arguments} {body : Expr} {scope : Scope} {lpos : Pos} (TB : TabB X.base X.mg cc (T.ta n)) (hcode : X.env.code = .ref cc) (hq : T.tq n = X.env.qual ++ "<lambda>") (hl : T.lo l = LamH (T.tq n) params body scope) (hlq : T.lq l = T.tq n)
    (hnf : ∀ y ∈ scope.names, y.2 ≠ .free) (hcl : cloFrom X.env.cells scope.names [] = []) (hdef : defaultsOf params X.env = ([], [])) : QE X T W (.Lambda params body scope lpos) (mLamV kk n l) := by
  refine ⟨fun pins s σ H Q I h => ?_⟩
  obtain ⟨B, Z, cm, ρ, s0, r, ps⟩ := h
  unfold mLamV at ps
  split at ps
  · rename_i n' hk
    split at ps
    · rename_i en
      subst en
      obtain ⟨hc, hTab⟩ := r.tab hk
      refine lam_make4 I TB hcode (by rw [← hq]; exact hTab) hdef (fun y hy e => absurd e (hnf y hy)) hcl fun f c' H1 s' up hf J => ?_
      rw [← hq] at up J
      obtain ⟨ex1, r1⟩ := r.tabUp hk up
      have g1 := r.tabCode hk up
      rw [← hl] at J
      refine ⟨.ref f, _, J, rfl, ps (.ref f) _ cm (ex1.trans (Ext.grow (sub_upd hf))) (FRel.grow (F := ⟨B, Z, σ, ρ⟩) r1 (sub_upd hf)) (.lam (c := c') (vis_new (F := ⟨B, Z, σ, ρ⟩) r1 hf) ?_)⟩
      rw [hlq]
      exact sub_new (F := ⟨B, Z, σ, ρ⟩) r1 hf _ _ g1
    · exact ps.elim
  · exact ps.elim
end
/-- the lambda of kind l keeps F -/
structure LamA (P : Program) (w : World) (K : PySem.W.Frag) (mg : Str → Option Value) (base : Heap) (T : Tb) (k l n : Nat) (F : FM) : Prop where
  ex : ∃ (params : Arguments) (body : Expr) (scope : Scope) (N ps : List Str) (m : EM), T.lo l = LamH (T.lq l) params body scope ∧ FnScope N ps scope ∧ ps.length = n ∧ ps.length ≤ N.length ∧
    (∀ (pm cv ctv : Value) (us : List Value), us.length = n → bindArgs (PySem.W.kla_fn "<lambda>" (T.lq l) params body scope [] pm cv ctv) ⟨us, []⟩ = pure (ps.zip us)) ∧ F = (fun ds s => m (ds.map .v ++ List.replicate (N.length - n) .un) s) ∧
    ∀ (f : Addr) (cdv : Value) (A : Around) (outer : List Env) (s : Shared) (H : Hp) (E : XK), Room (k - 1) (A.deeper (envOfC (T.lq l) scope s.heap.objs.size f cdv)) → QE (cxOf (L2.CX P w) P w K mg base N (T.lq l) scope f cdv A outer s H E) T (fun cls d _ H => E cls d H) body m
theorem LamA.run {P : Program} {w : World} {K : PySem.W.Frag} {mg : Str → Option Value} {base : Heap} {T : Tb} {k l n : Nat} {F : FM} (LA : LamA P w K mg base T k l n F) (hk : 1 ≤ k) {A : Around} {outer : List Env} {s : Shared} {H : Hp} {us : List Value} {vs : List V} {Q : VK} {E : XK} {f c : Addr} (hr : Room k A)
    (e0 : Env0 P w K mg base A outer s H) (r : Vals vs us) (hf : H f = some (T.lo l f c)) (hc : H c = some (CodeO c (T.lq l))) (h : spD K T n F vs H Q E) :
    codeAny (model P w) A (.call (.ref f) ⟨us, []⟩) (CR (L2.CX P w) outer P w H s Q E) s := by
  obtain ⟨params, body, scope, N, ps, m, hl, S, hn, hN, hb, rfl, hbody⟩ := LA.ex
  obtain ⟨hlen, cm, Z, ds, s0, cl, rv, p⟩ := h
  rw [hl] at hf
  obtain ⟨pm, ctv, ho⟩ := lamH_at e0.hok hf
  have zc : ObjOk P w H s.heap c (.ext fun h => ∃ (oc : Obj) (vs : Array Value) (t : Tok), h.get? c = some oc ∧ oc.data = .fields vs ∧ vs[1]? = some (.str (T.lq l) t)) := e0.hok c _ hc
  obtain ⟨⟨oc, va, tk, h1, h2, h3⟩, _⟩ := zc
  have hu : us.length = n := by rw [← r.length, hlen]
  have NL : s.heap.NoLimit := e0.mod.nolimit.keeps fun b o e => (e0.bs b o e).1
  obtain ⟨k', rfl⟩ : ∃ k', k = k' + 1 := ⟨k - 1, by omega⟩
  refine PySem.W.kla_callFunE hr.depth ho rfl S.co S.gen rfl ⟨c, oc, va, tk, rfl, h1, h2, h3⟩ ?_
  rw [hb pm (.ref c) ctv us hu]
  have params_ : ∀ y ∈ ps.zip us, scope.names.lookup y.1 = some .local ∨ (scope.names.lookup y.1 = some .cell ∧ ((cellsFrom (s.heap.objs.size + 1) scope.names []).lookup y.1).isSome = true) := by
    rintro ⟨y, v⟩ hy
    exact (S.par y (List.of_mem_zip hy).1).elim .inl fun q => .inr ⟨q, PySem.W.cellsFrom_some _ _ _ (.inl q)⟩
  refine wpAny_pure (wpAny_newFunctionEnv_cells S.kind params_ fun env he s1 x1 => ?_)
  subst he
  refine ⟨NL.keeps x1.toInCall.keep, ?_⟩
  have J : Inv (cxOf (L2.CX P w) P w K mg base N (T.lq l) scope f (.ref c) A outer s H E) [] (L2.start N vs) H s1 := inv_start S hr.hd e0 (by rw [hlen, hn]) r x1
  refine PySem.W.kla_codeExpr (wpAny_mono ((hbody f (.ref c) A outer s H E (hr.deeper _)).run [] s1 (L2.start N vs) H Q J ?_) (fun v s' hq => ?_) fun e s' hq => hq)
  · have R0 := Rel.start (N := N) cl rv (by omega)
    refine ⟨offC cm H, Z, cm, _, s0, R0, ?_⟩
    rw [hlen]
    have p' : PostF K T Z cm H (m (ds.map .v ++ List.replicate (N.length - n) .un) s0) Q E := p
    cases e0' : m (ds.map .v ++ List.replicate (N.length - n) .un) s0 with
    | ok d s' =>
      rw [e0'] at p'
      exact fun v H' cm' ex r' z => p' v H' cm' ex (r'.cells.fewer fun a z => z.elim) (Rep.mono (.refl _) (sub_shrink fun a z => z.elim) _ _ z)
    | er c ds s' =>
      rw [e0'] at p'
      exact fun cls dx H' cm' ex r' z => p' cls dx H' cm' ex (r'.cells.fewer fun a z => z.elim) (z.mono (.refl _) (sub_shrink fun a z => z.elim) fun _ _ h => h)
    | no => rw [e0'] at p'; exact p'
  · obtain ⟨v', H', J', rv', q⟩ := hq
    exact ⟨v', H', J'.os, J'.bare, J'.base, J'.hok, rv', q⟩
/-- x(e, ..), x a local that holds a def or a lambda -/
def mCallL (i : Nat) (tbl tl : List (Nat × FM)) (lm : LM) : EM := fun ρ s => match ρ[i]? with
  | some (.v (.fn j)) => (match tbl.lookup j with
    | some F => (lm ρ s).bind fun ds s1 => F ds s1
    | none => .no)
  | some (.v (.lam j)) => (match tl.lookup j with
    | some F => (lm ρ s).bind fun ds s1 => F ds s1
    | none => .no)
  | _ => .no
section
variable {X : Cx} {T : Tb} {W : WX} {e : Expr} {es : List Expr} {lm : LM} {pos p : Pos} {x : Str} {i j k n : Nat} {tbl tl : List (Nat × FM)}
theorem q_callL (hF : ∀ q ∈ tbl, FnA X.prog X.w X.K X.mg X.base T k q.1 n q.2) (hL : ∀ q ∈ tl, LamA X.prog X.w X.K X.mg X.base T k q.1 n q.2) (hr : Room j X.A) (tk : Takes X W) (h1 : 1 ≤ k := by decide) (hk : k ≤ j := by decide) (ha : QS X T W n (e :: es) lm) (hN : X.N[i]? = some x := by rfl) (hv : Vis X.env.scope x := by first | exact Or.inl rfl | exact Or.inr (Or.inl rfl) | exact Or.inr (Or.inr rfl))
    (hd : (x == ("__debug__" : Str)) = false := by decide) (hcd : (x == ("__classdict__" : Str)) = false := by decide)
    (he : starEach (e :: es) X.env = (false, eval e X.env) :: starEach es X.env := by rfl) (hpl : (backTo pos (starEach es X.env)).any (·.1) = false := by rfl) :
    QE X T W (.Call (.Name x p) (e :: es) [] pos) (mCallL i tbl tl lm) := by
  refine ⟨fun pins s σ H Q I h => ?_⟩
  obtain ⟨B, Z, cm, ρ, s0, r, q⟩ := h
  unfold mCallL at q
  split at q
  · rename_i i' e0
    exact (q_callV hF hr tk hk ha hN hv hd hcd he hpl).run pins s σ H Q I ⟨B, Z, cm, ρ, s0, r, by unfold mCallV; rw [e0]; exact q⟩
  · rename_i l e0
    obtain ⟨v, h1', h2⟩ := r.val _ _ e0
    cases h2 with
    | @lam f c _ g1 g2 =>
    split at q
    · rename_i F eF
      have LA := hL _ (lookup_mem eF)
      have g1' := Sub.hidH _ _ g1
      have g2' := Sub.hidH _ _ g2
      refine wpAny_Call_Name_kw (thn ((pe_var (pos := p) hN hv hd hcd).run pins s σ H (fun v H1 => v = .ref f ∧ H1 = H) I ⟨_, h1', rfl, rfl⟩) fun u s1 ⟨v, H1, I1, r1, q1⟩ => ?_)
      obtain ⟨rfl, rfl⟩ := q1
      cases r1
      -- the lambda and its code stay while the arguments are reckoned
      have h' : tP X.K T W (ALn X.K T n) lm σ H1 fun vs H2 => spD X.K T n F vs H2 Q (fun cls d H' => W cls d σ H') ∧ H2 f = some (T.lo l f c) ∧ H2 c = some (CodeO c (T.lq l)) := by
        have hq : tP X.K T W (AR X.K T) (fun ρ s => (lm ρ s).bind fun ds s1 => F ds s1) σ H1 Q := ⟨B, Z, cm, ρ, s0, r, q⟩
        refine ⟨B, Z, cm, ρ, s0, r, ?_⟩
        refine (Post.bind (A := ALn X.K T n) (A' := AR X.K T) (f := fun ds s1 => F ds s1) q up_AR).mono fun vs H2 ⟨cm1, ds, s1', e1, r1, a1, p1⟩ => ?_
        exact ⟨spD_of (F0 := ⟨B, Z, σ, ρ⟩) r1 a1.1 a1.2 p1, Sub.hidH _ _ (e1.sub _ _ g1), Sub.hidH _ _ (e1.sub _ _ g2)⟩
      obtain ⟨params, body, scope, N, ps, m, hl, _⟩ := id LA.ex
      have g1h := g1'
      rw [hl] at g1h
      obtain ⟨pm, ctv, ho⟩ := lamH_at I1.hok g1h
      refine PySem.W.callWith_F ⟨_, _, _, _, ho⟩ (thn (ha.run pos pins s1 σ _ _ I1 h') fun us s2 ⟨vs, H2, I2, r2, q2, f2, c2⟩ => ?_) he hpl
      have f2h := f2
      rw [hl] at f2h
      obtain ⟨pm2, ctv2, ho2⟩ := lamH_at I2.hok f2h
      refine ⟨⟨_, _, _, _, ho2⟩, wpAny_call (codeAny_mono (LA.run h1 (hr.mono hk) I2.env0 r2 f2 c2 q2) fun r s' hq => ?_)⟩
      match r, hq with
      | .error e, hq => exact passAt tk σ pins H2 s2 e s' I2 hq
      | .ok (.ret u), hq => exact I2.after hq
      | .ok .next, hq => exact (show False from hq).elim
      | .ok .brk, hq => exact (show False from hq).elim
      | .ok .cont, hq => exact (show False from hq).elim
    · exact q.elim
  · exact q.elim
end
end Tv

/-! Tx9: repr; defs that want to know that no repr is under way -/
namespace Tv
open PySem PySem.Spec PyProof.Rows L2 LamX

/-! ### repr of a tuple or a list -/
def rRepr (K : PySem.W.Frag) : List V → Hp → VK → Prop := fun xs H Q => ∃ (a : Addr) (d : PyData), xs = [.ref a] ∧ Dp K H (.ref a) d ∧ d.showable = true ∧ d.hasDict = false ∧ d.depth ≤ 40 ∧ d.shown.length ≤ sizeLine ∧ Q (.str d.shown) H
def isRefD : D → Bool
  | .tup _ => true
  | .lst _ => true
  | _ => false
def gRepr (ds : List D) (s : S) : R D := match ds with
  | [d] => (match d.py with
    | some p => if isRefD d = true ∧ p.showable = true ∧ p.hasDict = false ∧ p.depth ≤ 40 ∧ p.shown.length ≤ sizeLine then .ok (.str p.shown) s else .no
    | none => .no)
  | _ => .no
section
variable {X : Cx} {T : Tb} {W : WX} {e : Expr} {m : EM} {p pos : Pos}
theorem call_repr (hg : X.A.guards = some []) (hu : X.A.units + 64 < cLine) : CallR X (.builtin "repr") (rRepr X.K) := by
  intro pins s σ H xs us Q I r h
  obtain ⟨a, d, rfl, hd, h1, h2, h3, h4, q⟩ := h
  cases r with
  | cons rx rr =>
    cases rr
    cases rx
    obtain ⟨as, rd⟩ := Dp.reads I d _ _ hd rfl
    exact repr_of_reads' rd h1 (fun z => by rw [h2] at z; cases z) hg (by omega) (fun _ _ z => z) (fun h' u tk hk => ⟨.str d.shown, H, I.kept (t' := tk) hk, ⟨u, rfl⟩, q⟩) h4
theorem oc_repr : OC X T (AR X.K T) (rRepr X.K) gRepr := by
  intro F cm H s W xs ds Q r a p
  unfold gRepr at p
  split at p
  · rename_i d
    split at p
    · rename_i pd e
      split at p
      · rename_i hc
        obtain ⟨h0, h1, h2, h3, h4⟩ := hc
        cases a with
        | @cons v _ _ _ a1 at_ =>
          cases at_
          have hx : ∃ c, v = V.ref c := by
            cases d with
            | lst l => obtain ⟨c, _, e, _⟩ := a1.lst; exact ⟨c, e⟩
            | tup l => obtain ⟨c, _, e, _⟩ := a1.tup; exact ⟨c, e⟩
            | _ => cases h0
          obtain ⟨c, rfl⟩ := hx
          exact ⟨c, pd, rfl, a1.dp e, h1, h2, h3, h4, p.fin r (.str _)⟩
      · exact p.elim
    · exact p.elim
  · exact p.elim
theorem q_repr (hgu : X.A.guards = some []) (hu : X.A.units + 64 < cLine) (hg : Gl X "repr") (hm : X.mg "repr" = none) (ha : QB X T W e m) (hs : starEach [e] X.env = (false, eval e X.env) :: starEach [] X.env := by rfl) (hpl : (backTo pos (starEach [] X.env)).any (·.1) = false := by rfl) : QE X T W (.Call (.Name "repr" p) [e] [] pos) (mCall gRepr (mCons m mNil)) :=
  q_callB (call_repr hgu hu) oc_repr up_AR hg hm (by decide +kernel) (qb_cons ha qb_nil hs) (by decide) (by decide) hs hpl
end

/-! ### defs that want to know the guards -/
/-- x may be called where no repr is under way -/
structure FnG (P : Program) (w : World) (K : PySem.W.Frag) (mg : Str → Option Value) (base : Heap) (T : Tb) (k : Nat) (x : Str) (n : Nat) (F : FM) : Prop where
  ex : ∃ (f : Addr) (fd : FuncData) (ps : List Str), ps.length = n ∧ (∀ (A : Around) (outer : List Env) (s : Shared) (H : Hp) (us : List Value) (vs : List V) (Q : VK) (E : XK), A.guards = some [] → Room k A → Env0 P w K mg base A outer s H → BindsTo s fd ⟨us, []⟩ (ps.zip us) → Vals vs us → spD K T n F vs H Q E →
    codeAny (model P w) A (.call (.ref f) ⟨us, []⟩) (CR (L2.CX P w) outer P w H s Q E) s) ∧ mg x = some (.ref f) ∧ PySem.W.keepIn K (.ref f) = true ∧ Binds K fd ps []
section
variable {P : Program} {w : World} {K : PySem.W.Frag} {mg : Str → Option Value} {base : Heap} {T : Tb} {x qual : Str} {params : Arguments} {body : List Stmt} {scope : Scope} {f : Addr} {fd : FuncData}
theorem deeper_guards {A : Around} (env : Env) : (A.deeper env).guards = A.guards := by
  first
  | rfl
  | simp [Around.deeper, Around.under]
/-- the code of a def's run: what its cdv is -/
def codeF (K : PySem.W.Frag) (f : Addr) : Addr := match K.lookup f with
  | some ⟨_, _, .func fd, _⟩ => (match fd.code with
    | .ref c => c
    | _ => 0)
  | _ => 0
theorem codeF_of {K : PySem.W.Frag} {f : Addr} {oc : Value} {od : Option Addr} {osl : Array (Option Value)} {fd : FuncData} {q : Str} (lk : K.lookup f = some ⟨oc, od, .func fd, osl⟩) (h : PySem.W.codeIn K fd.code q = true) : fd.code = .ref (codeF K f) := by
  obtain ⟨c, e⟩ := He.codeIn_ref h
  unfold codeF
  rw [lk]
  dsimp only
  rw [e]
theorem fnC_run {N ps : List Str} {k : Nat} {m : SM} (F : FunD K x qual params body scope [] [] f fd) (S : FnScope N ps scope) (hN : ps.length ≤ N.length) {A : Around} {outer : List Env} {s : Shared} {H : Hp} {us : List Value} {vs : List V} {Q : VK} {E : XK} (hr : Room (k + 1) A) (e0 : Env0 P w K mg base A outer s H) (hb : BindsTo s fd ⟨us, []⟩ (ps.zip us)) (r : Vals vs us)
    (h : spD K T ps.length (mFun (N.length - ps.length) m) vs H Q E)
    (hbody : ∀ cdv : Value, cdv = .ref (codeF K f) → Room k (A.deeper (envOfC qual scope s.heap.objs.size f cdv)) → QSs (cxOf (L2.CX P w) P w K mg base N qual scope f cdv A outer s H E) T (fun cls d _ H => E cls d H) body m) :
    codeAny (model P w) A (.call (.ref f) ⟨us, []⟩) (CR (L2.CX P w) outer P w H s Q E) s := by
  obtain ⟨oc, od, dV, kV, doc, pm, an, cdv, ct, osl, rfl, lk, hcd, _, _⟩ := F.ex
  obtain ⟨hlen, cm, Z, ds, s0, cl, rv, p⟩ := h
  refine run_ofS lk hcd S hr e0 hb r hlen fun hr' => ⟨_, hbody cdv (codeF_of lk hcd) hr', ?_⟩
  refine ⟨offC cm H, Z, cm, _, s0, Rel.start cl rv (by omega), ?_⟩
  rw [hlen]
  exact post_fn p
theorem fnG_ok {N ps : List Str} {k : Nat} {m : SM} (F : FunD K x qual params body scope [] [] f fd) (S : FnScope N ps scope) (hN : ps.length ≤ N.length) (hm : mg x = some (.ref f)) (hb : Binds K fd ps [])
    (hbody : ∀ (cdv : Value) (A : Around) (outer : List Env) (s : Shared) (H : Hp) (E : XK), cdv = .ref (codeF K f) → A.guards = some [] → Room k (A.deeper (envOfC qual scope s.heap.objs.size f cdv)) → QSs (cxOf (L2.CX P w) P w K mg base N qual scope f cdv A outer s H E) T (fun cls d _ H => E cls d H) body m) :
    FnG P w K mg base T (k + 1) x ps.length (mFun (N.length - ps.length) m) :=
  ⟨f, fd, ps, rfl, fun A outer s H us vs Q E hg hr e0 b r h => fnC_run F S hN hr e0 b r h fun cdv hc hr' => hbody cdv A outer s H E hc hg hr', hm, F.kp, hb⟩
/-- a def that makes lambdas: the body with its code known -/
theorem fnC_ok {N ps : List Str} {k : Nat} {m : SM} (F : FunD K x qual params body scope [] [] f fd) (S : FnScope N ps scope) (hN : ps.length ≤ N.length)
    (hbody : ∀ (cdv : Value) (A : Around) (outer : List Env) (s : Shared) (H : Hp) (E : XK), cdv = .ref (codeF K f) → Room k (A.deeper (envOfC qual scope s.heap.objs.size f cdv)) → QSs (cxOf (L2.CX P w) P w K mg base N qual scope f cdv A outer s H E) T (fun cls d _ H => E cls d H) body m) :
    FnOk P w K mg base (L2.CX P w) (k + 1) f fd ps (spD K T ps.length (mFun (N.length - ps.length) m)) := by
  obtain ⟨oc, od, dV, kV, doc, pm, an, cdv, ct, osl, rfl, lk, hcd, _, _⟩ := F.ex
  refine fn_of lk hcd S (fun vs H Q E h => h.1) fun A outer s H vs Q E hr h => ?_
  obtain ⟨hlen, cm, Z, ds, s0, cl, rv, p⟩ := h
  refine ⟨_, hbody cdv A outer s H E (codeF_of lk hcd) hr, offC cm H, Z, cm, _, s0, Rel.start cl rv (by omega), ?_⟩
  rw [hlen]
  exact post_fn p
end
section
variable {X : Cx} {T : Tb} {W : WX} {n j k : Nat} {x : Str} {F : FM} {e : Expr} {es : List Expr} {lm : LM} {p pos : Pos}
theorem FnG.le {P : Program} {w : World} {K : PySem.W.Frag} {mg : Str → Option Value} {base : Heap} {T : Tb} {k j n : Nat} {x : Str} {F : FM} (h : FnG P w K mg base T k x n F) (e : k ≤ j) : FnG P w K mg base T j x n F := by
  obtain ⟨f, fd, ps, hl, h1, h2⟩ := h.ex
  exact ⟨f, fd, ps, hl, fun A outer s H us vs Q E hg hr => h1 A outer s H us vs Q E hg (hr.mono e), h2⟩
theorem q_callG (c : FnG X.prog X.w X.K X.mg X.base T k x n F) (hgu : X.A.guards = some []) (hr : Room j X.A) (tk : Takes X W) (hk : k ≤ j := by decide) (hg : Gl X x := by rfl) (ha : QS X T W n (e :: es) lm) (hdb : (x == ("__debug__" : Str)) = false := by decide) (he : starEach (e :: es) X.env = (false, eval e X.env) :: starEach es X.env := by rfl) (hpl : (backTo pos (starEach es X.env)).any (·.1) = false := by rfl) :
    QE X T W (.Call (.Name x p) (e :: es) [] pos) (mCallF F lm) := by
  obtain ⟨f, fd, ps, hl, hF, hm, hkp, hb⟩ := c.ex
  refine ⟨fun pins s σ H Q I h => ?_⟩
  refine wpAny_Call_Name_kw (ld_glob I hg hm ?_ hdb)
  refine PySem.W.callWith_K (h₀ := X.base) I.ok.mod.kin hkp (thn (ha.run pos pins s σ H _ I (tCallF_of h)) fun us s1 ⟨vs, H1, I1, r1, q1⟩ => ⟨I1.kIn, ?_⟩) he hpl
  have hu : us.length = ps.length := by rw [← r1.length, q1.1, hl]
  have b := hb s1 us I1.kIn (by rw [List.append_nil]; exact hu)
  rw [List.append_nil] at b
  refine wpAny_call (codeAny_mono (hF X.A X.stack s1 H1 us vs Q _ hgu (hr.mono hk) I1.env0 b r1 q1) fun r s' hq => ?_)
  match r, hq with
  | .error e, hq => exact passAt tk σ pins H1 s1 e s' I1 hq
  | .ok (.ret u), hq => exact I1.after hq
  | .ok .next, hq => exact (show False from hq).elim
  | .ok .brk, hq => exact (show False from hq).elim
  | .ok .cont, hq => exact (show False from hq).elim
end
end Tv

/-! Txa: the end of a law that is run where no repr is under way -/
namespace Tv
open PySem PySem.Spec PyProof.Rows L2 LamX
section
variable {P : Program} {w : World} {K : PySem.W.Frag} {mg mb : Str → Option Value} {fa a : Addr} {cs : List (Addr × Addr)} {s1 : Shared} {vs : List Value} {ns : List Int}
/-- what is tracked at the start: the tables, the script where the written part does not hold it -/
def startH (K : PySem.W.Frag) (tabs : List Addr) (a : Addr) (vs : List Value) (ns : List Int) : Hp := fun b =>
  if b ∈ tabs then some (.tbl #[]) else if b = a ∧ (K.lookup a).isNone = true then some (.frz { cls := .type "list", data := .seq vs.toArray } (.lst (ns.map V.int))) else none
theorem startH_cases {tabs : List Addr} {b : Addr} {u : HO} (h : startH K tabs a vs ns b = some u) : (b ∈ tabs ∧ u = .tbl #[]) ∨ (b ∉ tabs ∧ b = a ∧ K.lookup a = none ∧ u = .frz { cls := .type "list", data := .seq vs.toArray } (.lst (ns.map V.int))) := by
  unfold startH at h
  split at h
  · rename_i hb
    cases h
    exact .inl ⟨hb, rfl⟩
  · rename_i hb
    split at h
    · rename_i hc
      cases h
      exact .inr ⟨hb, hc.1, Option.isNone_iff_eq_none.mp hc.2, rfl⟩
    · cases h
theorem law_run (KX : K.In s1.heap) (hns : s1.heap.Ns mainGlobals mg) (hb : s1.heap.Ns builtinsNs mb) (hbb : ∀ x : Str, x ≠ "__name__" → mb x = bootBuiltins x) (hlim : s1.heap.NoLimit) (hg : s1.gens = #[])
    (hT : ∀ p ∈ cs, s1.heap.get? p.2 = some { cls := .none, data := .fields #[] }) (nT : ∀ p ∈ cs, K.lookup p.2 = none) (C : ∀ p ∈ cs, PySem.W.CodeHd s1.heap p.1 p.2)
    (hbm : ∃ (bm : Addr) (ob : Obj), mg "__builtins__" = some (.ref bm) ∧ bm ≠ builtinsNs ∧ s1.heap.get? bm = some ob ∧ ob.cls = .type "module" ∧ ob.dict = some builtinsNs ∧ ob.data = .plain)
    (ha : s1.heap.get? a = some { cls := .type "list", data := .seq vs.toArray }) (hi : IntsAre vs ns) (hl : ns.length ≤ sizeLine)
    (F : ∀ (base : Heap) (H : Hp), K.In base → base.Ns mainGlobals mg → (∀ p ∈ cs, TabB base mg p.1 p.2) → Env0 P w K mg base callerA [] s1 H → (∀ p ∈ cs, H p.2 = some (.tbl #[])) → SqL K H a (ns.map V.int) →
      codeAny (model P w) callerA (.call (.ref fa) ⟨[.ref a], []⟩) (CR (L2.CX P w) [] P w H s1 (fun v _ => v = .bl true) fun _ _ _ => False) s1) :
    codeAny (model P w) callerA (.call (.ref fa) ⟨[.ref a], []⟩) (fun r s' => r = .ok (.ret (.bool true)) ∧ OldK s1.heap s'.heap ∧ s'.os = s1.os ∧ AllBare s'.gens) s1 := by
  have rv := vals_ints hi
  have lenV := hi.length
  obtain ⟨tabs, etabs⟩ : ∃ tabs : List Addr, tabs = cs.map (·.2) := ⟨_, rfl⟩
  have inT : ∀ p ∈ cs, p.2 ∈ tabs := fun p hp => by rw [etabs]; exact List.mem_map_of_mem (f := (·.2)) hp
  have ofT : ∀ b ∈ tabs, ∃ p ∈ cs, p.2 = b := fun b h => by rw [etabs] at h; exact List.mem_map.mp h
  have isT : ∀ b ∈ tabs, s1.heap.get? b = some { cls := .none, data := .fields #[] } := fun b h => by
    obtain ⟨p, hp, rfl⟩ := ofT b h
    exact hT p hp
  have aT : a ∉ tabs := fun z => by
    have q := isT a z
    rw [ha] at q
    cases q
  obtain ⟨H, eH⟩ : ∃ H : Hp, H = startH K tabs a vs ns := ⟨_, rfl⟩
  have Hc : ∀ {b u}, H b = some u → (b ∈ tabs ∧ u = .tbl #[]) ∨ (b ∉ tabs ∧ b = a ∧ K.lookup a = none ∧ u = .frz { cls := .type "list", data := .seq vs.toArray } (.lst (ns.map V.int))) := fun {b u} h => startH_cases (by rw [← eH]; exact h)
  have Ht : ∀ p ∈ cs, H p.2 = some (.tbl #[]) := fun p hp => by rw [eH]; exact if_pos (inT p hp)
  -- what is not tracked
  have off : ∀ {b : Addr} {o : Obj}, s1.heap.get? b = some o → o.data ≠ .fields #[] → (∀ us n, o.data ≠ .seq us n) → H b = none := fun {b o} e h1 h2 => by
    cases q : H b with
    | none => rfl
    | some u =>
      rcases Hc q with ⟨z, _⟩ | ⟨_, z, _⟩
      · rw [isT b z] at e
        cases e
        exact absurd rfl h1
      · rw [z, ha] at e
        cases e
        exact absurd rfl (h2 _ _)
  have offD : ∀ {b : Addr} {m : Str → Option Value}, s1.heap.Ns b m → (hidT s1.heap H).Ns b m := fun {b m} ⟨o, es, ep, e, d, r⟩ => ⟨o, es, ep, hidT_get e (off e (fun z => by rw [d] at z; cases z) (fun us n z => by rw [d] at z; cases z)), d, r⟩
  have KB : K.In (hidT s1.heap H) := fun b o e => hidT_get (KX b o e) (by
    cases q : H b with
    | none => rfl
    | some u =>
      rcases Hc q with ⟨z, _⟩ | ⟨_, z, n, _⟩
      · obtain ⟨p, hp, rfl⟩ := ofT b z
        rw [nT p hp] at e
        cases e
      · rw [z, n] at e
        cases e)
  have S : SqL K H a (ns.map V.int) := by
    cases hk : K.lookup a with
    | some o =>
      have e := KX a o hk
      rw [ha] at e
      cases e
      exact .inr ⟨_, vs.toArray, _, hk, rfl, rfl, rfl, by rw [List.size_toArray, lenV]; exact hl, by simpa using rv⟩
    | none => exact .inl (.inr ⟨{ cls := .type "list", data := .seq vs.toArray }, by rw [eH]; unfold startH; rw [if_neg aT, if_pos ⟨rfl, by rw [hk]; rfl⟩]⟩)
  have HO : HOk P w H s1.heap := fun b u h => by
    rcases Hc h with ⟨z, rfl⟩ | ⟨_, rfl, _, rfl⟩
    · exact isT b z
    · exact ⟨ha, by rw [List.length_map]; exact hl, vs, _, rv, ha⟩
  have MD : L2.Mod K mg (hidT s1.heap H) := ⟨KB, offD hns, ⟨mb, offD hb, hbb⟩, let ⟨mc, h1, h2⟩ := hlim; ⟨mc, offD h1, h2⟩⟩
  have TB : ∀ p ∈ cs, TabB (hidT s1.heap H) mg p.1 p.2 := fun p hp => by
    have hTp := hT p hp
    refine ⟨?_, ?_, fun z => ?_⟩
    · obtain ⟨o, us, file, tf, flags, tg, inF, text, tt, e1, r1, r2, r3, r4⟩ := C p hp
      refine ⟨o, us, file, tf, flags, tg, inF, text, tt, hidT_get e1 (off e1 (fun z => ?_) fun us n z => ?_), r1, r2, r3, r4⟩
      · rw [r2] at z
        cases z
        simp at r3
      · rw [r2] at z
        cases z
    · obtain ⟨bm, ob, b1, b2, b3, b4, b5, b6⟩ := hbm
      refine ⟨bm, ob, b1, b2, fun q => ?_, fun q => ?_, hidT_get b3 (off b3 (fun z => by rw [b6] at z; cases z) fun us n z => by rw [b6] at z; cases z), b4, b5, b6⟩
      · obtain ⟨o, es, ep, e, hd, _⟩ := hns
        rw [q, e] at b3
        cases b3
        rw [hd] at b6
        cases b6
      · rw [q, hTp] at b3
        cases b3
        cases b6
    · obtain ⟨o, es, ep, e, hd, _⟩ := hns
      rw [z, hTp] at e
      cases e
      cases hd
  have E0_ : Env0 P w K mg (hidT s1.heap H) callerA [] s1 H := ⟨rfl, MD, fun b o e => of_hidT e, Nat.le_of_eq (hidT_size _ _), trivial, fun b hb => absurd (show b ∈ ([] : List Addr) from hb) (by simp), HO, .of_eq hg⟩
  refine codeAny_mono (F _ H KB (offD hns) TB E0_ Ht S) fun r s' h => ?_
  match r, h with
  | .error e, h =>
    obtain ⟨_, _, _, _, _, _, _, _, _, _, _, _, z⟩ := h
    exact z.elim
  | .ok .next, h => exact (show False from h).elim
  | .ok .brk, h => exact (show False from h).elim
  | .ok .cont, h => exact (show False from h).elim
  | .ok (.ret u), ⟨v, H', os, bare, un, hok', r', q⟩ =>
    have q' : v = .bl true := q
    subst q'
    obtain rfl : u = Value.bool true := r'
    have stay : ∀ b o, b ∉ tabs → s1.heap.get? b = some o → s'.heap.get? b = some o := fun b o nb e => by
      cases q : H b with
      | none => exact un.keep b o e q (fun z => absurd (show b ∈ ([] : List Addr) from z) (by simp)) (by simp)
      | some u =>
        rcases Hc q with ⟨z, _⟩ | ⟨_, _, _, rfl⟩
        · exact absurd z nb
        · obtain ⟨e1, _⟩ := HO b _ q
          obtain ⟨e2, _⟩ := hok' b _ (un.frzs b _ _ q)
          rw [e] at e1
          cases e1
          exact e2
    have grow : ∀ p ∈ cs, ∃ more : Array Value, s'.heap.get? p.2 = some { cls := .none, data := .fields more } := fun p hp => by
      obtain ⟨more, z⟩ := un.tbls p.2 #[] (Ht p hp)
      exact ⟨_, hok' p.2 _ z⟩
    refine ⟨rfl, ⟨fun b o e => ?_, fun b o e => ?_⟩, os, bare⟩
    · by_cases hb : b ∈ tabs
      · obtain ⟨p, hp, rfl⟩ := ofT b hb
        obtain ⟨more, hm⟩ := grow p hp
        rw [hT p hp] at e
        cases e
        exact .inr (.inl ⟨((C p hp).tab (hT p hp)).isCodeTable, rfl, #[], more, rfl, by rw [Array.empty_append]; exact hm⟩)
      · exact .inl (stay b o hb e)
    · by_cases hb : b ∈ tabs
      · obtain ⟨p, hp, rfl⟩ := ofT b hb
        obtain ⟨more, hm⟩ := grow p hp
        exact ⟨_, hm⟩
      · exact ⟨o, stay b o hb e⟩
end
/-- what is to be known of the law's def -/
def LawG (l : PySem.W.OpenLaw) (w : World) (K : PySem.W.Frag) (k n : Nat) (x : Str) (mg : Str → Option Value) (fa : Addr) (h : Heap) : Prop :=
  ∃ (fd : FuncData) (cs : List (Addr × Addr)) (sp : Sp), (∀ p ∈ cs, h.get? p.2 = some { cls := .none, data := .fields #[] }) ∧ (∀ p ∈ cs, K.lookup p.2 = none) ∧ (∀ p ∈ cs, PySem.W.CodeHd h p.1 p.2) ∧ (∀ (s : Shared) (u : Value), BindsTo s fd ⟨[u], []⟩ [(x, u)]) ∧
    (∀ (H : Hp) (a : Addr) (ns : List Int), ns.length ≤ n → (∀ z ∈ ns, Builtin.Int.intBits z ≤ 1048576) → (∀ p ∈ cs, H p.2 = some (.tbl #[])) → SqL K H a (ns.map V.int) → sp [.ref a] H (fun v _ => v = .bl true) fun _ _ _ => False) ∧
    ∀ base : Heap, K.In base → base.Ns mainGlobals mg → (∀ p ∈ cs, TabB base mg p.1 p.2) → ∀ (A : Around) (outer : List Env) (s : Shared) (H : Hp) (us : List Value) (vs : List V) (Q : VK) (E : XK), A.guards = some [] → Room k A → Env0 l.prog w K mg base A outer s H → BindsTo s fd ⟨us, []⟩ ([x].zip us) → Vals vs us → sp vs H Q E →
      codeAny (model l.prog w) A (.call (.ref fa) ⟨us, []⟩) (CR (L2.CX l.prog w) outer l.prog w H s Q E) s
theorem walk_G {l : PySem.W.OpenLaw} {n k : Nat} {q : Program} {loose : List Str} {XP : (Str → Option Value) → Heap → Prop} {YP : World → Heap → Prop} {d : DefRec} {x : Str}
    (hn : l.most = some n) (hn2 : n ≤ sizeLine) (hdf : d.params.defaults = []) (hr : Room k callerA)
    (F : ∀ (w : World) (mg : Str → Option Value) (fa : Addr) (h : Heap), YP w h → h.Ns mainGlobals mg → mg d.name = some (.ref fa) → ∃ K : PySem.W.Frag, K.In h ∧ LawG l w K k n x mg fa h) :
    PySem.W.WalkO q loose XP YP l.row.toRowW d [] (fun f vs => PySem.call f vs) := by
  refine Att.attach_callB hn hdf fun w s0 s1 mg mb fa o pm cd doc a vs ns G Y ho hd hcd hmg hobj hints hlen hbits hg => ?_
  obtain ⟨K, KX, fd, cs, sp, hT, nT, C, hb, hsp, hF⟩ := F w mg fa _ Y G.T.g hmg
  refine law_run KX G.T.g G.T.b G.T.builtins G.T.nolimit hg hT nT C G.T.bmain hobj hints (Nat.le_trans hlen hn2) fun base H b1 b2 b3 e0 hH hS => ?_
  exact hF base b1 b2 b3 callerA [] s1 H [.ref a] [.ref a] _ _ rfl hr e0 (hb s1 (.ref a)) (.cons rfl .nil) (hsp H a ns hlen hbits hH hS)
end Tv

/-! Txb: the head's facts of exception classes, of tables of lambdas -/
namespace Tv
open PySem PySem.Spec PyProof.Rows L2 LamX He PySem.W

abbrev FnY : Type := Option (Str × Str × Arguments × FuncBody × Scope × Addr × List Str × Addr)
def fnY (K : Frag) (p : Str × Option Str) : FnY := match K.lookup (fAd K p) with
  | some ⟨_, _, .func fd, _⟩ => some (fd.name, fd.qualname, fd.params, fd.body, fd.scope, fd.globals, fd.closure.map (·.1), fd.builtins)
  | _ => none
/-- an exception class of the text and its __init__ -/
structure XD where
  cls : Str
  qual : Str
  params : Arguments
  body : List Stmt
  scope : Scope
def XD.val (d : XD) : FnY := some ("__init__", d.qual, d.params, .stmts d.body, d.scope, mainGlobals, ["__class__"], builtinsNs)
def XD.at_ (d : XD) : Str × Option Str := (d.cls, some "__init__")
def clsB (K : Frag) (C : Addr) : Bool := match K.lookup C with
  | some ⟨.type "type", _, .cls cd, sl⟩ => (match cd.mro, sl.toList with
    | .ref C' :: bm, [_, _, _, _, some (.builtin n), _] => C' == C && (n == "ValueError.__new__" && (!cd.hasDel && (cd.hasDict && (PySem.HandSPX.refsVE bm && decide (alongIn K "__init__" bm = some (some (.builtin "ValueError.__init__")))))))
    | _, _ => false)
  | _ => false
def iniB (file : Str) (K : Frag) (C f : Addr) : Bool := match K.lookup f with
  | some ⟨_, _, .func fd, _⟩ => (match fd.closure, fd.code, fd.defaults with
    | [(_, cc)], .ref cda, .none => codeIn K fd.code fd.qualname && ((match K.lookup cc with
        | some ⟨_, _, .cell (some (.ref D)), _⟩ => D == C
        | _ => false) && (match K.lookup cda with
        | some ⟨_, _, .fields vs, _⟩ => (match (vs[2]? : Option Value) with
          | some (.str fl _) => fl == file
          | _ => false)
        | _ => false))
    | _, _, _ => false)
  | _ => false
def xB (file : Str) (K : Frag) (C f : Addr) : Bool := clsB K C && (iniB file K C f && (eqO (findIn K (.ref C) "__setattr__") (some (some (.builtin "object.__setattr__"))) && (decide (subIn K (.ref C) (.type "ValueError") = some true) && (decide (subIn K (.ref C) (.type "BaseException") = some true) && (decide (typeIn K (.ref C) = some (.type "type")) &&
  (keepIn K (.ref C) && (decide (mroIn K C (.ref C) = some true) && (eqO (findIn K (.ref C) "__init__") (some (some (.ref f))) && (decide (typeIn K (.ref f) = some (.type "function")) && decide (nsIn K cStatics "thirdparty.any" = some none))))))))))
theorem clsB_ok {K : Frag} {C : Addr} (q : clsB K C = true) : ∃ nm q N bs bm sn sub ab col dd k0 k1 k2 k3 k5, K.lookup C = some (excClassObj nm q C N bs bm true sn sub ab col dd k0 k1 k2 k3 k5 "ValueError.__new__") ∧ PySem.HandSPX.refsVE bm = true ∧ alongIn K "__init__" bm = some (some (.builtin "ValueError.__init__")) := by
  unfold clsB at q
  split at q
  · rename_i dd cd sl ho
    split at q
    · rename_i C' bm k0 k1 k2 k3 n k5 hm hs
      obtain ⟨q1, q⟩ := ba q
      obtain ⟨q2, q⟩ := ba q
      obtain ⟨q3, q⟩ := ba q
      obtain ⟨q4, q⟩ := ba q
      obtain ⟨q5, q6⟩ := ba q
      have e1 : C' = C := eq_of_beq q1
      have e2 : n = "ValueError.__new__" := eq_of_beq q2
      subst e1 e2
      obtain ⟨nm, bs, mro, ns, qn, hd, sn, sub, ab, col, del⟩ := cd
      dsimp only at hm q3 q4
      subst hm q4
      have e3 : del = false := by simpa using q3
      subst e3
      have hsl : sl = #[k0, k1, k2, k3, some (.builtin "ValueError.__new__"), k5] := Array.toList_inj.mp hs
      subst hsl
      exact ⟨nm, qn, ns, bs, bm, sn, sub, ab, col, dd, k0, k1, k2, k3, k5, ho, q5, of_decide_eq_true q6⟩
    · cases q
  · cases q
/-- all that Exc asks, from what is told -/
theorem exc_of {P : Program} {K : Frag} {mg : Str → Option Value} {T : Tb} {c : Nat} {d : XD} {fs : List Str} {file : Str} {m : Str} {j : Nat} {q0 q1 q2 q3 q4 q5 : Pos} {rest : List Stmt} (e : fnY K d.at_ = d.val) (b : xB file K (ga K d.cls) (ma K (ga K d.cls) "__init__") = true) (hT : T.cls c = ga K d.cls) (hfl : T.fl c = fs)
    (hmg : mg d.cls = some (.ref (ga K d.cls))) (hsup : mg "super" = none) (hfile : (P.main.file : Str) = file) (htop : (P.main.scope.names.lookup ("super" : Str)).isSome = false) (hbody : d.body = Tx.supSt m j q0 q1 q2 q3 q4 q5 :: rest) (SF : Tx.SupForm m j q0 q1 q2 q3 q4) (S : Tx.Sts fs rest) (hlen : fs.length ≤ 800)
    (nd : (("self" : Str) :: fs).Nodup) (hp : (d.params.posonlyargs ++ d.params.args).head?.map (·.arg) = some "self") (hsc : d.scope.names.lookup ("super" : Str) = some .globalImplicit ∧ d.scope.names.lookup ("__class__" : Str) = some .free ∧ d.scope.kind = .function ∧ d.scope.isCoroutine = false ∧ d.scope.isGenerator = false ∧ (∀ x ∈ d.scope.names, x.2 ≠ .cell) ∧ d.scope.names.lookup ("self" : Str) = some .local)
    (hloc : ∀ y ∈ fs, d.scope.names.lookup y = some .local ∧ (y == ("__debug__" : Str)) = false) (hno : ∀ y ∈ fs, findIn K (.ref (ga K d.cls)) y = some none)
    (hbind : ∀ (kV doc pm : Value) (an : Option Addr) (cdv ct : Value) (cc : Addr) (us : List Value), us.length = fs.length + 1 → bindArgs (ksFn "__init__" d.qual d.params d.body d.scope .none kV doc pm an cdv ct cc) ⟨us, []⟩ = pure ((("self" : Str) :: fs).zip us)) : Exc P K mg T c d.cls fs := by
  obtain ⟨b1, b⟩ := ba b
  obtain ⟨b2, b⟩ := ba b
  obtain ⟨b3, b⟩ := ba b
  obtain ⟨b4, b⟩ := ba b
  obtain ⟨b5, b⟩ := ba b
  obtain ⟨b6, b⟩ := ba b
  obtain ⟨b7, b⟩ := ba b
  obtain ⟨b8, b⟩ := ba b
  obtain ⟨b9, b⟩ := ba b
  obtain ⟨b10, b11⟩ := ba b
  have ef : fAd K d.at_ = ma K (ga K d.cls) "__init__" := rfl
  unfold fnY at e
  unfold iniB at b2
  rw [ef] at e
  cases q : K.lookup (ma K (ga K d.cls) "__init__") with
  | none =>
    rw [q] at e
    cases e
  | some o =>
    obtain ⟨oc, od, dt, osl⟩ := o
    rw [q] at e b2
    cases dt with
    | func fd =>
      obtain ⟨n1, n2, n3, n4, n5, n6, n7, n8, n9, n10, n11, n12, n13, n14, n15⟩ := fd
      have e2 : (some (n1, n2, n3, n4, n5, n6, n7.map (·.1), n15) : FnY) = some (("__init__" : Str), d.qual, d.params, FuncBody.stmts d.body, d.scope, mainGlobals, [("__class__" : Str)], builtinsNs) := e
      simp only [Option.some.injEq, Prod.mk.injEq] at e2
      obtain ⟨h1, h2, h3, h4, h5, h6, h7, h8⟩ := e2
      subst h1 h2 h3 h4 h5 h6 h8
      dsimp only at b2
      split at b2
      · rename_i nn cc cda
        have hnn : nn = ("__class__" : Str) := by
          have : ([nn] : List Str) = [("__class__" : Str)] := h7
          exact (List.cons.inj this).1
        subst hnn
        obtain ⟨c1, b2⟩ := ba b2
        obtain ⟨c2, c3⟩ := ba b2
        refine ⟨by rw [hT]; exact hmg, hsup, hfl, hlen, nd, ma K (ga K d.cls) "__init__", cc, m, j, q0, q1, q2, q3, q4, q5, rest, ksFn "__init__" d.qual d.params d.body d.scope .none n9 n10 n11 n12 (.ref cda) n14 cc, ⟨?_, ?_, ?_, ?_, ?_, ?_, ?_, ?_, ?_, ?_, ?_, ?_, htop⟩, SF, S, ?_, ?_, ?_⟩
        · rw [hT]; exact clsB_ok b1
        · rw [hT]; exact eqO_ok b3
        · rw [hT]; exact of_decide_eq_true b4
        · rw [hT]; exact of_decide_eq_true b5
        · rw [hT]; exact of_decide_eq_true b6
        · rw [hT]; exact b7
        · rw [hT]; exact of_decide_eq_true b8
        · rw [hT]; exact eqO_ok b9
        · exact of_decide_eq_true b10
        · exact of_decide_eq_true b11
        · refine ⟨oc, od, osl, d.qual, d.params, d.scope, n10, n11, n12, cda, n14, "__init__", .none, n9, by rw [hbody], q, c1, hp, hsc.1, hsc.2.1, hsc.2.2.1, hsc.2.2.2.1, hsc.2.2.2.2.1, hsc.2.2.2.2.2.1, hsc.2.2.2.2.2.2, ?_⟩
          split at c3
          · rename_i ccl cdd vs ccs hk
            split at c3
            · rename_i fl tk hv
              exact ⟨ccl, cdd, ccs, vs, fl, tk, hk, hv, by rw [eq_of_beq c3, hfile]; exact beq_self_eq_true _⟩
            · cases c3
          · cases c3
        · split at c2
          · rename_i cl cld D csl hk
            rw [hT]
            rw [eq_of_beq c2] at hk
            exact ⟨cl, cld, csl, hk⟩
          · cases c2
        · rw [hbody]
        · intro y hy
          rw [hT]
          exact ⟨(hloc y hy).1, (hloc y hy).2, hno y hy⟩
        · exact Binds.all fun us hl => hbind _ _ _ _ _ _ _ us (by rw [hl]; rfl)
      · cases b2
    | _ => cases e

/-! ### the Hook: as X, the heap's static table too, the exception classes' defs -/
def asY (g : Addr → Option Obj) (n : Nat) : List Addr := asD g n ++ [cStatics]
abbrev AlY : Type := AlX × List FnY
def obsY (n : Nat) (fa : List Fa) (fn : List DefD) (ts : List Tab) (tf : List Defn) (ex : Frag → Bool) (fx : List XD) (g : Addr → Option Obj) : AlY := ((obsT fa fn ts (frT g (asY g n)), ex (frT g (asY g n)) && tabsB g tf (frT g (asY g n))), fx.map fun d => fnY (frT g (asY g n)) d.at_)
def valY (fn : List DefD) (ts : List Tab) (fx : List XD) (w : World) : AlY := ((valT fn ts w, true), fx.map XD.val)
structure SaysY (fa : List Fa) (fn : List DefD) (ts : List Tab) (tf : List Defn) (ex : Frag → Bool) (fx : List XD) (w : World) (h : Heap) (K : Frag) : Prop where
  x : SaysX fa fn ts tf ex w h K
  y : fx.map (fun d => fnY K d.at_) = fx.map XD.val
theorem SaysY.y_at {fa : List Fa} {fn : List DefD} {ts : List Tab} {tf : List Defn} {ex : Frag → Bool} {fx : List XD} {w : World} {h : Heap} {K : Frag} (c : SaysY fa fn ts tf ex fx w h K) (i : Nat) {d : XD} (hd : fx[i]? = some d := by rfl) : fnY K d.at_ = d.val := by
  have e : (fx.map fun d => fnY K d.at_)[i]? = (fx.map XD.val)[i]? := by rw [c.y]
  rw [List.getElem?_map, List.getElem?_map, hd] at e
  exact Option.some.inj e
theorem saysY_of {n : Nat} {fa : List Fa} {fn : List DefD} {ts : List Tab} {tf : List Defn} {ex : Frag → Bool} {fx : List XD} {w : World} {h : Heap} (e : obsY n fa fn ts tf ex fx h.get? = valY fn ts fx w) : SaysY fa fn ts tf ex fx w h (frT h.get? (asY h.get? n)) := by
  have e1 : obsT fa fn ts (frT h.get? (asY h.get? n)) = valT fn ts w := congrArg (fun z : AlY => z.1.1) e
  have e2 : (ex (frT h.get? (asY h.get? n)) && tabsB h.get? tf (frT h.get? (asY h.get? n))) = true := congrArg (fun z : AlY => z.1.2) e
  have e3 : fx.map (fun d => fnY (frT h.get? (asY h.get? n)) d.at_) = fx.map XD.val := congrArg (fun z : AlY => z.2) e
  obtain ⟨h1, h2⟩ := ba e2
  have each : ∀ p ∈ tf, codeHdIn (frT h.get? (asY h.get? n)) (cT (frT h.get? (asY h.get? n)) p).1 (cT (frT h.get? (asY h.get? n)) p).2 = true ∧ ∃ o, h.get? (cT (frT h.get? (asY h.get? n)) p).2 = some o ∧ emptyTab o = true := fun p hp => by
    obtain ⟨h3, h4⟩ := ba (List.all_eq_true.mp h2 p hp)
    refine ⟨h3, ?_⟩
    cases q : h.get? (cT (frT h.get? (asY h.get? n)) p).2 with
    | none => rw [q] at h4; cases h4
    | some o => rw [q] at h4; exact ⟨o, rfl, h4⟩
  refine ⟨⟨e1, h1, fun p hp => (each p hp).1, fun p hp => ?_, fun p hp => ?_⟩, e3⟩
  · obtain ⟨_, o, q, z⟩ := each p hp
    exact frT_none q z
  · obtain ⟨_, o, q, z⟩ := each p hp
    rw [q, emptyTab_eq z]
def hookY (n : Nat) (fa : List Fa) (fn : List DefD) (ts : List Tab) (tf : List Defn) (ex : Frag → Bool) (fx : List XD) : Hook where
  α := AlY
  obs := fun s => obsY n fa fn ts tf ex fx s.heap.get?
  val := fun w => valY fn ts fx w
  says := fun w h => ∃ K : Frag, K.In h ∧ SaysY fa fn ts tf ex fx w h K
  of := fun _ _ e => ⟨_, frT_in, saysY_of e⟩
  keeps := fun _ _ _ ⟨K, hK, c⟩ k => ⟨K, Frag.In.keeps hK k, ⟨⟨c.x.t, c.x.more, c.x.hd, c.x.out, fun p hp => k _ _ (c.x.empty p hp)⟩, c.y⟩⟩
theorem obsY_eq {n : Nat} {fa : List Fa} {fn : List DefD} {ts : List Tab} {tf : List Defn} {ex : Frag → Bool} {fx : List XD} {g : Addr → Option Obj} {s : Shared} (h : ∀ a, g a = s.heap.get? a) : obsY n fa fn ts tf ex fx g = (hookY n fa fn ts tf ex fx).obs s := by
  have e : g = s.heap.get? := funext h
  rw [e] <;> rfl
end Tv

/-! Txc: further rules: in, is True, lists within lists, an __init__ that makes a lambda -/
namespace Tv
open PySem PySem.Spec PyProof.Rows L2 LamX

/-! ### in, is -/
def toF : D → Option V
  | .non => some .non
  | .bl b => some (.bl b)
  | .int i => some (.int i)
  | .str x => some (.str x)
  | _ => none
def toFs : List D → Option (List V)
  | [] => some []
  | d :: ds => (toF d).bind fun v => (toFs ds).map fun l => v :: l
def gIn (x y : D) (s : S) : R D := match y with
  | .lst ds => (match x.py, D.pys ds with
    | some p, some ps => if SeqAt.shaped p = true ∧ SeqAt.shaped (.list ps) = true then .ok (.bl (ps.any fun z => PyData.eqv z p)) s else .no
    | _, _ => .no)
  | .tup ds => (match toF x, toFs ds with
    | some v, some vs => .ok (.bl (vs.any fun y => eqV y v)) s
    | _, _ => .no)
  | _ => .no
def gNotIn (x y : D) (s : S) : R D := match y with
  | .lst ds => (match x.py, D.pys ds with
    | some p, some ps => if SeqAt.shaped p = true ∧ SeqAt.shaped (.list ps) = true then .ok (.bl (!ps.any fun z => PyData.eqv z p)) s else .no
    | _, _ => .no)
  | .tup ds => (match toF x, toFs ds with
    | some v, some vs => .ok (.bl (!vs.any fun y => eqV y v)) s
    | _, _ => .no)
  | _ => .no
def gIsB (x y : D) (s : S) : R D := match x, y with
  | .bl a, .bl b => .ok (.bl (decide (a = b))) s
  | _, _ => .no
def gIsNotB (x y : D) (s : S) : R D := match x, y with
  | .bl a, .bl b => .ok (.bl (!decide (a = b))) s
  | _, _ => .no
section
variable {X : Cx} {T : Tb} {W : WX}
theorem toF_rep {F : Fm} {H0 H : Hp} {cm : List Addr} {s : S} {v : V} {d : D} {u : V} (z : AB X.K T F H0 cm H s v d) (h : toF d = some u) : v = u ∧ flatV u = true := by
  cases d with
  | non => cases h; exact ⟨z.non, rfl⟩
  | bl b => cases h; exact ⟨z.bl, rfl⟩
  | int b => cases h; exact ⟨z.int, rfl⟩
  | str b => cases h; exact ⟨z.str, rfl⟩
  | _ => cases h
theorem toFs_rep {K : PySem.W.Frag} {cm : List Addr} {G : Hp} : ∀ {ds : List D} {xs us : List V}, Reps K T cm G xs ds → toFs ds = some us → xs = us ∧ us.all flatV = true
  | [], _, _, h, e => by cases h; cases e; exact ⟨rfl, rfl⟩
  | d :: ds, _, us, h, e => by
    cases h with
    | @cons v0 _ _ _ h1 h2 =>
      unfold toFs at e
      cases q1 : toF d with
      | none => rw [q1] at e; cases e
      | some u =>
        cases q2 : toFs ds with
        | none => rw [q1, q2] at e; cases e
        | some l =>
          rw [q1, q2] at e
          cases e
          obtain ⟨rfl, hl⟩ := toFs_rep h2 q2
          have k : v0 = u ∧ flatV u = true := by
            cases d with
            | non => cases q1; cases h1; exact ⟨rfl, rfl⟩
            | bl b => cases q1; cases h1; exact ⟨rfl, rfl⟩
            | int b => cases q1; cases h1; exact ⟨rfl, rfl⟩
            | str b => cases q1; cases h1; exact ⟨rfl, rfl⟩
            | _ => cases q1
          obtain ⟨rfl, hu⟩ := k
          exact ⟨rfl, by rw [List.all_cons, hu, hl]; rfl⟩
theorem o2_in : O2 X T (AR X.K T) (fun x y H Q => rInD X.K x y H Q ∨ rIn X.K false x y H Q) gIn := by
  intro F cm H s W x y dx dy Q r a b p
  unfold gIn at p
  split at p
  · split at p
    · rename_i e1 e2
      split at p
      · rename_i hs
        exact .inl ⟨_, _, a.dp e1, b.dp (d := .lst _) (by unfold D.py; rw [e2]; rfl), hs.1, hs.2, p.fin r (.bl _)⟩
      · exact p.elim
    · exact p.elim
  · split at p
    · rename_i e1 e2
      obtain ⟨rfl, f1⟩ := toF_rep a e1
      obtain ⟨c, xs, rfl, h1, _, h3⟩ := b.tup
      obtain ⟨rfl, f2⟩ := toFs_rep h3 e2
      exact .inr ⟨c, _, rfl, .inr h1, f1, f2, p.fin r (.bl _)⟩
    · exact p.elim
  · exact p.elim
theorem o2_notIn : O2 X T (AR X.K T) (fun x y H Q => rNotInD X.K x y H Q ∨ rIn X.K true x y H Q) gNotIn := by
  intro F cm H s W x y dx dy Q r a b p
  unfold gNotIn at p
  split at p
  · split at p
    · rename_i e1 e2
      split at p
      · rename_i hs
        exact .inl ⟨_, _, a.dp e1, b.dp (d := .lst _) (by unfold D.py; rw [e2]; rfl), hs.1, hs.2, p.fin r (.bl _)⟩
      · exact p.elim
    · exact p.elim
  · split at p
    · rename_i e1 e2
      obtain ⟨rfl, f1⟩ := toF_rep a e1
      obtain ⟨c, xs, rfl, h1, _, h3⟩ := b.tup
      obtain ⟨rfl, f2⟩ := toFs_rep h3 e2
      exact .inr ⟨c, _, rfl, .inr h1, f1, f2, p.fin r (.bl _)⟩
    · exact p.elim
  · exact p.elim
theorem o2_isB : O2 X T (AR X.K T) rIsB gIsB := by
  intro F cm H s W x y dx dy Q r a b p
  unfold gIsB at p
  split at p
  · cases a.bl
    cases b.bl
    exact ⟨_, _, rfl, rfl, p.fin r (.bl _)⟩
  · exact p.elim
variable {a b : Expr} {ma mb : EM} {pos : Pos}
theorem q_in (hu : X.A.units + 65 < cLine) (ha : QB X T W a ma) (hb : QB X T W b mb) (hm : behindInMarks .In b = false := by rfl) : QE X T W (.Compare a [.In] [b] pos) (mOp gIn ma mb) := q_cmp ((op_inD hu).or op_in_seq) o2_in ha hb hm
theorem qt_in (hu : X.A.units + 65 < cLine) (ha : QB X T W a ma) (hb : QB X T W b mb) (hm : behindInMarks .In b = false := by rfl) : QT X T W (.Compare a [.In] [b] pos) (mTest (mOp gIn ma mb)) := qt_cmp ((op_inD hu).or op_in_seq) o2_in ha hb hm
theorem q_notIn (hu : X.A.units + 65 < cLine) (ha : QB X T W a ma) (hb : QB X T W b mb) (hm : behindInMarks .NotIn b = false := by rfl) : QE X T W (.Compare a [.NotIn] [b] pos) (mOp gNotIn ma mb) := q_cmp ((op_notInD hu).or op_notIn_seq) o2_notIn ha hb hm
theorem qt_notIn (hu : X.A.units + 65 < cLine) (ha : QB X T W a ma) (hb : QB X T W b mb) (hm : behindInMarks .NotIn b = false := by rfl) : QT X T W (.Compare a [.NotIn] [b] pos) (mTest (mOp gNotIn ma mb)) := qt_cmp ((op_notInD hu).or op_notIn_seq) o2_notIn ha hb hm
theorem q_isB (ha : QB X T W a ma) (hb : QB X T W b mb) : QE X T W (.Compare a [.Is] [b] pos) (mOp gIsB ma mb) := q_cmp op_isBl o2_isB ha hb (nomark _)
theorem qt_isB (ha : QB X T W a ma) (hb : QB X T W b mb) : QT X T W (.Compare a [.Is] [b] pos) (mTest (mOp gIsB ma mb)) := qt_cmp op_isBl o2_isB ha hb (nomark _)
theorem o2_isNotB {X : Cx} {T : Tb} : O2 X T (AR X.K T) rNotB gIsNotB := by
  intro F cm H s W x y dx dy Q r a b p
  unfold gIsNotB at p
  split at p
  · cases a.bl
    cases b.bl
    exact ⟨_, _, rfl, rfl, p.fin r (.bl _)⟩
  · exact p.elim
theorem q_isNotB {X : Cx} {T : Tb} {W : WX} {a b : Expr} {ma mb : EM} {pos : Pos} (ha : QB X T W a ma) (hb : QB X T W b mb) : QE X T W (.Compare a [.IsNot] [b] pos) (mOp gIsNotB ma mb) := q_cmp op_notBl o2_isNotB ha hb (nomark _)
theorem qt_isNotB {X : Cx} {T : Tb} {W : WX} {a b : Expr} {ma mb : EM} {pos : Pos} (ha : QB X T W a ma) (hb : QB X T W b mb) : QT X T W (.Compare a [.IsNot] [b] pos) (mTest (mOp gIsNotB ma mb)) := qt_cmp op_notBl o2_isNotB ha hb (nomark _)
end

/-! ### a new list as a cell; base[i] = e; tuple(cell) -/
def mNewC (m : EM) : EM := fun ρ s => (m ρ s).bind fun d s1 => .ok (.cell s1.length) (s1 ++ [d])
def gTupleC (ds : List D) (s : S) : R D := match ds with
  | [.cell n] => (match s[n]? with
    | some (.lst l) => .ok (.tup l) s
    | _ => .no)
  | _ => gTuple ds s
def setCell (b k d : D) (ρ : List SD) (s : S) : SR := match b, k with
  | .cell n, .int k => (match s[n]? with
    | some (.lst ds) => (match ixN ds.length k with
      | some j => .nx ρ (s.set n (.lst (ds.set j d)))
      | none => .no)
    | _ => .no)
  | _, _ => .no
def mSetIxE (mb mi m : EM) : SM := mE m fun d ρ s => mE mb (fun b ρ s => mE mi (fun k ρ s => setCell b k d ρ s) ρ s) ρ s
section
variable {X : Cx} {T : Tb} {W : WX} {e ix bs : Expr} {m mi mb : EM} {pos p p1 : Pos}
theorem q_newC (h : QF X T W e m) : QE X T W e (mNewC m) := PE.conv h fun σ H Q h => by
  obtain ⟨B, Z, cm, ρ, s, r, p⟩ := h
  refine ⟨B, Z, cm, ρ, s, r, ?_⟩
  unfold mNewC at p
  cases hm : m ρ s with
  | ok d s1 =>
    rw [hm] at p
    refine fun b H' cm' ex r' z => ?_
    have z0 := z
    obtain ⟨q, rfl, r2⟩ := Rel.newCell (F := ⟨B, Z, σ, ρ⟩) r z
    obtain ⟨p0, ds, xs, e1, _, hn, _⟩ := z0
    cases e1
    have len : cm'.length = s1.length := r'.cells.len
    refine p (.ref q) H' (cm' ++ [q]) ⟨ex.pre.trans ⟨[q], rfl⟩, fun a o e n => ⟨(ex.keep a o e n).1, fun z => ?_⟩, ex.there⟩ r2 (.cell (by rw [← len]; simp))
    rcases List.mem_append.mp z with z | z
    · exact (ex.keep a o e n).2 z
    · rw [List.mem_singleton.mp z, hn] at e
      cases e
  | er c ds s1 =>
    rw [hm] at p
    exact p
  | no =>
    rw [hm] at p
    exact p
theorem oc_tupleC : OC X T (AR X.K T) (fun xs H Q => ∃ p ys, xs = [.ref p] ∧ ((SqL X.K H p ys ∧ ∀ l, H l = none → Q (.ref l) (upd H l (.tup ys))) ∨ (SqT X.K H p ys ∧ Q (.ref p) H))) gTupleC := by
  intro F cm H s W xs ds Q r a p
  unfold gTupleC at p
  split at p
  · rename_i n
    split at p
    · rename_i l e0
      cases a with
      | @cons v _ _ _ a t =>
        cases t
        have hc : ∃ c, v = .ref c ∧ cm[n]? = some c := by
          rcases a with z | ⟨c, rfl, o, q⟩
          · cases z with
            | cell h => exact ⟨_, rfl, h⟩
          · exact q.elim
        obtain ⟨c, rfl, hc⟩ := hc
        obtain ⟨ys, h1, h3⟩ := r.cells.at_ n c _ hc e0
        exact ⟨c, ys, rfl, .inl ⟨.of h1, fun q hq => p.fin_new r (sub_upd hq) (rep_tup r hq h3)⟩⟩
    · exact p.elim
  · exact oc_tuple F cm H s W xs _ Q r a p
theorem q_tupleC (hg : Gl X "tuple") (hm : X.mg "tuple" = none) (ha : QB X T W e m) (hs : starEach [e] X.env = (false, eval e X.env) :: starEach [] X.env := by rfl) (hpl : (backTo pos (starEach [] X.env)).any (·.1) = false := by rfl) : QE X T W (.Call (.Name "tuple" p) [e] [] pos) (mCall gTupleC (mCons m mNil)) :=
  q_callTy call_tuple_of oc_tupleC up_AR hg hm PyProof.Rows.boot_tuple (qb_cons ha qb_nil hs) (by decide) (by decide) hs hpl
theorem q_setIxE (he : QE X T W e m) (hb : QE X T W bs mb) (hi : QE X T W ix mi)
    (ha : ∀ v, assign (.Subscript bs ix p1) X.env v = (do
      let ov ← holding [v] (eval bs X.env)
      let iv ← holding [v, ov] (eval ix X.env)
      standAt p1
      holding [v, ov, iv] (setItem ov iv v)
      release [v, ov, iv] []) := by intro _; rfl)
    (hs : swapsWithSole [.Subscript bs ix p1] e pos.line X.env = pure false := by rfl) (hw : swappedStores [.Subscript bs ix p1] e X.env = pure none := by rfl)
    (h1 : (assignEach [.Subscript bs ix p1] X.env).map (·.2) = [assign (.Subscript bs ix p1) X.env] := by rfl) : QSt X T W (.Assign [.Subscript bs ix p1] e pos) (mSetIxE mb mi m) := by
  have h0 := ps_asg (pos := pos) he (pg_sub hb hi set_list ha) hs hw h1
  refine h0.conv fun Ed σ H h => ?_
  refine mE_of (A := AR X.K T) h fun B Z cm0 s0 cm H' ρ d s v pre r0 r z p => ?_
  refine ⟨B, Z, cm, ρ, s, r, tE_of (fun b s' eb bv H2 cm2 ex2 r2 z2 => ?_) (fun c es s' e cls dx H2 cm2 ex r' z2 => ?_) (fun e => ?_)⟩
  · unfold mE at p
    rw [eb] at p
    dsimp only at p
    refine ⟨B, Z, cm2, ρ, s', r2, tE_of (fun k s3 ek kv H3 cm3 ex3 r3 z3 => ?_) (fun c es s3 e cls dx H3 cm3 ex3 r3 z3 => ?_) (fun e => ?_)⟩
    · rw [ek] at p
      dsimp only at p
      unfold setCell at p
      split at p
      · rename_i n k'
        split at p
        · rename_i ds es
          split at p
          · rename_i j ej
            cases z3
            have z2' : Rep X.K T cm2 (GV cm2 Z (Ow σ ρ) H2) bv (.cell n) := z2
            cases z2' with
            | @cell a _ hc =>
              have hc3 := ex3.pre.get hc
              obtain ⟨xs, k1, k2⟩ := r3.cells.at_ n a _ hc3 es
              have z' : Rep X.K T cm3 (GV cm3 Z (Ow σ ρ) H3) v d := Rep.mono (ex2.pre.trans ex3.pre) ((ex2.trans ex3).sub) _ _ z
              exact ⟨a, xs, k', j, rfl, rfl, k1, by rw [k2.len]; exact ej, p σ _ cm3 (ex2.pre.trans ex3.pre) (r3.mutCell hc3 ⟨xs.set j v, upd_same, Reps.set z' j k2⟩)⟩
          · exact p.elim
        · exact p.elim
      · exact p.elim
    · rw [e] at p
      exact p cls dx σ H3 cm3 (ex2.pre.trans ex3.pre) r3 z3
    · rw [e] at p
      exact p
  · unfold mE at p
    rw [e] at p
    exact p cls dx σ H2 cm2 ex.pre r' z2
  · unfold mE at p
    rw [e] at p
    exact p
end

/-! ### an __init__ whose code is to be known -/
section
variable {P : Program} {w : World} {K : PySem.W.Frag} {mg : Str → Option Value} {base : Heap} {T : Tb} {x qual : Str} {params : Arguments} {body : List Stmt} {scope : Scope} {f : Addr} {fd : FuncData}
theorem initC_ok {N ps : List Str} {p0 : Str} {k c nf : Nat} {m : SM} (F : FunD K x qual params body scope [] [] f fd) (S : FnScope N (p0 :: ps) scope) (hN : ps.length + 1 ≤ N.length) (hnf : (T.fl c).length = nf)
    (hbody : ∀ (cdv : Value) (A : Around) (outer : List Env) (s : Shared) (H : Hp) (E : XK) (a : Addr), cdv = .ref (codeF K f) → Room k (A.deeper (envOfC qual scope s.heap.objs.size f cdv)) →
      QSs (cxOf (L2.CX P w) P w K mg base N qual scope f cdv A outer s H E) (T.w (some a)) (fun cls d _ H => E cls d H) body m)
 : FnOk P w K mg base (L2.CX P w) (k + 1) f fd (p0 :: ps) (spI K T c ps.length (mInit c nf (N.length - (ps.length + 1)) m)) := by
  obtain ⟨oc, od, dV, kV, doc, pm, an, cdv, ct, osl, rfl, lk, hcd, _, _⟩ := F.ex
  refine fn_of lk hcd S (fun vs H Q E h => h.1) fun A outer s H vs Q E hr h => ?_
  obtain ⟨hl, a, rest, cm, Z, ds, s0, dx, rfl, hx, hc, hz, cl, r, p⟩ := h
  have hl' : rest.length = ps.length := by simpa using hl
  refine ⟨tS K (T.w (some a)) (fun cls d _ H => E cls d H) m, hbody cdv A outer s H E a (codeF_of lk hcd) hr, ?_⟩
  refine ⟨offX a cm H, Z, cm, _, s0, Rel.startI hx hc hz cl r (by omega), ?_⟩
  rw [hl']
  unfold mInit at p
  -- the instance stays: nobody frees; told by the frame where it is owned, else by the exception's road
  cases e0 : m (SD.own (.sf c []) :: (ds.map .v ++ List.replicate (N.length - (ps.length + 1)) .un)) s0 with
  | nx ρ' s' =>
    rw [e0] at p
    dsimp only at p
    split at p
    · rename_i c' fs e1
      split at p
      · rename_i hcf
        obtain ⟨rfl, hlen⟩ := hcf
        refine fun σ' H' cm' pr r' => ?_
        obtain ⟨b, h1, ⟨h2, dx', gs, h3, h4, h5⟩, h6, h7, h8⟩ := r'.own 0 _ e1
        have eb : b = a := by
          have : some a = some b := h2
          exact (Option.some.inj this).symm
        subst eb
        refine p H' cm' (r'.extX pr) (r'.cells.fewer fun a z => z.elim).bt ?_
        refine .ins (hid_some.mpr ⟨fun z => ?_, h3⟩) ?_ (Reps.bt (Reps.mono (.refl _) (sub_shrink fun a z => z.elim) _ _ h5))
        · rcases z with z | z | z
          · exact h6 z
          · exact h7 z
          · exact z
        · rw [h4, hlen, ← hnf]
          exact List.take_length
      · exact p.elim
    · exact p.elim
  | rt d s' => rw [e0] at p; exact p.elim
  | er k es ρ' s' =>
    rw [e0] at p
    exact fun cls dx' σ' H' cm' pr r' z => p cls dx' H' cm' (r'.extX pr) (r'.cells.fewer fun a z => z.elim).bt (z.mono (.refl _) (sub_shrink fun a z => z.elim) fun _ _ h => h).bt
  | bk ρ' s' => rw [e0] at p; exact p.elim
  | ct ρ' s' => rw [e0] at p; exact p.elim
  | no => rw [e0] at p; exact p.elim
end
end Tv

/-! Txd: the law's start with tables; short words for the printer -/
namespace Tv
open PySem PySem.Spec PyProof.Rows L2 LamX

theorem hu65 {A : Around} {k : Nat} (hr : Room k A) : A.units + 65 < cLine := by have := hr.un; omega
theorem hu64H {A : Around} {k : Nat} (hr : L2H.RoomH k A) : A.units + 64 < cLine := by have := hr.un; omega
theorem hu65H {A : Around} {k : Nat} (hr : L2H.RoomH k A) : A.units + 65 < cLine := by have := hr.un; omega
theorem inj_of {α : Type} {f : Nat → α} : ∀ {l : List Nat}, (l.map f).Nodup → ∀ {c d : Nat}, c ∈ l → d ∈ l → f c = f d → c = d
  | [], _, _, _, h, _, _ => by cases h
  | a :: l, nd, c, d, hc, hd, e => by
    rw [List.map_cons, List.nodup_cons] at nd
    have nm : ∀ x, x ∈ l → f a ≠ f x := fun x hx z => nd.1 (List.mem_map.mpr ⟨x, hx, z.symm⟩)
    rcases List.mem_cons.mp hc with h1 | h1 <;> rcases List.mem_cons.mp hd with h2 | h2
    · rw [h1, h2]
    · rw [h1] at e
      exact absurd e (nm d h2)
    · rw [h2] at e
      exact absurd e.symm (nm c h1)
    · exact inj_of nd.2 h1 h2 e
theorem LamA.le {P : Program} {w : World} {K : PySem.W.Frag} {mg : Str → Option Value} {base : Heap} {T : Tb} {k j l n : Nat} {F : FM} (h : LamA P w K mg base T k l n F) (e : k ≤ j) : LamA P w K mg base T j l n F := by
  obtain ⟨params, body, scope, N, ps, m, h1, h2, h3, h4, h5, h6, h7⟩ := h.ex
  exact ⟨params, body, scope, N, ps, m, h1, h2, h3, h4, h5, h6, fun f cdv A outer s H E hr => h7 f cdv A outer s H E (hr.mono (by omega))⟩
def tabsS (n : Nat) : S := (List.range n).map D.tab
theorem lawG_sp {K : PySem.W.Frag} {T : Tb} {F : FM} {cs : List (Addr × Addr)} (nd : (cs.map (·.2)).Nodup) (hta : ∀ (i : Nat) (p : Addr × Addr), cs[i]? = some p → p.2 = T.ta i)
    (hl : ∀ ns : List Int, ns.length ≤ 63 → (∀ z ∈ ns, Builtin.Int.intBits z ≤ 1048576) → ∃ s, F [scr ns] (tabsS cs.length) = .ok (.bl true) s) (H : Hp) (a : Addr) (ns : List Int) (h1 : ns.length ≤ 63) (h2 : ∀ z ∈ ns, Builtin.Int.intBits z ≤ 1048576)
    (hH : ∀ p ∈ cs, H p.2 = some (.tbl #[])) (hS : SqL K H a (ns.map V.int)) : spD K T 1 F [.ref a] H (fun v _ => v = .bl true) fun _ _ _ => False := by
  obtain ⟨s, e⟩ := hl ns h1 h2
  have hc : ∀ b, b ∈ cs.map (·.2) → H b = some (.tbl #[]) := fun b hb => by
    obtain ⟨p, hp, rfl⟩ := List.mem_map.mp hb
    exact hH p hp
  refine ⟨rfl, cs.map (·.2), fun _ => False, [scr ns], tabsS cs.length, ⟨?_, nd, fun n b d e1 e2 => ?_, fun b hb => ?_, fun _ h => h.elim, fun d hd => ?_⟩, ?_, ?_⟩
  · unfold tabsS
    rw [List.length_map, List.length_map, List.length_range]
  · have hn : n < cs.length := by
      have := (List.getElem?_eq_some_iff.mp e1).1
      rwa [List.length_map] at this
    have e3 : d = .tab n := by
      unfold tabsS at e2
      rw [List.getElem?_map, List.getElem?_range hn] at e2
      exact (Option.some.inj e2).symm
    subst e3
    rw [List.getElem?_map] at e1
    cases q : cs[n]? with
    | none => rw [q] at e1; cases e1
    | some p =>
      rw [q] at e1
      obtain rfl : p.2 = b := Option.some.inj e1
      exact ⟨hta n p q, #[], hH p (List.mem_of_getElem? q), True.intro, fun pos cv h => by
        have z : codeAmong pos [] = some cv := h
        simp [codeAmong] at z⟩
  · rw [hc b hb]
    intro z
    cases z
  · unfold tabsS at hd
    obtain ⟨n, _, rfl⟩ := List.mem_map.mp hd
    rfl
  · refine .cons (.frz ?_ (reps_ints ns)) .nil
    have vis : ∀ u, H a = some u → (∀ ps, u ≠ .tbl ps) → GV (cs.map (·.2)) (fun _ => False) O0 H a = some u := fun u h hu => hid_some.mpr ⟨fun z => by
      rcases z with z | z | z
      · rw [hc a z] at h
        cases h
        exact hu _ rfl
      · exact z
      · exact z, h⟩
    rcases hS with (h | ⟨o, h⟩) | h
    · exact .inl (.inl (vis _ h fun ps z => by cases z))
    · exact .inl (.inr ⟨o, vis _ h fun ps z => by cases z⟩)
    · exact .inr h
  · rw [e]
    intro v H' cm' _ _ r
    cases r
    rfl
end Tv

/-! Tye: the evaluator's steps, the later constructs -/
namespace Tv
open PySem PySem.Spec PyProof.Rows L2
section
variable {ρ : List SD} {s : S} {a b c m mb mi : EM} {lm : LM} {x y d : D} {i k n l : Nat}
theorem v_raise : mRaise i lm ρ s = match lm ρ s with
  | .ok ds s' => .er i ds ρ s'
  | .er k es s' => .er k es ρ s'
  | .no => .no := rfl
theorem v_told {es : List Nat} {nm : Nat → Str} : mTold es nm k n m ρ s = match s[k]? with
  | some (.tab n') => if n' = n then (match m ρ s with
    | .ok d s1 => .ok (.tup [.str "told", d]) s1
    | .er c ds s1 => if c ∈ es then .ok (.tup (.str (nm c) :: ds)) s1 else .no
    | .no => .no) else .no
  | _ => .no := rfl
theorem v_lamV : mLamV k n l ρ s = match s[k]? with
  | some (.tab n') => if n' = n then .ok (.lam l) s else .no
  | _ => .no := rfl
theorem v_callL {tbl tl : List (Nat × FM)} : mCallL i tbl tl lm ρ s = match (ρ[i]? : Option SD) with
  | some (.v (.fn j)) => (match tbl.lookup j with
    | some F => (match lm ρ s with | .ok xs s1 => F xs s1 | .er c ds s => .er c ds s | .no => .no)
    | none => .no)
  | some (.v (.lam j)) => (match tl.lookup j with
    | some F => (match lm ρ s with | .ok xs s1 => F xs s1 | .er c ds s => .er c ds s | .no => .no)
    | none => .no)
  | _ => .no := by
  unfold mCallL
  cases (ρ[i]? : Option SD) with
  | none => rfl
  | some y =>
    cases y with
    | v d =>
      cases d <;> (try rfl)
      · rename_i j
        dsimp only
        cases tbl.lookup j <;> (try rfl)
        dsimp only
        cases lm ρ s <;> rfl
      · rename_i j
        dsimp only
        cases tl.lookup j <;> (try rfl)
        dsimp only
        cases lm ρ s <;> rfl
    | _ => rfl
theorem v_newC : mNewC m ρ s = match m ρ s with
  | .ok d s1 => .ok (.cell s1.length) (s1 ++ [d])
  | .er c ds s => .er c ds s
  | .no => .no := by
  unfold mNewC
  cases m ρ s <;> rfl
theorem v_setIxE : mSetIxE mb mi m ρ s = match m ρ s with
  | .ok d s1 => (match mb ρ s1 with
    | .ok b s2 => (match mi ρ s2 with
      | .ok k s3 => setCell b k d ρ s3
      | .er c ds s => .er c ds ρ s
      | .no => .no)
    | .er c ds s => .er c ds ρ s
    | .no => .no)
  | .er c ds s => .er c ds ρ s
  | .no => .no := by
  unfold mSetIxE mE
  cases m ρ s <;> (try rfl)
  all_goals (
    rename_i d s1
    dsimp only
    cases mb ρ s1 <;> (try rfl)
    rename_i b s2
    dsimp only
    cases mi ρ s2 <;> rfl)
theorem w_setCell {v : Int} : setCell (.cell n) (.int v) d ρ s = match s[n]? with
  | some (.lst ds) => (match ixN ds.length v with
    | some j => .nx ρ (s.set n (.lst (ds.set j d)))
    | none => .no)
  | _ => .no := rfl
theorem w_tupC : gTupleC [.cell n] s = match s[n]? with
  | some (.lst l) => .ok (.tup l) s
  | _ => .no := rfl
theorem w_isNotB {p q : Bool} : gIsNotB (.bl p) (.bl q) s = .ok (.bl (!decide (p = q))) s := rfl
theorem w_ix30 {a b c : D} : gIx (.tup [a, b, c]) (.int 0) s = .ok a s := rfl
theorem w_ix31 {a b c : D} : gIx (.tup [a, b, c]) (.int 1) s = .ok b s := rfl
theorem w_ix32 {a b c : D} : gIx (.tup [a, b, c]) (.int 2) s = .ok c s := rfl
theorem w_ixL30 {a b c : D} : gIx (.lst [a, b, c]) (.int 0) s = .ok a s := rfl
theorem w_ixL31 {a b c : D} : gIx (.lst [a, b, c]) (.int 1) s = .ok b s := rfl
theorem w_ixL32 {a b c : D} : gIx (.lst [a, b, c]) (.int 2) s = .ok c s := rfl
theorem w_ixL20 {a b : D} : gIx (.lst [a, b]) (.int 0) s = .ok a s := rfl
theorem w_ixL21 {a b : D} : gIx (.lst [a, b]) (.int 1) s = .ok b s := rfl
end
end Tv

/-! Tyf: range with a step -/
namespace Tv
open PySem PySem.Spec PyProof.Rows L2
section
variable {X : Cx} {T : Tb} {W : WX} {tg e e2 e3 : Expr} {lm : LM} {p pos : Pos}
def rngC (i c : Int) (n : Nat) : List D := (List.range n).map fun k => .int (i + (k : Nat) * c)
def rgN (i j c : Int) : Nat := (Builtin.Range.rangeSize i j c).toNat
def rgOk (i j c : Int) : Bool := decide (c ≠ 0) && (decide (c.natAbs < 1073741824) && (Builtin.Range.small i j c && decide (Builtin.Range.rangeSize i j c = (rgN i j c : Nat))))
def mRng3 (lm : LM) : LM := fun ρ s => (lm ρ s).bind fun xs s1 => match xs with
  | [.int i, .int j, .int c] => if rgOk i j c = true then .ok (rngC i c (rgN i j c)) s1 else .no
  | _ => .no
theorem aw_rngC {K : PySem.W.Frag} {T : Tb} {F : Fm} {cm : List Addr} {H H0 : Hp} {s : S} {i c : Int} {n : Nat} : AW K T F H0 cm H s (Itc i c n) (rngC i c n) :=
  ⟨_, _, by rw [show (rngC i c n).length = n by unfold rngC; simp]; exact walk_rangeC, fun _ _ => trivial, fun k H1 x H2 hk sub y => by
    obtain ⟨rfl, rfl⟩ := y
    refine ⟨Sub.refl _, .int (i + (k : Nat) * c), ?_, .int _⟩
    have hk' : k < n := by unfold rngC at hk; simpa using hk
    unfold rngC
    simp [hk']⟩
theorem ints3 {K : PySem.W.Frag} {T : Tb} {cm : List Addr} {G : Hp} {xs : List V} {i j c : Int} (h : Reps K T cm G xs [.int i, .int j, .int c]) : xs = [.int i, .int j, .int c] := by
  cases h with
  | cons a b =>
    cases a
    rw [ints2 b]
theorem q_iRng3 (hg : Gl X "range") (hm : X.mg "range" = none) (ha : QS X T W 3 [e, e2, e3] lm) (hs : starEach [e, e2, e3] X.env = (false, eval e X.env) :: starEach [e2, e3] X.env := by rfl) (hpl : (backTo pos (starEach [e2, e3] X.env)).any (·.1) = false := by rfl) : QI X T W tg (.Call (.Name "range" p) [e, e2, e3] [] pos) (mRng3 lm) := PI.conv (pi_range3 hg hm ha hs hpl) fun σ H R h => by
  refine h.bind (ALn X.K T 3) up_AW fun B Z cm ρ x H1 ⟨cm1, dx, s1, e1, r1, a1, p1⟩ => ?_
  dsimp only at p1
  split at p1
  · split at p1
    · rename_i hj
      unfold rgOk at hj
      rw [Bool.and_eq_true, Bool.and_eq_true, Bool.and_eq_true] at hj
      obtain ⟨h1, h2, h3, h4⟩ := hj
      exact ⟨_, _, _, _, ints3 a1.1, ⟨of_decide_eq_true h1, of_decide_eq_true h2, h3, of_decide_eq_true h4⟩, p1.fin r1 aw_rngC⟩
    · exact p1.elim
  · exact p1.elim
end
section
variable {ρ : List SD} {s : S} {lm : LM}
theorem v_rng3 : mRng3 lm ρ s = match lm ρ s with
  | .ok xs s1 => (match xs with
    | [.int i, .int j, .int c] => if rgOk i j c = true then .ok (rngC i c (rgN i j c)) s1 else .no
    | _ => .no)
  | .er c ds s => .er c ds s
  | .no => .no := by
  unfold mRng3
  cases lm ρ s <;> rfl
end
end Tv

/-! Tyg: the Hook again, its addresses found with less work for the kernel; the run's equation in two parts -/
namespace Tv
open PySem PySem.Spec PyProof.Rows L2 LamX He PySem.W
def addZ {R : Type} : List Addr → Nat → List Addr → (Nat → List Addr → R) → R
  | [], m, acc, k => k m acc
  | r :: rs, m, acc, k => HandSHeadRun.frNat r fun r => match Nat.beq (Nat.mod (Nat.div m (Nat.pow 2 r)) 2) 1 with
    | true => addZ rs m acc k
    | false => HandSHeadRun.frNat (Nat.add m (Nat.pow 2 r)) fun m => addZ rs m (r :: acc) k
def lvZ {R : Type} (g : Addr → Option Obj) : List Addr → Nat → List Addr → (Nat → List Addr → R) → R
  | [], m, acc, k => k m acc
  | a :: fr, m, acc, k => match g a with
    | some o => addZ (refsD o) m acc fun m acc => lvZ g fr m acc k
    | none => lvZ g fr m acc k
def bfsZ (g : Addr → Option Obj) : Nat → List Addr → Nat → List Addr → List Addr
  | 0, _, _, al => al
  | n + 1, fr, m, al => lvZ g fr m [] fun m nw => bfsZ g n nw m (al ++ nw)
def asZ (g : Addr → Option Obj) (n : Nat) : List Addr := bfsZ g n [mainGlobals] (Nat.add (Nat.pow 2 mainGlobals) (Nat.pow 2 cStatics)) [mainGlobals, cStatics]
def obsZ (n : Nat) (fa : List Fa) (fn : List DefD) (ts : List Tab) (tf : List Defn) (ex : Frag → Bool) (fx : List XD) (g : Addr → Option Obj) : AlY := ((obsT fa fn ts (frT g (asZ g n)), ex (frT g (asZ g n)) && tabsB g tf (frT g (asZ g n))), fx.map fun d => fnY (frT g (asZ g n)) d.at_)
theorem saysZ_of {n : Nat} {fa : List Fa} {fn : List DefD} {ts : List Tab} {tf : List Defn} {ex : Frag → Bool} {fx : List XD} {w : World} {h : Heap} (e : obsZ n fa fn ts tf ex fx h.get? = valY fn ts fx w) : SaysY fa fn ts tf ex fx w h (frT h.get? (asZ h.get? n)) := by
  unfold obsZ at e
  generalize asZ h.get? n = as at *
  have e1 : obsT fa fn ts (frT h.get? as) = valT fn ts w := congrArg (fun z : AlY => z.1.1) e
  have e2 : (ex (frT h.get? as) && tabsB h.get? tf (frT h.get? as)) = true := congrArg (fun z : AlY => z.1.2) e
  have e3 : fx.map (fun d => fnY (frT h.get? as) d.at_) = fx.map XD.val := congrArg (fun z : AlY => z.2) e
  obtain ⟨h1, h2⟩ := ba e2
  have each : ∀ p ∈ tf, codeHdIn (frT h.get? as) (cT (frT h.get? as) p).1 (cT (frT h.get? as) p).2 = true ∧ ∃ o, h.get? (cT (frT h.get? as) p).2 = some o ∧ emptyTab o = true := fun p hp => by
    obtain ⟨h3, h4⟩ := ba (List.all_eq_true.mp h2 p hp)
    refine ⟨h3, ?_⟩
    cases q : h.get? (cT (frT h.get? as) p).2 with
    | none => rw [q] at h4; cases h4
    | some o => rw [q] at h4; exact ⟨o, rfl, h4⟩
  refine ⟨⟨e1, h1, fun p hp => (each p hp).1, fun p hp => ?_, fun p hp => ?_⟩, e3⟩
  · obtain ⟨_, o, q, z⟩ := each p hp
    exact frT_none q z
  · obtain ⟨_, o, q, z⟩ := each p hp
    rw [q, emptyTab_eq z]
def hookZ (n : Nat) (fa : List Fa) (fn : List DefD) (ts : List Tab) (tf : List Defn) (ex : Frag → Bool) (fx : List XD) : Hook where
  α := AlY
  obs := fun s => obsZ n fa fn ts tf ex fx s.heap.get?
  val := fun w => valY fn ts fx w
  says := fun w h => ∃ K : Frag, K.In h ∧ SaysY fa fn ts tf ex fx w h K
  of := fun _ _ e => ⟨_, frT_in, saysZ_of e⟩
  keeps := fun _ _ _ ⟨K, hK, c⟩ k => ⟨K, Frag.In.keeps hK k, ⟨⟨c.x.t, c.x.more, c.x.hd, c.x.out, fun p hp => k _ _ (c.x.empty p hp)⟩, c.y⟩⟩
theorem obsZ_eq {n : Nat} {fa : List Fa} {fn : List DefD} {ts : List Tab} {tf : List Defn} {ex : Frag → Bool} {fx : List XD} {g : Addr → Option Obj} {s : Shared} (h : ∀ a, g a = s.heap.get? a) : obsZ n fa fn ts tf ex fx g = (hookZ n fa fn ts tf ex fx).obs s := by
  have e : g = s.heap.get? := funext h
  rw [e] <;> rfl
/-- two looks at one end -/
theorem map_two {α β γ : Type} {x : Option α} {f : α → β} {g : α → γ} {a : β} {b : γ} (h1 : x.map f = some a) (h2 : x.map g = some b) : x.map (fun s => (f s, g s)) = some (a, b) := by
  cases x with
  | none => cases h1
  | some s =>
    cases h1
    cases h2
    rfl
theorem map_three {α β γ δ : Type} {x : Option α} {f : α → β} {g : α → γ} {e : α → δ} {a : β} {b : γ} {c : δ} (h1 : x.map (fun s => (f s, g s)) = some (a, b)) (h2 : x.map e = some c) : x.map (fun s => (f s, g s, e s)) = some (a, b, c) := by
  cases x with
  | none => cases h1
  | some s =>
    cases h1
    cases h2
    rfl
/-- the run's two looks, each by itself -/
def RunA (r : OpenRow) (q : Program) (M : Nat) (loose : List Str) (w : World) : Prop :=
  ∀ os : OsState, (HandSHeadRun.endF (HandSHeadRun.stepQ (HandSHeadRun.denQ HandSHeadRun.tabQ) r.prog w) M r.prog w os).map (fun s => (HandSHeadRun.looksF r.prog (boot_heap w.params) s.abs, HandSHeadRun.seenQ q loose (importedModules r.prog.main.body) (fun s => xlAt q [] s && recOk r.toRowW.records s) s.abs)) = some (true, openGood q loose)
def RunB (r : OpenRow) (H : Hook) (ob : SharedT → H.α) (M : Nat) (w : World) : Prop :=
  ∀ os : OsState, (HandSHeadRun.endF (HandSHeadRun.stepQ (HandSHeadRun.denQ HandSHeadRun.tabQ) r.prog w) M r.prog w os).map ob = some (H.val w)
theorem run_two {r : OpenRow} {q : Program} {H : Hook} {ob : SharedT → H.α} {M : Nat} {loose : List Str} {w : World} (a : RunA r q M loose w) (b : RunB r H ob M w) : HandSHeadRun.RunEq r q H ob M loose w := fun os => map_three (a os) (b os)
end Tv

namespace K05
open PySem PySem.Spec PyProof.Rows L2 Tv
def top (i : Nat) : Stmt := PySem.Challenge.pw_tintbridge_k05_whole_maps.main.body.getD i (.Pass ⟨0, 0, 0, 0⟩)
abbrev cs : List Nat := [0, 1]
abbrev es : List Nat := [2, 3, 4, 5, 6, 7, 8, 9, 10, 11, 12, 13, 14, 15]
def nm : Nat → Str := fun c => match c with
  | 2 => "BadPart"
  | 3 => "BadNumber"
  | 4 => "Unknown"
  | 5 => "BadPoint"
  | 6 => "BadBytes"
  | 7 => "BadGroup"
  | 8 => "BadPicture"
  | 9 => "BadChange"
  | 10 => "TooMany"
  | 11 => "BadText"
  | 12 => "BadLine"
  | 13 => "NotTurned"
  | 14 => "BadClaim"
  | 15 => "NothingDone"
  | _ => ""
def fuel_common : List SD → S → Nat := fun ρ _ => match (ρ[1]? : Option SD) with | some (.v (.int j)) => j.natAbs + 1 | _ => 1
def b__law_refusal : SM := (mSeq (mSet 1 (mLst (mCons (mC (.str "BadPart")) (mCons (mC (.str "BadNumber")) (mCons (mC (.str "Unknown")) (mCons (mC (.str "BadPoint")) (mCons (mC (.str "BadBytes")) (mCons (mC (.str "BadGroup")) (mCons (mC (.str "BadPicture")) (mCons (mC (.str "BadChange")) (mCons (mC (.str "TooMany")) (mCons (mC (.str "BadText")) (mCons (mC (.str "BadLine")) (mCons (mC (.str "NotTurned")) (mCons (mC (.str "BadClaim")) (mCons (mC (.str "NothingDone")) mNil))))))))))))))))
    (mSeq (mSet 2 (mLst (mCons (gIsX (kXc es 2) (mVar 0)) (mCons (gIsX (kXc es 3) (mVar 0)) (mCons (gIsX (kXc es 4) (mVar 0)) (mCons (gIsX (kXc es 5) (mVar 0)) (mCons (gIsX (kXc es 6) (mVar 0)) (mCons (gIsX (kXc es 7) (mVar 0)) (mCons (gIsX (kXc es 8) (mVar 0)) (mCons (gIsX (kXc es 9) (mVar 0)) (mCons (gIsX (kXc es 10) (mVar 0)) (mCons (gIsX (kXc es 11) (mVar 0)) (mCons (gIsX (kXc es 12) (mVar 0)) (mCons (gIsX (kXc es 13) (mVar 0)) (mCons (gIsX (kXc es 14) (mVar 0)) (mCons (gIsX (kXc es 15) (mVar 0)) mNil))))))))))))))))
    (mSeq (mIfS (mOr (mTest (mOp gNe (mBm "list" gCntB (mVar 2) (mCons (mC (.bl true)) mNil)) (mC (.int 1)))) (mNot (mTest (gIsX (kXv es) (mVar 0))))) (mRet (mTup (mCons (mC (.str "other")) mNil))) mNext)
    (mSeq (mSet 3 (mOp gIx (mVar 1) (mBm "list" gIndex (mVar 2) (mCons (mC (.bl true)) mNil))))
    (mSeq (mIfS (mTest (mOp gEq (mVar 3) (mC (.str "BadPart")))) (mRet (mTup (mCons (mVar 3) (mCons (mFldX [(2, 0)] (mVar 0)) (mCons (mFldX [(2, 1), (5, 0), (6, 0), (7, 0), (8, 0), (9, 0)] (mVar 0)) mNil))))) mNext)
    (mSeq (mIfS (mTest (mOp gEq (mVar 3) (mC (.str "BadNumber")))) (mRet (mTup (mCons (mVar 3) (mCons (mFldX [(3, 0)] (mVar 0)) mNil)))) mNext)
    (mSeq (mIfS (mTest (mOp gEq (mVar 3) (mC (.str "Unknown")))) (mRet (mTup (mCons (mVar 3) (mCons (mFldX [(4, 0)] (mVar 0)) mNil)))) mNext)
    (mSeq (mIfS (mTest (mOp gEq (mVar 3) (mC (.str "TooMany")))) (mRet (mTup (mCons (mVar 3) (mCons (mFldX [(10, 0)] (mVar 0)) mNil)))) mNext)
    (mSeq (mIfS (mTest (mOp gIn (mVar 3) (mTup (mCons (mC (.str "BadText")) (mCons (mC (.str "BadLine")) mNil))))) (mRet (mTup (mCons (mVar 3) (mCons (mFldX [(11, 0), (12, 0)] (mVar 0)) mNil)))) mNext)
    (mSeq (mIfS (mTest (mOp gIn (mVar 3) (mTup (mCons (mC (.str "NotTurned")) (mCons (mC (.str "BadClaim")) (mCons (mC (.str "NothingDone")) mNil)))))) (mRet (mTup (mCons (mVar 3) mNil))) mNext)
    (mRet (mTup (mCons (mVar 3) (mCons (mFldX [(2, 1), (5, 0), (6, 0), (7, 0), (8, 0), (9, 0)] (mVar 0)) mNil))))))))))))))
def F__law_refusal : FM := mFun 3 b__law_refusal
def b_is_row : SM := (mRet (mAndV (gIsi (kTy cs "tuple") (mVar 0)) (mOp gEq (mCall gLen (mCons (mVar 0) mNil)) (mVar 1))))
def F_is_row : FM := mFun 0 b_is_row
def t_common_1 : TM := (mTest (mOp gGt (mVar 1) (mC (.int 0))))
def l_common_1 : SM := (mPar [0, 1] [false, false] (mCons (mVar 1) (mCons (mOp gMod (mVar 0) (mVar 1)) mNil)))
def b_common : SM := (mSeq (mPar [0, 1] [false, false] (mCons (mCall gAbs (mCons (mVar 0) mNil)) (mCons (mCall gAbs (mCons (mVar 1) mNil)) mNil)))
    (mSeq (mWhile (fuel_common) t_common_1 l_common_1)
    (mRet (mVar 0))))
def F_common : FM := mFun 0 b_common
def b_is_whole : SM := (mRet (mAndV (gIsi (kTy cs "int") (mVar 0)) (mNotV (gIsi (kTy cs "bool") (mVar 0)))))
def F_is_whole : FM := mFun 0 b_is_whole
def b_is_fraction : SM := (mSeq (mIfS (mOr (mNot (mTest (mCallF F_is_row (mCons (mVar 0) (mCons (mC (.int 2)) mNil))))) (mOr (mNot (mTest (mCallF F_is_whole (mCons (mOp gIx (mVar 0) (mC (.int 0))) mNil)))) (mNot (mTest (mCallF F_is_whole (mCons (mOp gIx (mVar 0) (mC (.int 1))) mNil)))))) (mRet (mC (.bl false))) mNext)
    (mRet (mAndV (mOp gGe (mOp gIx (mVar 0) (mC (.int 1))) (mC (.int 1))) (mOp gEq (mCallF F_common (mCons (mOp gIx (mVar 0) (mC (.int 0))) (mCons (mOp gIx (mVar 0) (mC (.int 1))) mNil))) (mC (.int 1))))))
def F_is_fraction : FM := mFun 0 b_is_fraction
def b_is_small : SM := (mRet (mAndV (mCallF F_is_fraction (mCons (mVar 0) mNil)) (mAndV (mOp gLe (mCall gAbs (mCons (mOp gIx (mVar 0) (mC (.int 0))) mNil)) (mC (.int 10000))) (mOp gLe (mOp gIx (mVar 0) (mC (.int 1))) (mC (.int 10000))))))
def F_is_small : FM := mFun 0 b_is_small
def e_is_line_1 : EM := (mCallF F_is_small (mCons (mVar 2) mNil))
def b_is_line : SM := (mRet (mAndV (mCallF F_is_row (mCons (mVar 0) (mCons (mC (.int 3)) mNil))) (mCall gAll (mCons (mComp [2] (mSeqI (mVar 0)) (.nm 2) mYes e_is_line_1) mNil))))
def F_is_line : FM := mFun 1 b_is_line
def lm_0 : EM := (mCallF F_is_small (mCons (mVar 0) mNil))
def L_0 : FM := fun ds s => lm_0 (ds.map .v ++ List.replicate 0 .un) s
def tbl_first_wrong : List (Nat × FM) := [(0, F_is_line)]
def tll_first_wrong : List (Nat × FM) := [(0, L_0)]
def l_first_wrong_1 : SM := (mIfS (mNot (mTest (mCallL 3 tbl_first_wrong tll_first_wrong (mCons (mVar 5) (mCons (mSlice gSliceA (mVar 0) mNoPart (mPart (mVar 4))) mNil))))) (mRet (mVar 4)) mNext)
def b_first_wrong : SM := (mSeq (mIfS (mOr (mNot (mTest (gIsi (kTy cs "tuple") (mVar 0)))) (mNot (mTest (mChain gLe gLe (mVar 1) (mCall gLen (mCons (mVar 0) mNil)) (mVar 2))))) (mRet (mUn gNeg (mC (.int 1)))) mNext)
    (mSeq (mFor (mEnumI (mCons (mVar 0) mNil)) (.tp (.cons (.nm 4) (.cons (.nm 5) .nil))) l_first_wrong_1)
    (mRet (mC .non))))
def F_first_wrong : FM := mFun 2 b_first_wrong
def b_place_told : SM := (mRet (mIf (mTest (mOp gEq (mVar 0) (mUn gNeg (mC (.int 1))))) (mC .non) (mVar 0)))
def F_place_told : FM := mFun 0 b_place_told
def b_require_part : SM := (mIfS (mTest (mOp gIsNot (mVar 1) (mC .non))) (mRaise 2 (mCons (mVar 0) (mCons (mCallF F_place_told (mCons (mVar 1) mNil)) mNil))) mNext)
def F_require_part : FM := mFun 0 b_require_part
def b_Map_init : SM := (mSeq (mDrop (mCallF F_require_part (mCons (mC (.str "rows")) (mCons (mCallF F_first_wrong (mCons (mVar 1) (mCons (mC (.int 3)) (mCons (mC (.int 3)) (mCons (mC (.fn 0)) mNil))))) mNil))))
    (mSeq (mSet 3 (mLamV 1 1 0))
    (mSeq (mDrop (mCallF F_require_part (mCons (mC (.str "added")) (mCons (mCallF F_first_wrong (mCons (mVar 2) (mCons (mC (.int 3)) (mCons (mC (.int 3)) (mCons (mVar 3) mNil))))) mNil))))
    (mSeq (mSetF 0 0 (mVar 1))
    (mSetF 0 1 (mVar 2))))))
def F_Map_init : FM := mInit 0 2 1 b_Map_init
def t__law_alike_1 (F : FM) : TM := (mNot (mTest (mCallF F (mCons (mOp gIx (mVar 0) (mVar 2)) (mCons (mOp gIx (mVar 1) (mVar 2)) mNil)))))
def b__law_alike (F : FM) : SM := (mSeq (mIfS (mTest (gIsi (kTy2 cs "tuple" "list") (mVar 1))) (mSeq (mIfS (mOr (mNot (mTest (gIsi (kTy2 cs "tuple" "list") (mVar 0)))) (mTest (mOp gNe (gIsi (kTy cs "list") (mVar 0)) (gIsi (kTy cs "list") (mVar 1))))) (mRet (mC (.bl false))) mNext)
    (mSeq (mIfS (mTest (mOp gNe (mCall gLen (mCons (mVar 0) mNil)) (mCall gLen (mCons (mVar 1) mNil)))) (mRet (mC (.bl false))) mNext)
    (mRet (mOp gEq (mComp [2] (mRng1 (mCons (mCall gLen (mCons (mVar 1) mNil)) mNil)) (.nm 2) (t__law_alike_1 F) (mVar 2)) (mLst mNil))))) mNext)
    (mSeq (mIfS (mOr (mTest (mOp gIs (mVar 1) (mC .non))) (mTest (gIsi (kTy cs "str") (mVar 1)))) (mRet (mAndV (mOp gEq (mVar 0) (mVar 1)) (mOp gEq (gIsi (kTy cs "str") (mVar 0)) (gIsi (kTy cs "str") (mVar 1))))) mNext)
    (mRet (mAndV (gIsi (kTy cs "int") (mVar 0)) (mAndV (mOp gEq (gIsi (kTy cs "bool") (mVar 0)) (gIsi (kTy cs "bool") (mVar 1))) (mOp gEq (mVar 0) (mVar 1)))))))
def F__law_alike : Nat → FM
  | 0 => fun _ _ => .no
  | n + 1 => mFun 1 (b__law_alike (F__law_alike n))
def l__law_gcd_1 : SM := (mSeq (mIfS (mTest (mOp gEq (mVar 1) (mC (.int 0)))) mBrk mNext)
    (mPar [0, 1] [false, false] (mCons (mVar 1) (mCons (mOp gMod (mCall gInt (mCons (mVar 0) mNil)) (mVar 1)) mNil))))
def b__law_gcd : SM := (mSeq (mPar [0, 1] [false, false] (mCons (mCall gAbs (mCons (mVar 0) mNil)) (mCons (mCall gAbs (mCons (mVar 1) mNil)) mNil)))
    (mSeq (mFor (mRng1 (mCons (mC (.int 400)) mNil)) (.nm 2) l__law_gcd_1)
    (mRet (mVar 0))))
def F__law_gcd : FM := mFun 1 b__law_gcd
def b__law_frac : SM := (mSeq (mIfS (mTest (mOp gLt (mVar 1) (mC (.int 0)))) (mPar [0, 1] [false, false] (mCons (mOp gSub (mC (.int 0)) (mVar 0)) (mCons (mOp gSub (mC (.int 0)) (mVar 1)) mNil))) mNext)
    (mSeq (mSet 2 (mCallF F__law_gcd (mCons (mCall gAbs (mCons (mVar 0) mNil)) (mCons (mVar 1) mNil))))
    (mRet (mTup (mCons (mOp gDiv (mVar 0) (mVar 2)) (mCons (mOp gDiv (mVar 1) (mVar 2)) mNil))))))
def F__law_frac : FM := mFun 1 b__law_frac
def b__law_taken : SM := (mSeq (mIfS (mTest (mOp gGt (mOp gIx (mVar 0) (mC (.int 3))) (mC (.int 0)))) (mSeq (mSet 2 (mOp gMod (mCall gInt (mCons (mOp gIx (mVar 0) (mC (.int 3))) mNil)) (mVar 1)))
    (mSeq (mSetIx 0 (mC (.int 3)) (mOp gDiv (mOp gIx (mVar 0) (mC (.int 3))) (mVar 1)))
    (mRet (mVar 2)))) mNext)
    (mSeq (mSetIx 0 (mC (.int 1)) (mOp gAddA (mOp gIx (mVar 0) (mC (.int 1))) (mC (.int 1))))
    (mSeq (mIfS (mTest (mOp gGt (mOp gIx (mVar 0) (mC (.int 1))) (mCall gLen (mCons (mOp gIx (mVar 0) (mC (.int 0))) mNil)))) (mSeq (mSetIx 0 (mC (.int 2)) (mOp gMod (mCall gInt (mCons (mOp gAddA (mOp gMul (mOp gIx (mVar 0) (mC (.int 2))) (mC (.int 48271))) (mC (.int 11))) mNil)) (mC (.int 2147483647))))
    (mRet (mOp gMod (mCall gInt (mCons (mOp gDiv (mOp gIx (mVar 0) (mC (.int 2))) (mC (.int 7))) mNil)) (mVar 1)))) mNext)
    (mSeq (mSet 3 (mOp gIx (mOp gIx (mVar 0) (mC (.int 0))) (mOp gSub (mOp gIx (mVar 0) (mC (.int 1))) (mC (.int 1)))))
    (mSeq (mSetIx 0 (mC (.int 2)) (mOp gMod (mCall gInt (mCons (mOp gAddA (mOp gAddA (mOp gMul (mOp gIx (mVar 0) (mC (.int 2))) (mC (.int 48271))) (mVar 3)) (mC (.int 11))) mNil)) (mC (.int 2147483647))))
    (mSeq (mIfS (mTest (mOp gGe (mVar 3) (mOp gPow (mC (.int 10)) (mC (.int 18))))) (mSeq (mSetIx 0 (mC (.int 3)) (mOp gDiv (mVar 3) (mVar 1)))
    (mRet (mOp gMod (mCall gInt (mCons (mVar 3) mNil)) (mVar 1)))) mNext)
    (mRet (mOp gMod (mCall gInt (mCons (mOp gAddA (mOp gMul (mOp gMod (mCall gInt (mCons (mVar 3) mNil)) (mC (.int 1000003))) (mC (.int 31))) (mOp gDiv (mOp gIx (mVar 0) (mC (.int 2))) (mC (.int 11)))) mNil)) (mVar 1)))))))))
def F__law_taken : FM := mFun 2 b__law_taken
def b__law_pick : SM := (mRet (mOp gIx (mVar 1) (mCallF F__law_taken (mCons (mVar 0) (mCons (mCall gLen (mCons (mVar 1) mNil)) mNil)))))
def F__law_pick : FM := mFun 0 b__law_pick
def b__law_level : SM := (mSeq (mSet 1 (mOp gAddA (mC (.int 1)) (mCallF F__law_taken (mCons (mVar 0) (mCons (mCallF F__law_pick (mCons (mVar 0) (mCons (mLst (mCons (mC (.int 1)) (mCons (mC (.int 4)) (mCons (mC (.int 30)) mNil)))) mNil))) mNil)))))
    (mRet (mCallF F__law_pick (mCons (mVar 0) (mCons (mLst (mCons (mTup (mCons (mC (.int 0)) (mCons (mC (.int 1)) mNil))) (mCons (mTup (mCons (mC (.int 255)) (mCons (mC (.int 1)) mNil))) (mCons (mCallF F__law_frac (mCons (mCallF F__law_taken (mCons (mVar 0) (mCons (mOp gAddA (mOp gMul (mC (.int 255)) (mVar 1)) (mC (.int 1))) mNil))) (mCons (mVar 1) mNil))) (mCons (mCallF F__law_frac (mCons (mCallF F__law_taken (mCons (mVar 0) (mCons (mOp gAddA (mOp gMul (mC (.int 255)) (mVar 1)) (mC (.int 1))) mNil))) (mCons (mVar 1) mNil))) mNil))))) mNil)))))
def F__law_level : FM := mFun 1 b__law_level
def b__law_small : SM := (mRet (mCallF F__law_frac (mCons (mOp gSub (mCallF F__law_taken (mCons (mVar 0) (mCons (mCallF F__law_pick (mCons (mVar 0) (mCons (mLst (mCons (mC (.int 3)) (mCons (mC (.int 9)) (mCons (mC (.int 2001)) mNil)))) mNil))) mNil))) (mCallF F__law_pick (mCons (mVar 0) (mCons (mLst (mCons (mC (.int 0)) (mCons (mC (.int 1)) (mCons (mC (.int 4)) (mCons (mC (.int 1000)) mNil))))) mNil)))) (mCons (mOp gAddA (mC (.int 1)) (mCallF F__law_taken (mCons (mVar 0) (mCons (mCallF F__law_pick (mCons (mVar 0) (mCons (mLst (mCons (mC (.int 1)) (mCons (mC (.int 3)) (mCons (mC (.int 50)) mNil)))) mNil))) mNil)))) mNil))))
def F__law_small : FM := mFun 0 b__law_small
def e__law_colour_1 : EM := (mCallF F__law_pick (mCons (mVar 0) (mCons (mLst (mCons (mTup (mCons (mC (.int 0)) (mCons (mC (.int 1)) mNil))) (mCons (mCallF F__law_small (mCons (mVar 0) mNil)) (mCons (mCallF F__law_level (mCons (mVar 0) mNil)) mNil)))) mNil)))
def b__law_colour : SM := (mRet (mCall gTuple (mCons (mComp [1] (mRng1 (mCons (mC (.int 3)) mNil)) (.nm 1) mYes e__law_colour_1) mNil)))
def F__law_colour : FM := mFun 1 b__law_colour
def b__law_add : SM := (mRet (mCallF F__law_frac (mCons (mOp gAddA (mOp gMul (mOp gIx (mVar 0) (mC (.int 0))) (mOp gIx (mVar 1) (mC (.int 1)))) (mOp gMul (mOp gIx (mVar 1) (mC (.int 0))) (mOp gIx (mVar 0) (mC (.int 1))))) (mCons (mOp gMul (mOp gIx (mVar 0) (mC (.int 1))) (mOp gIx (mVar 1) (mC (.int 1)))) mNil))))
def F__law_add : FM := mFun 0 b__law_add
def b__law_mul : SM := (mRet (mCallF F__law_frac (mCons (mOp gMul (mOp gIx (mVar 0) (mC (.int 0))) (mOp gIx (mVar 1) (mC (.int 0)))) (mCons (mOp gMul (mOp gIx (mVar 0) (mC (.int 1))) (mOp gIx (mVar 1) (mC (.int 1)))) mNil))))
def F__law_mul : FM := mFun 0 b__law_mul
def b__law_sub : SM := (mRet (mCallF F__law_frac (mCons (mOp gSub (mOp gMul (mOp gIx (mVar 0) (mC (.int 0))) (mOp gIx (mVar 1) (mC (.int 1)))) (mOp gMul (mOp gIx (mVar 1) (mC (.int 0))) (mOp gIx (mVar 0) (mC (.int 1))))) (mCons (mOp gMul (mOp gIx (mVar 0) (mC (.int 1))) (mOp gIx (mVar 1) (mC (.int 1)))) mNil))))
def F__law_sub : FM := mFun 0 b__law_sub
def l__law_det_1 : SM := (mSeq (mSet 1 (mCallF F__law_add (mCons (mVar 1) (mCons (mCallF F__law_mul (mCons (mOp gIx (mOp gIx (mVar 0) (mC (.int 0))) (mVar 2)) (mCons (mCallF F__law_mul (mCons (mOp gIx (mOp gIx (mVar 0) (mC (.int 1))) (mVar 3)) (mCons (mOp gIx (mOp gIx (mVar 0) (mC (.int 2))) (mVar 4)) mNil))) mNil))) mNil))))
    (mSet 1 (mCallF F__law_sub (mCons (mVar 1) (mCons (mCallF F__law_mul (mCons (mOp gIx (mOp gIx (mVar 0) (mC (.int 0))) (mVar 4)) (mCons (mCallF F__law_mul (mCons (mOp gIx (mOp gIx (mVar 0) (mC (.int 1))) (mVar 3)) (mCons (mOp gIx (mOp gIx (mVar 0) (mC (.int 2))) (mVar 2)) mNil))) mNil))) mNil)))))
def b__law_det : SM := (mSeq (mSet 1 (mTup (mCons (mC (.int 0)) (mCons (mC (.int 1)) mNil))))
    (mSeq (mFor (mSeqI (mLst (mCons (mTup (mCons (mC (.int 0)) (mCons (mC (.int 1)) (mCons (mC (.int 2)) mNil)))) (mCons (mTup (mCons (mC (.int 1)) (mCons (mC (.int 2)) (mCons (mC (.int 0)) mNil)))) (mCons (mTup (mCons (mC (.int 2)) (mCons (mC (.int 0)) (mCons (mC (.int 1)) mNil)))) mNil))))) (.tp (.cons (.nm 2) (.cons (.nm 3) (.cons (.nm 4) .nil)))) l__law_det_1)
    (mRet (mVar 1))))
def F__law_det : FM := mFun 4 b__law_det
def l__law_sum_1 : SM := (mSet 1 (mCallF F__law_add (mCons (mVar 1) (mCons (mVar 2) mNil))))
def b__law_sum : SM := (mSeq (mSet 1 (mTup (mCons (mC (.int 0)) (mCons (mC (.int 1)) mNil))))
    (mSeq (mFor (mSeqI (mVar 0)) (.nm 2) l__law_sum_1)
    (mRet (mVar 1))))
def F__law_sum : FM := mFun 2 b__law_sum
def e__law_dot_1 : EM := (mCallF F__law_mul (mCons (mOp gIx (mVar 0) (mVar 2)) (mCons (mOp gIx (mVar 1) (mVar 2)) mNil)))
def b__law_dot : SM := (mRet (mCallF F__law_sum (mCons (mComp [2] (mRng1 (mCons (mCall gLen (mCons (mVar 0) mNil)) mNil)) (.nm 2) mYes e__law_dot_1) mNil)))
def F__law_dot : FM := mFun 1 b__law_dot
def t__law_is_frac_1 : TM := (mOr (mNot (mTest (gIsi (kTy cs "int") (mVar 1)))) (mTest (gIsi (kTy cs "bool") (mVar 1))))
def b__law_is_frac : SM := (mSeq (mIfS (mOr (mNot (mTest (gIsi (kTy cs "tuple") (mVar 0)))) (mOr (mTest (mOp gNe (mCall gLen (mCons (mVar 0) mNil)) (mC (.int 2)))) (mTest (mOp gNe (mComp [1] (mSeqI (mVar 0)) (.nm 1) t__law_is_frac_1 (mVar 1)) (mLst mNil))))) (mRet (mC (.bl false))) mNext)
    (mRet (mAndV (mOp gGe (mOp gIx (mVar 0) (mC (.int 1))) (mC (.int 1))) (mOp gEq (mCallF F__law_gcd (mCons (mCall gAbs (mCons (mOp gIx (mVar 0) (mC (.int 0))) mNil)) (mCons (mOp gIx (mVar 0) (mC (.int 1))) mNil))) (mC (.int 1))))))
def F__law_is_frac : FM := mFun 1 b__law_is_frac
def e__law_map_1 : EM := (mCallF F__law_small (mCons (mVar 0) mNil))
def e__law_map_2 : EM := (mCall gTuple (mCons (mComp [4] (mRng1 (mCons (mC (.int 3)) mNil)) (.nm 4) mYes e__law_map_1) mNil))
def e__law_map_3 : EM := (mCallF F__law_mul (mCons (mVar 5) (mCons (mCallF F__law_pick (mCons (mVar 0) (mCons (mLst (mCons (mTup (mCons (mC (.int 2)) (mCons (mC (.int 1)) mNil))) (mCons (mTup (mCons (mC (.int 0)) (mCons (mC (.int 1)) mNil))) (mCons (mTup (mCons (mUn gNeg (mC (.int 1))) (mCons (mC (.int 2)) mNil))) mNil)))) mNil))) mNil)))
def e__law_map_4 : EM := (mCallF F__law_mul (mCons (mVar 5) (mCons (mCallF F__law_pick (mCons (mVar 0) (mCons (mLst (mCons (mTup (mCons (mC (.int 0)) (mCons (mC (.int 1)) mNil))) mNil)) mNil))) mNil)))
def e__law_map_5 : EM := (mCallF F__law_pick (mCons (mVar 0) (mCons (mLst (mCons (mTup (mCons (mC (.int 0)) (mCons (mC (.int 1)) mNil))) (mCons (mCallF F__law_small (mCons (mVar 0) mNil)) mNil))) mNil)))
def b__law_map : SM := (mSeq (mSetO 1 (mComp [3] (mRng1 (mCons (mC (.int 3)) mNil)) (.nm 3) mYes e__law_map_2))
    (mSeq (mSet 2 (mCallF F__law_taken (mCons (mVar 0) (mCons (mC (.int 6)) mNil))))
    (mSeq (mIfS (mTest (mOp gEq (mVar 2) (mC (.int 0)))) (mSetIx 1 (mC (.int 2)) (mOp gIx (mVarB 1) (mC (.int 0)))) mNext)
    (mSeq (mIfS (mTest (mOp gEq (mVar 2) (mC (.int 1)))) (mSeq (mSetIx 1 (mC (.int 1)) (mCall gTuple (mCons (mComp [5] (mSeqI (mOp gIx (mVarB 1) (mC (.int 0)))) (.nm 5) mYes e__law_map_3) mNil)))
    (mSetIx 1 (mC (.int 2)) (mCall gTuple (mCons (mComp [5] (mSeqI (mOp gIx (mVarB 1) (mC (.int 0)))) (.nm 5) mYes e__law_map_4) mNil)))) mNext)
    (mSeq (mIfS (mTest (mOp gEq (mVar 2) (mC (.int 2)))) (mSetO 1 (mLst (mCons (mTup (mCons (mTup (mCons (mC (.int 1)) (mCons (mC (.int 1)) mNil))) (mCons (mTup (mCons (mC (.int 0)) (mCons (mC (.int 1)) mNil))) (mCons (mTup (mCons (mC (.int 0)) (mCons (mC (.int 1)) mNil))) mNil)))) (mCons (mTup (mCons (mTup (mCons (mC (.int 0)) (mCons (mC (.int 1)) mNil))) (mCons (mTup (mCons (mC (.int 1)) (mCons (mC (.int 1)) mNil))) (mCons (mTup (mCons (mC (.int 0)) (mCons (mC (.int 1)) mNil))) mNil)))) (mCons (mTup (mCons (mTup (mCons (mC (.int 0)) (mCons (mC (.int 1)) mNil))) (mCons (mTup (mCons (mC (.int 0)) (mCons (mC (.int 1)) mNil))) (mCons (mTup (mCons (mC (.int 1)) (mCons (mC (.int 1)) mNil))) mNil)))) mNil))))) mNext)
    (mRet (mTup (mCons (mCall gTuple (mCons (mVarB 1) mNil)) (mCons (mCall gTuple (mCons (mComp [4] (mRng1 (mCons (mC (.int 3)) mNil)) (.nm 4) mYes e__law_map_5) mNil)) mNil)))))))))
def F__law_map : FM := mFun 5 b__law_map
def b__law_same : SM := (mRet (mOp gEq (mCall gRepr (mCons (mVar 0) mNil)) (mCall gRepr (mCons (mVar 1) mNil))))
def F__law_same : FM := mFun 0 b__law_same
def e__law_through_1 : EM := (mCallF F__law_add (mCons (mCallF F__law_dot (mCons (mOp gIx (mOp gIx (mVar 0) (mC (.int 0))) (mVar 2)) (mCons (mVar 1) mNil))) (mCons (mOp gIx (mOp gIx (mVar 0) (mC (.int 1))) (mVar 2)) mNil)))
def b__law_through : SM := (mRet (mCall gTuple (mCons (mComp [2] (mRng1 (mCons (mC (.int 3)) mNil)) (.nm 2) mYes e__law_through_1) mNil)))
def F__law_through : FM := mFun 1 b__law_through
def b_fraction : SM := (mSeq (mIfS (mTest (mOp gLt (mVar 1) (mC (.int 0)))) (mPar [0, 1] [false, false] (mCons (mOp gSub (mC (.int 0)) (mVar 0)) (mCons (mOp gSub (mC (.int 0)) (mVar 1)) mNil))) mNext)
    (mSeq (mSet 2 (mCallF F_common (mCons (mVar 0) (mCons (mVar 1) mNil))))
    (mRet (mTup (mCons (mOp gDiv (mVar 0) (mVar 2)) (mCons (mOp gDiv (mVar 1) (mVar 2)) mNil))))))
def F_fraction : FM := mFun 1 b_fraction
def b_times : SM := (mRet (mCallF F_fraction (mCons (mOp gMul (mOp gIx (mVar 0) (mC (.int 0))) (mOp gIx (mVar 1) (mC (.int 0)))) (mCons (mOp gMul (mOp gIx (mVar 0) (mC (.int 1))) (mOp gIx (mVar 1) (mC (.int 1)))) mNil))))
def F_times : FM := mFun 0 b_times
def b_plus : SM := (mRet (mCallF F_fraction (mCons (mOp gAddA (mOp gMul (mOp gIx (mVar 0) (mC (.int 0))) (mOp gIx (mVar 1) (mC (.int 1)))) (mOp gMul (mOp gIx (mVar 1) (mC (.int 0))) (mOp gIx (mVar 0) (mC (.int 1))))) (mCons (mOp gMul (mOp gIx (mVar 0) (mC (.int 1))) (mOp gIx (mVar 1) (mC (.int 1)))) mNil))))
def F_plus : FM := mFun 0 b_plus
def l_total_1 : SM := (mSet 1 (mCallF F_plus (mCons (mVar 1) (mCons (mVar 2) mNil))))
def b_total : SM := (mSeq (mSet 1 (mTup (mCons (mC (.int 0)) (mCons (mC (.int 1)) mNil))))
    (mSeq (mFor (mSeqI (mVar 0)) (.nm 2) l_total_1)
    (mRet (mVar 1))))
def F_total : FM := mFun 2 b_total
def e_line_times_1 : EM := (mCallF F_times (mCons (mVar 2) (mCons (mVar 3) mNil)))
def b_line_times : SM := (mRet (mCallF F_total (mCons (mComp [2, 3] (mZipI (mCons (mVar 0) (mCons (mVar 1) mNil))) (.tp (.cons (.nm 2) (.cons (.nm 3) .nil))) mYes e_line_times_1) mNil)))
def F_line_times : FM := mFun 2 b_line_times
def l_require_colour_1 : SM := (mIfS (mNot (mTest (mCallF F_is_fraction (mCons (mVar 2) mNil)))) (mRaise 5 (mCons (mVar 1) mNil)) mNext)
def b_require_colour : SM := (mSeq (mIfS (mNot (mTest (mCallF F_is_row (mCons (mVar 0) (mCons (mC (.int 3)) mNil))))) (mRaise 5 (mCons (mC .non) mNil)) mNext)
    (mFor (mEnumI (mCons (mVar 0) mNil)) (.tp (.cons (.nm 1) (.cons (.nm 2) .nil))) l_require_colour_1))
def F_require_colour : FM := mFun 2 b_require_colour
def e_mapped_1 : EM := (mCallF F_plus (mCons (mCallF F_line_times (mCons (mVar 2) (mCons (mVar 1) mNil))) (mCons (mVar 3) mNil)))
def b_mapped : SM := (mSeq (mDrop (mCallF F_require_colour (mCons (mVar 1) mNil)))
    (mRet (mCall gTuple (mCons (mComp [2, 3] (mZipI (mCons (mFld [(0, 0), (1, 0)] (mVar 0)) (mCons (mFld [(0, 1), (1, 1)] (mVar 0)) mNil))) (.tp (.cons (.nm 2) (.cons (.nm 3) .nil))) mYes e_mapped_1) mNil))))
def F_mapped : FM := mFun 2 b_mapped
def l_apart_1 : SM := (mIfS (mTest (mOp gNe (mCallF F_mapped (mCons (mVar 0) (mCons (mVar 3) mNil))) (mCallF F_mapped (mCons (mVar 1) (mCons (mVar 3) mNil))))) (mRet (mVar 3)) mNext)
def b_apart : SM := (mSeq (mSet 2 (mLst (mCons (mTup (mCons (mTup (mCons (mC (.int 0)) (mCons (mC (.int 1)) mNil))) (mCons (mTup (mCons (mC (.int 0)) (mCons (mC (.int 1)) mNil))) (mCons (mTup (mCons (mC (.int 0)) (mCons (mC (.int 1)) mNil))) mNil)))) (mCons (mTup (mCons (mTup (mCons (mC (.int 1)) (mCons (mC (.int 1)) mNil))) (mCons (mTup (mCons (mC (.int 0)) (mCons (mC (.int 1)) mNil))) (mCons (mTup (mCons (mC (.int 0)) (mCons (mC (.int 1)) mNil))) mNil)))) (mCons (mTup (mCons (mTup (mCons (mC (.int 0)) (mCons (mC (.int 1)) mNil))) (mCons (mTup (mCons (mC (.int 1)) (mCons (mC (.int 1)) mNil))) (mCons (mTup (mCons (mC (.int 0)) (mCons (mC (.int 1)) mNil))) mNil)))) (mCons (mTup (mCons (mTup (mCons (mC (.int 0)) (mCons (mC (.int 1)) mNil))) (mCons (mTup (mCons (mC (.int 0)) (mCons (mC (.int 1)) mNil))) (mCons (mTup (mCons (mC (.int 1)) (mCons (mC (.int 1)) mNil))) mNil)))) mNil))))))
    (mSeq (mFor (mSeqI (mVar 2)) (.nm 3) l_apart_1)
    (mRet (mC .non))))
def F_apart : FM := mFun 2 b_apart
def b_are_alike : SM := (mRet (mAndV (mOp gEq (mFld [(0, 0), (1, 0)] (mVar 0)) (mFld [(0, 0), (1, 0)] (mVar 1))) (mOp gEq (mFld [(0, 1), (1, 1)] (mVar 0)) (mFld [(0, 1), (1, 1)] (mVar 1)))))
def F_are_alike : FM := mFun 0 b_are_alike
def b_Wide_init : SM := (mSeq (mSetF 1 0 (mVar 1))
    (mSetF 1 1 (mVar 2)))
def F_Wide_init : FM := mInit 1 2 0 b_Wide_init
def b_column : SM := (mRet (mCall gTuple (mCons (mComp [2] (mSeqI (mVar 0)) (.nm 2) mYes (mOp gIx (mVar 2) (mVar 1))) mNil)))
def F_column : FM := mFun 1 b_column
def e_squares_times_1 : EM := (mCallF F_line_times (mCons (mVar 2) (mCons (mCallF F_column (mCons (mVar 1) (mCons (mVar 3) mNil))) mNil)))
def e_squares_times_2 : EM := (mCall gTuple (mCons (mComp [3] (mRng1 (mCons (mC (.int 3)) mNil)) (.nm 3) mYes e_squares_times_1) mNil))
def b_squares_times : SM := (mRet (mCall gTuple (mCons (mComp [2] (mSeqI (mVar 0)) (.nm 2) mYes e_squares_times_2) mNil)))
def F_squares_times : FM := mFun 2 b_squares_times
def b_behind : SM := (mSeq (mSet 2 (mCallF F_squares_times (mCons (mFld [(0, 0), (1, 0)] (mVar 1)) (mCons (mFld [(0, 0), (1, 0)] (mVar 0)) mNil))))
    (mRet (mCallF F_Wide_init (mCons (mVar 2) (mCons (mCallF F_mapped (mCons (mVar 1) (mCons (mFld [(0, 1), (1, 1)] (mVar 0)) mNil))) mNil)))))
def F_behind : FM := mFun 1 b_behind
def b_minus : SM := (mRet (mCallF F_fraction (mCons (mOp gSub (mOp gMul (mOp gIx (mVar 0) (mC (.int 0))) (mOp gIx (mVar 1) (mC (.int 1)))) (mOp gMul (mOp gIx (mVar 1) (mC (.int 0))) (mOp gIx (mVar 0) (mC (.int 1))))) (mCons (mOp gMul (mOp gIx (mVar 0) (mC (.int 1))) (mOp gIx (mVar 1) (mC (.int 1)))) mNil))))
def F_minus : FM := mFun 0 b_minus
def t_minor_1 : TM := (mTest (mOp gNe (mVar 6) (mVar 1)))
def t_minor_2 : TM := (mTest (mOp gNe (mVar 6) (mVar 2)))
def e_minor_1 : EM := (mComp [6, 8] (mEnumI (mCons (mVar 7) mNil)) (.tp (.cons (.nm 6) (.cons (.nm 8) .nil))) t_minor_2 (mVar 8))
def b_minor : SM := (mSeq (mSet 3 (mComp [6, 7] (mEnumI (mCons (mVar 0) mNil)) (.tp (.cons (.nm 6) (.cons (.nm 7) .nil))) t_minor_1 (mVar 7)))
    (mSeq (mSet 4 (mComp [7] (mSeqI (mVar 3)) (.nm 7) mYes e_minor_1))
    (mSeq (mSet 5 (mCallF F_minus (mCons (mCallF F_times (mCons (mOp gIx (mOp gIx (mVar 4) (mC (.int 0))) (mC (.int 0))) (mCons (mOp gIx (mOp gIx (mVar 4) (mC (.int 1))) (mC (.int 1))) mNil))) (mCons (mCallF F_times (mCons (mOp gIx (mOp gIx (mVar 4) (mC (.int 0))) (mC (.int 1))) (mCons (mOp gIx (mOp gIx (mVar 4) (mC (.int 1))) (mC (.int 0))) mNil))) mNil))))
    (mRet (mIf (mTest (mOp gEq (mOp gMod (mOp gAddA (mVar 1) (mVar 2)) (mC (.int 2))) (mC (.int 0)))) (mVar 5) (mTup (mCons (mOp gSub (mC (.int 0)) (mOp gIx (mVar 5) (mC (.int 0)))) (mCons (mOp gIx (mVar 5) (mC (.int 1))) mNil))))))))
def F_minor : FM := mFun 6 b_minor
def l_determinant_1 : SM := (mSet 1 (mCallF F_plus (mCons (mVar 1) (mCons (mCallF F_times (mCons (mOp gIx (mOp gIx (mFld [(0, 0), (1, 0)] (mVar 0)) (mC (.int 0))) (mVar 2)) (mCons (mCallF F_minor (mCons (mFld [(0, 0), (1, 0)] (mVar 0)) (mCons (mC (.int 0)) (mCons (mVar 2) mNil)))) mNil))) mNil))))
def b_determinant : SM := (mSeq (mSet 1 (mTup (mCons (mC (.int 0)) (mCons (mC (.int 1)) mNil))))
    (mSeq (mFor (mRng1 (mCons (mC (.int 3)) mNil)) (.nm 2) l_determinant_1)
    (mRet (mVar 1))))
def F_determinant : FM := mFun 2 b_determinant
def b_can_turn : SM := (mRet (mOp gNe (mOp gIx (mCallF F_determinant (mCons (mVar 0) mNil)) (mC (.int 0))) (mC (.int 0))))
def F_can_turn : FM := mFun 0 b_can_turn
def e_difference_1 : EM := (mCallF F_minus (mCons (mVar 2) (mCons (mVar 3) mNil)))
def b_difference : SM := (mSeq (mDrop (mCallF F_require_colour (mCons (mVar 0) mNil)))
    (mSeq (mDrop (mCallF F_require_colour (mCons (mVar 1) mNil)))
    (mRet (mCall gTuple (mCons (mComp [2, 3] (mZipI (mCons (mVar 0) (mCons (mVar 1) mNil))) (.tp (.cons (.nm 2) (.cons (.nm 3) .nil))) mYes e_difference_1) mNil)))))
def F_difference : FM := mFun 2 b_difference
def e_is_colour_1 : EM := (mCallF F_is_fraction (mCons (mVar 1) mNil))
def b_is_colour : SM := (mRet (mAndV (mCallF F_is_row (mCons (mVar 0) (mCons (mC (.int 3)) mNil))) (mCall gAll (mCons (mComp [1] (mSeqI (mVar 0)) (.nm 1) mYes e_is_colour_1) mNil))))
def F_is_colour : FM := mFun 1 b_is_colour
def e_is_lost_way_1 : EM := (mOp gEq (mOp gIx (mCallF F_line_times (mCons (mVar 2) (mCons (mVar 1) mNil))) (mC (.int 0))) (mC (.int 0)))
def b_is_lost_way : SM := (mSeq (mIfS (mOr (mNot (mTest (mCallF F_is_colour (mCons (mVar 1) mNil)))) (mTest (mOp gEq (mVar 1) (mOp gMul (mTup (mCons (mTup (mCons (mC (.int 0)) (mCons (mC (.int 1)) mNil))) mNil)) (mC (.int 3)))))) (mRet (mC (.bl false))) mNext)
    (mRet (mCall gAll (mCons (mComp [2] (mSeqI (mFld [(0, 0), (1, 0)] (mVar 0))) (.nm 2) mYes e_is_lost_way_1) mNil))))
def F_is_lost_way : FM := mFun 1 b_is_lost_way
def e_keeps_greys_1 : EM := (mCallF F_total (mCons (mVar 2) mNil))
def b_keeps_greys : SM := (mSeq (mSet 1 (mComp [2] (mSeqI (mFld [(0, 0), (1, 0)] (mVar 0))) (.nm 2) mYes e_keeps_greys_1))
    (mRet (mAndV (mChain gEq gEq (mOp gIx (mVar 1) (mC (.int 0))) (mOp gIx (mVar 1) (mC (.int 1))) (mOp gIx (mVar 1) (mC (.int 2)))) (mChain gEq gEq (mOp gIx (mFld [(0, 1), (1, 1)] (mVar 0)) (mC (.int 0))) (mOp gIx (mFld [(0, 1), (1, 1)] (mVar 0)) (mC (.int 1))) (mOp gIx (mFld [(0, 1), (1, 1)] (mVar 0)) (mC (.int 2)))))))
def F_keeps_greys : FM := mFun 2 b_keeps_greys
def t_across_1 : TM := (mTest (mOp gNe (mVar 5) (mOp gMul (mTup (mCons (mTup (mCons (mC (.int 0)) (mCons (mC (.int 1)) mNil))) mNil)) (mC (.int 3)))))
def b_across : SM := (mSeq (mSet 1 (mComp [5] (mSeqI (mVar 0)) (.nm 5) t_across_1 (mVar 5)))
    (mSeq (mIfS (mTest (mOp gEq (mVar 1) (mLst mNil))) (mRet (mTup (mCons (mTup (mCons (mC (.int 1)) (mCons (mC (.int 1)) mNil))) (mCons (mTup (mCons (mC (.int 0)) (mCons (mC (.int 1)) mNil))) (mCons (mTup (mCons (mC (.int 0)) (mCons (mC (.int 1)) mNil))) mNil))))) mNext)
    (mSeq (mPt (.tp (.cons (.nm 2) (.cons (.nm 3) (.cons (.nm 4) .nil)))) (mOp gIx (mVar 1) (mC (.int 0))))
    (mSeq (mIfS (mTest (mOp gEq (mOp gIx (mVar 2) (mC (.int 0))) (mC (.int 0)))) (mRet (mTup (mCons (mTup (mCons (mC (.int 1)) (mCons (mC (.int 1)) mNil))) (mCons (mTup (mCons (mC (.int 0)) (mCons (mC (.int 1)) mNil))) (mCons (mTup (mCons (mC (.int 0)) (mCons (mC (.int 1)) mNil))) mNil))))) mNext)
    (mRet (mIf (mTest (mOp gNe (mOp gIx (mVar 3) (mC (.int 0))) (mC (.int 0)))) (mTup (mCons (mTup (mCons (mOp gSub (mC (.int 0)) (mOp gIx (mVar 3) (mC (.int 0)))) (mCons (mOp gIx (mVar 3) (mC (.int 1))) mNil))) (mCons (mVar 2) (mCons (mTup (mCons (mC (.int 0)) (mCons (mC (.int 1)) mNil))) mNil)))) (mTup (mCons (mTup (mCons (mC (.int 0)) (mCons (mC (.int 1)) mNil))) (mCons (mTup (mCons (mC (.int 1)) (mCons (mC (.int 1)) mNil))) (mCons (mTup (mCons (mC (.int 0)) (mCons (mC (.int 1)) mNil))) mNil))))))))))
def F_across : FM := mFun 5 b_across
def e_lost_way_1 : EM := (mCallF F_minor (mCons (mFld [(0, 0), (1, 0)] (mVar 0)) (mCons (mVar 1) (mCons (mVar 3) mNil))))
def l_lost_way_1 : SM := (mSeq (mSet 2 (mCall gTuple (mCons (mComp [3] (mRng1 (mCons (mC (.int 3)) mNil)) (.nm 3) mYes e_lost_way_1) mNil)))
    (mIfS (mTest (mOp gNe (mVar 2) (mOp gMul (mTup (mCons (mTup (mCons (mC (.int 0)) (mCons (mC (.int 1)) mNil))) mNil)) (mC (.int 3))))) (mRet (mVar 2)) mNext))
def b_lost_way : SM := (mSeq (mIfS (mTest (mCallF F_can_turn (mCons (mVar 0) mNil))) (mRet (mC .non)) mNext)
    (mSeq (mFor (mRng1 (mCons (mC (.int 3)) mNil)) (.nm 1) l_lost_way_1)
    (mRet (mCallF F_across (mCons (mFld [(0, 0), (1, 0)] (mVar 0)) mNil)))))
def F_lost_way : FM := mFun 3 b_lost_way
def e_same_for_1 : EM := (mTup (mCons (mCall gInt (mCons (mAndV (mVar 0) (mOp gEq (mVar 2) (mVar 3))) mNil)) (mCons (mC (.int 1)) mNil)))
def e_same_for_2 : EM := (mComp [3] (mRng1 (mCons (mC (.int 3)) mNil)) (.nm 3) mYes e_same_for_1)
def e_same_for_3 : EM := (mCall gTuple (mCons (mVar 4) mNil))
def b_same_for : SM := (mSeq (mSet 1 (mComp [2] (mRng1 (mCons (mC (.int 3)) mNil)) (.nm 2) mYes e_same_for_2))
    (mRet (mCallF F_Map_init (mCons (mCall gTuple (mCons (mComp [4] (mSeqI (mVar 1)) (.nm 4) mYes e_same_for_3) mNil)) (mCons (mOp gMul (mTup (mCons (mTup (mCons (mC (.int 0)) (mCons (mC (.int 1)) mNil))) mNil)) (mC (.int 3))) mNil)))))
def F_same_for : FM := mFun 4 b_same_for
def b_by : SM := (mRet (mCallF F_fraction (mCons (mOp gMul (mOp gIx (mVar 0) (mC (.int 0))) (mOp gIx (mVar 1) (mC (.int 1)))) (mCons (mOp gMul (mOp gIx (mVar 0) (mC (.int 1))) (mOp gIx (mVar 1) (mC (.int 0)))) mNil))))
def F_by : FM := mFun 0 b_by
def e_turned_1 : EM := (mCallF F_by (mCons (mCallF F_minor (mCons (mFld [(0, 0), (1, 0)] (mVar 0)) (mCons (mVar 5) (mCons (mVar 3) mNil)))) (mCons (mVar 1) mNil)))
def l_turned_1 : SM := (mMethS 2 oAppend (mCons (mCall gTuple (mCons (mComp [5] (mRng1 (mCons (mC (.int 3)) mNil)) (.nm 5) mYes e_turned_1) mNil)) mNil))
def e_turned_2 : EM := (mCallF F_line_times (mCons (mVar 6) (mCons (mFld [(0, 1), (1, 1)] (mVar 0)) mNil)))
def e_turned_3 : EM := (mTup (mCons (mOp gSub (mC (.int 0)) (mOp gIx (mVar 7) (mC (.int 0)))) (mCons (mOp gIx (mVar 7) (mC (.int 1))) mNil)))
def b_turned : SM := (mSeq (mSet 1 (mCallF F_determinant (mCons (mVar 0) mNil)))
    (mSeq (mIfS (mTest (mOp gEq (mOp gIx (mVar 1) (mC (.int 0))) (mC (.int 0)))) (mRaise 13 mNil) mNext)
    (mSeq (mSetO 2 (mLst mNil))
    (mSeq (mFor (mRng1 (mCons (mC (.int 3)) mNil)) (.nm 3) l_turned_1)
    (mSeq (mFrz 2 (mSet 4 (mComp [6] (mSeqI (mVar 2)) (.nm 6) mYes e_turned_2)))
    (mRet (mCallF F_Wide_init (mCons (mCall gTuple (mCons (mVarB 2) mNil)) (mCons (mCall gTuple (mCons (mComp [7] (mSeqI (mVar 4)) (.nm 7) mYes e_turned_3) mNil)) mNil)))))))))
def F_turned : FM := mFun 7 b_turned
def e_white_map_1 : EM := (mOp gEq (mOp gIx (mVar 4) (mC (.int 0))) (mC (.int 0)))
def e_white_map_2 : EM := (mNewC (mOp gRep (mLst (mCons (mTup (mCons (mC (.int 0)) (mCons (mC (.int 1)) mNil))) mNil)) (mC (.int 3))))
def l_white_map_1 : SM := (mSetIxE (mOp gIx (mVar 2) (mVar 3)) (mVar 3) (mCallF F_by (mCons (mOp gIx (mVar 1) (mVar 3)) (mCons (mOp gIx (mVar 0) (mVar 3)) mNil))))
def e_white_map_3 : EM := (mCall gTupleC (mCons (mVar 6) mNil))
def b_white_map : SM := (mSeq (mDrop (mCallF F_require_colour (mCons (mVar 0) mNil)))
    (mSeq (mDrop (mCallF F_require_colour (mCons (mVar 1) mNil)))
    (mSeq (mIfS (mTest (mCall gAny (mCons (mComp [4] (mSeqI (mVar 0)) (.nm 4) mYes e_white_map_1) mNil))) (mRaise 13 mNil) mNext)
    (mSeq (mSet 2 (mComp [5] (mRng1 (mCons (mC (.int 3)) mNil)) (.nm 5) mYes e_white_map_2))
    (mSeq (mFor (mRng1 (mCons (mC (.int 3)) mNil)) (.nm 3) l_white_map_1)
    (mRet (mCallF F_Wide_init (mCons (mCall gTupleC (mCons (mComp [6] (mSeqI (mVar 2)) (.nm 6) mYes e_white_map_3) mNil)) (mCons (mOp gMul (mTup (mCons (mTup (mCons (mC (.int 0)) (mCons (mC (.int 1)) mNil))) mNil)) (mC (.int 3))) mNil)))))))))
def F_white_map : FM := mFun 5 b_white_map
def b_wide : SM := (mRet (mCallF F_Wide_init (mCons (mFld [(0, 0), (1, 0)] (mVar 0)) (mCons (mFld [(0, 1), (1, 1)] (mVar 0)) mNil))))
def F_wide : FM := mFun 0 b_wide
def e_law_1 : EM := (mCallF F__law_colour (mCons (mVar 1) mNil))
def l_law_1 : SM := (mIfS (mNot (mTest (mCallF (F__law_alike 5) (mCons (mCallF F_mapped (mCons (mVar 8) (mCons (mVar 9) mNil))) (mCons (mCallF F__law_through (mCons (mVar 4) (mCons (mCallF F__law_through (mCons (mVar 3) (mCons (mVar 9) mNil))) mNil))) mNil))))) (mRet (mC (.bl false))) mNext)
def e_law_2 : EM := (mCallF F_turned (mCons (mVar 5) mNil))
def t_law_1 : TM := (mNot (mTest (mCallF F__law_is_frac (mCons (mVar 22) mNil))))
def t_law_2 : TM := (mTest (mOp gNe (mOp gIx (mCallF F__law_dot (mCons (mVar 23) (mCons (mVar 12) mNil))) (mC (.int 0))) (mC (.int 0))))
def t_law_3 : TM := (mTest (mOp gNe (mOp gIx (mCallF F__law_dot (mCons (mVar 23) (mCons (mVar 13) mNil))) (mC (.int 0))) (mC (.int 0))))
def l_law_2 : SM := (mMethS 16 oExtend (mCons (mIf (mTest (mOp gNe (mCallF F__law_through (mCons (mVar 3) (mCons (mVar 17) mNil))) (mCallF F__law_through (mCons (mVar 14) (mCons (mVar 17) mNil))))) (mLst (mCons (mVar 17) mNil)) (mLst mNil)) mNil))
def e_law_3 : EM := (mCallF F__law_through (mCons (mVar 3) (mCons (mOp gMul (mTup (mCons (mVar 24) mNil)) (mC (.int 3))) mNil)))
def t_law_4 : TM := (mNot (mTest (mChain gEq gEq (mOp gIx (mVar 25) (mC (.int 0))) (mOp gIx (mVar 25) (mC (.int 1))) (mOp gIx (mVar 25) (mC (.int 2))))))
def e_law_4 : EM := (mCallF F_white_map (mCons (mVar 19) (mCons (mVar 7) mNil)))
def e_law_5 : EM := (mOp gIx (mVar 22) (mC (.int 0)))
def e_law_6 : EM := (mCallF F__law_sub (mCons (mOp gIx (mVar 19) (mVar 21)) (mCons (mOp gIx (mVar 7) (mVar 21)) mNil)))
def l_law_3 : SM := (mSeq (mPt (.tp (.cons (.nm 3) (.cons (.nm 4) .nil))) (mTup (mCons (mCallF F__law_map (mCons (mVar 1) mNil)) (mCons (mCallF F__law_map (mCons (mVar 1) mNil)) mNil))))
    (mSeq (mPt (.tp (.cons (.nm 5) (.cons (.nm 6) (.cons (.nm 7) .nil)))) (mTup (mCons (mCallF F_Map_init (mCons (mOp gIx (mVar 3) (mC (.int 0))) (mCons (mOp gIx (mVar 3) (mC (.int 1))) mNil))) (mCons (mCallF F_Map_init (mCons (mOp gIx (mVar 4) (mC (.int 0))) (mCons (mOp gIx (mVar 4) (mC (.int 1))) mNil))) (mCons (mCallF F__law_colour (mCons (mVar 1) mNil)) mNil)))))
    (mSeq (mIfS (mOr (mNot (mTest (mCallF (F__law_alike 5) (mCons (mTup (mCons (mFld [(0, 0), (1, 0)] (mVar 5)) (mCons (mFld [(0, 1), (1, 1)] (mVar 5)) mNil))) (mCons (mVar 3) mNil))))) (mNot (mTest (mCallF (F__law_alike 5) (mCons (mTup (mCons (mFld [(0, 0), (1, 0)] (mCallF F_wide (mCons (mVar 5) mNil))) (mCons (mFld [(0, 1), (1, 1)] (mCallF F_wide (mCons (mVar 5) mNil))) mNil))) (mCons (mVar 3) mNil)))))) (mRet (mC (.bl false))) mNext)
    (mSeq (mIfS (mNot (mTest (mCallF (F__law_alike 5) (mCons (mTup (mCons (mCallF F_mapped (mCons (mVar 5) (mCons (mVar 7) mNil))) (mCons (mCallF F_mapped (mCons (mCallF F_wide (mCons (mVar 5) mNil)) (mCons (mVar 7) mNil))) mNil))) (mCons (mOp gMul (mTup (mCons (mCallF F__law_through (mCons (mVar 3) (mCons (mVar 7) mNil))) mNil)) (mC (.int 2))) mNil))))) (mRet (mC (.bl false))) mNext)
    (mSeq (mSet 8 (mCallF F_behind (mCons (mVar 5) (mCons (mVar 6) mNil))))
    (mSeq (mFor (mSeqI (mOp gAddA (mLst (mCons (mVar 7) mNil)) (mComp [21] (mRng1 (mCons (mC (.int 4)) mNil)) (.nm 21) mYes e_law_1))) (.nm 9) l_law_1)
    (mSeq (mSet 10 (mCallF F__law_det (mCons (mOp gIx (mVar 3) (mC (.int 0))) mNil)))
    (mSeq (mIfS (mNot (mTest (mCallF (F__law_alike 5) (mCons (mTup (mCons (mCallF F_determinant (mCons (mVar 5) mNil)) (mCons (mCallF F_can_turn (mCons (mVar 5) mNil)) mNil))) (mCons (mTup (mCons (mVar 10) (mCons (mOp gNe (mOp gIx (mVar 10) (mC (.int 0))) (mC (.int 0))) mNil))) mNil))))) (mRet (mC (.bl false))) mNext)
    (mSeq (mPt (.tp (.cons (.nm 11) (.cons (.nm 12) .nil))) (mTup (mCons (mTold es nm 0 0 e_law_2) (mCons (mCallF F_lost_way (mCons (mVar 5) mNil)) mNil))))
    (mSeq (mIfS (mTest (mOp gNe (mOp gIx (mVar 10) (mC (.int 0))) (mC (.int 0)))) (mIfS (mOr (mTest (mOp gNe (mOp gIx (mVar 11) (mC (.int 0))) (mC (.str "told")))) (mOr (mTest (mOp gIsNot (mVar 12) (mC .non))) (mOr (mTest (mOp gNe (mCallF F_mapped (mCons (mOp gIx (mVar 11) (mC (.int 1))) (mCons (mCallF F_mapped (mCons (mVar 5) (mCons (mVar 7) mNil))) mNil))) (mVar 7))) (mTest (mOp gNe (mCallF F_mapped (mCons (mVar 5) (mCons (mCallF F_mapped (mCons (mOp gIx (mVar 11) (mC (.int 1))) (mCons (mVar 7) mNil))) mNil))) (mVar 7)))))) (mRet (mC (.bl false))) mNext) (mSeq (mIfS (mOr (mNot (mTest (mCallF F__law_same (mCons (mVar 11) (mCons (mTup (mCons (mC (.str "NotTurned")) mNil)) mNil))))) (mOr (mNot (mTest (gIsi (kTy cs "tuple") (mVar 12)))) (mOr (mTest (mOp gNe (mCall gLen (mCons (mVar 12) mNil)) (mC (.int 3)))) (mTest (mOp gNe (mComp [22] (mSeqI (mVar 12)) (.nm 22) t_law_1 (mVar 22)) (mLst mNil)))))) (mRet (mC (.bl false))) mNext)
    (mIfS (mOr (mTest (mOp gEq (mVar 12) (mOp gMul (mTup (mCons (mTup (mCons (mC (.int 0)) (mCons (mC (.int 1)) mNil))) mNil)) (mC (.int 3))))) (mOr (mTest (mOp gNe (mComp [23] (mSeqI (mOp gIx (mVar 3) (mC (.int 0)))) (.nm 23) t_law_2 (mVar 23)) (mLst mNil))) (mTest (mOp gIsNotB (mCallF F_is_lost_way (mCons (mVar 5) (mCons (mVar 12) mNil))) (mC (.bl true)))))) (mRet (mC (.bl false))) mNext)))
    (mSeq (mSet 13 (mCallF F__law_pick (mCons (mVar 1) (mCons (mLst (mCons (mVar 7) (mCons (mOp gMul (mTup (mCons (mTup (mCons (mC (.int 0)) (mCons (mC (.int 1)) mNil))) mNil)) (mC (.int 3))) (mCons (mTup (mCons (mTup (mCons (mC (.int 1)) (mCons (mC (.int 1)) mNil))) (mCons (mTup (mCons (mUn gNeg (mC (.int 1))) (mCons (mC (.int 1)) mNil))) (mCons (mTup (mCons (mC (.int 0)) (mCons (mC (.int 1)) mNil))) mNil)))) mNil)))) mNil))))
    (mSeq (mIfS (mNot (mTest (mCallF (F__law_alike 5) (mCons (mCallF F_is_lost_way (mCons (mVar 5) (mCons (mVar 13) mNil))) (mCons (mAndV (mOp gNe (mVar 13) (mOp gMul (mTup (mCons (mTup (mCons (mC (.int 0)) (mCons (mC (.int 1)) mNil))) mNil)) (mC (.int 3)))) (mOp gEq (mComp [23] (mSeqI (mOp gIx (mVar 3) (mC (.int 0)))) (.nm 23) t_law_3 (mVar 23)) (mLst mNil))) mNil))))) (mRet (mC (.bl false))) mNext)
    (mSeq (mSet 14 (mCallF F__law_pick (mCons (mVar 1) (mCons (mLst (mCons (mVar 3) (mCons (mVar 4) (mCons (mTup (mCons (mOp gIx (mVar 3) (mC (.int 0))) (mCons (mOp gIx (mVar 4) (mC (.int 1))) mNil))) mNil)))) mNil))))
    (mSeq (mPar [15, 16] [false, true] (mCons (mLst (mCons (mOp gMul (mTup (mCons (mTup (mCons (mC (.int 0)) (mCons (mC (.int 1)) mNil))) mNil)) (mC (.int 3))) (mCons (mTup (mCons (mTup (mCons (mC (.int 1)) (mCons (mC (.int 1)) mNil))) (mCons (mTup (mCons (mC (.int 0)) (mCons (mC (.int 1)) mNil))) (mCons (mTup (mCons (mC (.int 0)) (mCons (mC (.int 1)) mNil))) mNil)))) (mCons (mTup (mCons (mTup (mCons (mC (.int 0)) (mCons (mC (.int 1)) mNil))) (mCons (mTup (mCons (mC (.int 1)) (mCons (mC (.int 1)) mNil))) (mCons (mTup (mCons (mC (.int 0)) (mCons (mC (.int 1)) mNil))) mNil)))) (mCons (mTup (mCons (mTup (mCons (mC (.int 0)) (mCons (mC (.int 1)) mNil))) (mCons (mTup (mCons (mC (.int 0)) (mCons (mC (.int 1)) mNil))) (mCons (mTup (mCons (mC (.int 1)) (mCons (mC (.int 1)) mNil))) mNil)))) mNil))))) (mCons (mLst mNil) mNil)))
    (mSeq (mFor (mSeqI (mVar 15)) (.nm 17) l_law_2)
    (mSeq (mIfS (mNot (mTest (mCallF (F__law_alike 5) (mCons (mTup (mCons (mCallF F_are_alike (mCons (mVar 5) (mCons (mCallF F_Map_init (mCons (mOp gIx (mVar 14) (mC (.int 0))) (mCons (mOp gIx (mVar 14) (mC (.int 1))) mNil))) mNil))) (mCons (mCallF F_apart (mCons (mVar 5) (mCons (mCallF F_Map_init (mCons (mOp gIx (mVar 14) (mC (.int 0))) (mCons (mOp gIx (mVar 14) (mC (.int 1))) mNil))) mNil))) mNil))) (mCons (mTup (mCons (mOp gEq (mVarB 16) (mLst mNil)) (mCons (mIf (mTest (mOp gNe (mVarB 16) (mLst mNil))) (mOp gIx (mVarB 16) (mC (.int 0))) (mC .non)) mNil))) mNil))))) (mRet (mC (.bl false))) mNext)
    (mSeq (mIfS (mOr (mTest (mOp gNe (mCallF F_mapped (mCons (mCallF F_same_for (mCons (mC (.bl true)) mNil)) (mCons (mVar 7) mNil))) (mVar 7))) (mTest (mOp gNe (mCallF F_mapped (mCons (mCallF F_same_for (mCons (mC (.bl false)) mNil)) (mCons (mVar 7) mNil))) (mOp gMul (mTup (mCons (mTup (mCons (mC (.int 0)) (mCons (mC (.int 1)) mNil))) mNil)) (mC (.int 3)))))) (mRet (mC (.bl false))) mNext)
    (mSeq (mSet 18 (mComp [24] (mSeqI (mLst (mCons (mTup (mCons (mC (.int 0)) (mCons (mC (.int 1)) mNil))) (mCons (mTup (mCons (mC (.int 1)) (mCons (mC (.int 1)) mNil))) (mCons (mTup (mCons (mC (.int 7)) (mCons (mC (.int 2)) mNil))) mNil))))) (.nm 24) mYes e_law_3))
    (mSeq (mIfS (mNot (mTest (mCallF (F__law_alike 5) (mCons (mCallF F_keeps_greys (mCons (mVar 5) mNil)) (mCons (mOp gEq (mComp [25] (mSeqI (mVar 18)) (.nm 25) t_law_4 (mVar 25)) (mLst mNil)) mNil))))) (mRet (mC (.bl false))) mNext)
    (mSeq (mSet 19 (mCallF F__law_colour (mCons (mVar 1) mNil)))
    (mSeq (mSet 20 (mTold es nm 0 0 e_law_4))
    (mSeq (mIfS (mTest (mOp gIn (mC (.int 0)) (mComp [22] (mSeqI (mVar 19)) (.nm 22) mYes e_law_5))) (mIfS (mNot (mTest (mCallF F__law_same (mCons (mVar 20) (mCons (mTup (mCons (mC (.str "NotTurned")) mNil)) mNil))))) (mRet (mC (.bl false))) mNext) (mIfS (mOr (mTest (mOp gNe (mCallF F_mapped (mCons (mOp gIx (mVar 20) (mC (.int 1))) (mCons (mVar 19) mNil))) (mVar 7))) (mTest (mOp gNe (mCallF F_mapped (mCons (mOp gIx (mVar 20) (mC (.int 1))) (mCons (mTup (mCons (mTup (mCons (mC (.int 0)) (mCons (mC (.int 1)) mNil))) (mCons (mOp gIx (mVar 19) (mC (.int 1))) (mCons (mTup (mCons (mC (.int 0)) (mCons (mC (.int 1)) mNil))) mNil)))) mNil))) (mTup (mCons (mTup (mCons (mC (.int 0)) (mCons (mC (.int 1)) mNil))) (mCons (mOp gIx (mVar 7) (mC (.int 1))) (mCons (mTup (mCons (mC (.int 0)) (mCons (mC (.int 1)) mNil))) mNil))))))) (mRet (mC (.bl false))) mNext))
    (mIfS (mNot (mTest (mCallF (F__law_alike 5) (mCons (mCallF F_difference (mCons (mVar 19) (mCons (mVar 7) mNil))) (mCons (mCall gTuple (mCons (mComp [21] (mRng1 (mCons (mC (.int 3)) mNil)) (.nm 21) mYes e_law_6) mNil)) mNil))))) (mRet (mC (.bl false))) mNext)))))))))))))))))))))))
def b_law : SM := (mSeq (mCell 1 (mLst (mCons (mVar 0) (mCons (mC (.int 0)) (mCons (mC (.int 4051)) (mCons (mC (.int 0)) mNil))))))
    (mSeq (mFor (mRng1 (mCons (mC (.int 4)) mNil)) (.nm 2) l_law_3)
    (mRet (mC (.bl true)))))
def F_law : FM := mFun 25 b_law
end K05

namespace K05
open PySem PySem.Spec PyProof.Rows L2 Tv
/-! ### the walk -/
def lamArgs (d : Arguments) (st : Stmt) : Arguments := match st with | .Assign _ (.Lambda p _ _ _) _ => p | _ => d
def lamBody (st : Stmt) : Expr := match st with | .Assign _ (.Lambda _ b _ _) _ => b | _ => .Constant .none 0 ⟨0, 0, 0, 0⟩
def lamScope (d : Scope) (st : Stmt) : Scope := match st with | .Assign _ (.Lambda _ _ s _) _ => s | _ => d
def ls_0 : Stmt := (defBody (inClass (top 36) 0)).getD 1 (.Pass ⟨0, 0, 0, 0⟩)
def tb (K : PySem.W.Frag) : Tb where
  cls := fun c => match c with
    | 0 => He.ga K "Map"
    | 1 => He.ga K "Wide"
    | 2 => He.ga K "BadPart"
    | 3 => He.ga K "BadNumber"
    | 4 => He.ga K "Unknown"
    | 5 => He.ga K "BadPoint"
    | 6 => He.ga K "BadBytes"
    | 7 => He.ga K "BadGroup"
    | 8 => He.ga K "BadPicture"
    | 9 => He.ga K "BadChange"
    | 10 => He.ga K "TooMany"
    | 11 => He.ga K "BadText"
    | 12 => He.ga K "BadLine"
    | 13 => He.ga K "NotTurned"
    | 14 => He.ga K "BadClaim"
    | 15 => He.ga K "NothingDone"
    | _ => 0
  fn := fun c => match c with
    | 0 => He.ga K "is_line"
    | _ => 0
  fl := fun c => match c with
    | 0 => ["rows", "added"]
    | 1 => ["rows", "added"]
    | 2 => ["part", "place"]
    | 3 => ["value"]
    | 4 => ["name"]
    | 5 => ["place"]
    | 6 => ["place"]
    | 7 => ["place"]
    | 8 => ["place"]
    | 9 => ["place"]
    | 10 => ["limit"]
    | 11 => ["line"]
    | 12 => ["line"]
    | 13 => []
    | 14 => []
    | 15 => []
    | _ => []
  lo := fun l => match l with
    | 0 => LamH (("Map.__init__" : Str) ++ ".<locals>." ++ "<lambda>") (lamArgs (defArgs (inClass (top 36) 0)) ls_0) (lamBody ls_0) (lamScope (defScope (inClass (top 36) 0)) ls_0)
    | _ => fun _ _ => .rng 0 0
  lq := fun l => match l with
    | 0 => ("Map.__init__" : Str) ++ ".<locals>." ++ "<lambda>"
    | _ => Str.empty
  tq := fun n => match n with
    | 0 => ("law" : Str) ++ ".<locals>." ++ "<lambda>"
    | 1 => ("Map.__init__" : Str) ++ ".<locals>." ++ "<lambda>"
    | _ => Str.empty
  ta := fun n => match n with
    | 0 => (He.cT K ("law", none)).2
    | 1 => (He.cT K ("Map", some "__init__")).2
    | _ => 0
theorem sc__law_refusal : FnScope ["e", "kinds", "marks", "name"] ["e"] (defScope (top 64)) := ⟨rfl, rfl, rfl, by decide +kernel, rfl, by decide +kernel, by decide +kernel⟩
theorem sc_is_row : FnScope ["value", "size"] ["value", "size"] (defScope (top 18)) := ⟨rfl, rfl, rfl, by decide +kernel, rfl, by decide +kernel, by decide +kernel⟩
theorem sc_common : FnScope ["one", "other"] ["one", "other"] (defScope (top 20)) := ⟨rfl, rfl, rfl, by decide +kernel, rfl, by decide +kernel, by decide +kernel⟩
theorem sc_is_whole : FnScope ["value"] ["value"] (defScope (top 17)) := ⟨rfl, rfl, rfl, by decide +kernel, rfl, by decide +kernel, by decide +kernel⟩
theorem sc_is_fraction : FnScope ["value"] ["value"] (defScope (top 25)) := ⟨rfl, rfl, rfl, by decide +kernel, rfl, by decide +kernel, by decide +kernel⟩
theorem sc_is_small : FnScope ["value"] ["value"] (defScope (top 34)) := ⟨rfl, rfl, rfl, by decide +kernel, rfl, by decide +kernel, by decide +kernel⟩
theorem sc_is_line : FnScope ["row", "ahead", "one"] ["row", "ahead"] (defScope (top 35)) := ⟨rfl, rfl, rfl, by decide +kernel, rfl, by decide +kernel, by decide +kernel⟩
theorem sc_first_wrong : FnScope ["value", "least", "most", "judge", "place", "row"] ["value", "least", "most", "judge"] (defScope (top 19)) := ⟨rfl, rfl, rfl, by decide +kernel, rfl, by decide +kernel, by decide +kernel⟩
theorem sc_place_told : FnScope ["place"] ["place"] (defScope (top 21)) := ⟨rfl, rfl, rfl, by decide +kernel, rfl, by decide +kernel, by decide +kernel⟩
theorem sc_require_part : FnScope ["part", "place"] ["part", "place"] (defScope (top 22)) := ⟨rfl, rfl, rfl, by decide +kernel, rfl, by decide +kernel, by decide +kernel⟩
theorem sc_Map_init : FnScope ["self", "rows", "added", "judge"] ["self", "rows", "added"] (defScope (inClass (top 36) 0)) := ⟨rfl, rfl, rfl, by decide +kernel, rfl, by decide +kernel, by decide +kernel⟩
theorem sc__law_alike : FnScope ["found", "due", "k"] ["found", "due"] (defScope (top 62)) := ⟨rfl, rfl, rfl, by decide +kernel, rfl, by decide +kernel, by decide +kernel⟩
theorem sc__law_gcd : FnScope ["one", "other", "turn"] ["one", "other"] (defScope (top 66)) := ⟨rfl, rfl, rfl, by decide +kernel, rfl, by decide +kernel, by decide +kernel⟩
theorem sc__law_frac : FnScope ["top", "below", "common_one"] ["top", "below"] (defScope (top 67)) := ⟨rfl, rfl, rfl, by decide +kernel, rfl, by decide +kernel, by decide +kernel⟩
theorem sc__law_taken : FnScope ["row", "many", "found", "cell"] ["row", "many"] (defScope (top 60)) := ⟨rfl, rfl, rfl, by decide +kernel, rfl, by decide +kernel, by decide +kernel⟩
theorem sc__law_pick : FnScope ["row", "things"] ["row", "things"] (defScope (top 61)) := ⟨rfl, rfl, rfl, by decide +kernel, rfl, by decide +kernel, by decide +kernel⟩
theorem sc__law_level : FnScope ["row", "below"] ["row"] (defScope (top 73)) := ⟨rfl, rfl, rfl, by decide +kernel, rfl, by decide +kernel, by decide +kernel⟩
theorem sc__law_small : FnScope ["row"] ["row"] (defScope (top 74)) := ⟨rfl, rfl, rfl, by decide +kernel, rfl, by decide +kernel, by decide +kernel⟩
theorem sc__law_colour : FnScope ["row", "k"] ["row"] (defScope (top 79)) := ⟨rfl, rfl, rfl, by decide +kernel, rfl, by decide +kernel, by decide +kernel⟩
theorem sc__law_add : FnScope ["one", "two"] ["one", "two"] (defScope (top 68)) := ⟨rfl, rfl, rfl, by decide +kernel, rfl, by decide +kernel, by decide +kernel⟩
theorem sc__law_mul : FnScope ["one", "two"] ["one", "two"] (defScope (top 70)) := ⟨rfl, rfl, rfl, by decide +kernel, rfl, by decide +kernel, by decide +kernel⟩
theorem sc__law_sub : FnScope ["one", "two"] ["one", "two"] (defScope (top 69)) := ⟨rfl, rfl, rfl, by decide +kernel, rfl, by decide +kernel, by decide +kernel⟩
theorem sc__law_det : FnScope ["rows", "found", "a", "b", "c"] ["rows"] (defScope (top 78)) := ⟨rfl, rfl, rfl, by decide +kernel, rfl, by decide +kernel, by decide +kernel⟩
theorem sc__law_sum : FnScope ["fractions", "found", "one"] ["fractions"] (defScope (top 71)) := ⟨rfl, rfl, rfl, by decide +kernel, rfl, by decide +kernel, by decide +kernel⟩
theorem sc__law_dot : FnScope ["one", "two", "k"] ["one", "two"] (defScope (top 76)) := ⟨rfl, rfl, rfl, by decide +kernel, rfl, by decide +kernel, by decide +kernel⟩
theorem sc__law_is_frac : FnScope ["value", "one"] ["value"] (defScope (top 72)) := ⟨rfl, rfl, rfl, by decide +kernel, rfl, by decide +kernel, by decide +kernel⟩
theorem sc__law_map : FnScope ["row", "rows", "kind", "j", "k", "one"] ["row"] (defScope (top 75)) := ⟨rfl, rfl, rfl, by decide +kernel, rfl, by decide +kernel, by decide +kernel⟩
theorem sc__law_same : FnScope ["found", "due"] ["found", "due"] (defScope (top 63)) := ⟨rfl, rfl, rfl, by decide +kernel, rfl, by decide +kernel, by decide +kernel⟩
theorem sc__law_through : FnScope ["parts", "colour", "k"] ["parts", "colour"] (defScope (top 77)) := ⟨rfl, rfl, rfl, by decide +kernel, rfl, by decide +kernel, by decide +kernel⟩
theorem sc_fraction : FnScope ["top", "below", "shared"] ["top", "below"] (defScope (top 24)) := ⟨rfl, rfl, rfl, by decide +kernel, rfl, by decide +kernel, by decide +kernel⟩
theorem sc_times : FnScope ["one", "other"] ["one", "other"] (defScope (top 28)) := ⟨rfl, rfl, rfl, by decide +kernel, rfl, by decide +kernel, by decide +kernel⟩
theorem sc_plus : FnScope ["one", "other"] ["one", "other"] (defScope (top 26)) := ⟨rfl, rfl, rfl, by decide +kernel, rfl, by decide +kernel, by decide +kernel⟩
theorem sc_total : FnScope ["fractions", "found", "one"] ["fractions"] (defScope (top 30)) := ⟨rfl, rfl, rfl, by decide +kernel, rfl, by decide +kernel, by decide +kernel⟩
theorem sc_line_times : FnScope ["line", "colour", "one", "other"] ["line", "colour"] (defScope (top 39)) := ⟨rfl, rfl, rfl, by decide +kernel, rfl, by decide +kernel, by decide +kernel⟩
theorem sc_require_colour : FnScope ["colour", "place", "one"] ["colour"] (defScope (top 38)) := ⟨rfl, rfl, rfl, by decide +kernel, rfl, by decide +kernel, by decide +kernel⟩
theorem sc_mapped : FnScope ["told", "colour", "line", "more"] ["told", "colour"] (defScope (top 40)) := ⟨rfl, rfl, rfl, by decide +kernel, rfl, by decide +kernel, by decide +kernel⟩
theorem sc_apart : FnScope ["one", "other", "units", "colour"] ["one", "other"] (defScope (top 54)) := ⟨rfl, rfl, rfl, by decide +kernel, rfl, by decide +kernel, by decide +kernel⟩
theorem sc_are_alike : FnScope ["one", "other"] ["one", "other"] (defScope (top 53)) := ⟨rfl, rfl, rfl, by decide +kernel, rfl, by decide +kernel, by decide +kernel⟩
theorem sc_Wide_init : FnScope ["self", "rows", "added"] ["self", "rows", "added"] (defScope (inClass (top 43) 0)) := ⟨rfl, rfl, rfl, by decide +kernel, rfl, by decide +kernel, by decide +kernel⟩
theorem sc_column : FnScope ["rows", "place", "row"] ["rows", "place"] (defScope (top 41)) := ⟨rfl, rfl, rfl, by decide +kernel, rfl, by decide +kernel, by decide +kernel⟩
theorem sc_squares_times : FnScope ["rows", "others", "row", "place"] ["rows", "others"] (defScope (top 42)) := ⟨rfl, rfl, rfl, by decide +kernel, rfl, by decide +kernel, by decide +kernel⟩
theorem sc_behind : FnScope ["one", "other", "rows"] ["one", "other"] (defScope (top 45)) := ⟨rfl, rfl, rfl, by decide +kernel, rfl, by decide +kernel, by decide +kernel⟩
theorem sc_minus : FnScope ["one", "other"] ["one", "other"] (defScope (top 27)) := ⟨rfl, rfl, rfl, by decide +kernel, rfl, by decide +kernel, by decide +kernel⟩
theorem sc_minor : FnScope ["rows", "line", "place", "lines", "left", "found", "number", "row", "one"] ["rows", "line", "place"] (defScope (top 47)) := ⟨rfl, rfl, rfl, by decide +kernel, rfl, by decide +kernel, by decide +kernel⟩
theorem sc_determinant : FnScope ["told", "found", "place"] ["told"] (defScope (top 46)) := ⟨rfl, rfl, rfl, by decide +kernel, rfl, by decide +kernel, by decide +kernel⟩
theorem sc_can_turn : FnScope ["told"] ["told"] (defScope (top 48)) := ⟨rfl, rfl, rfl, by decide +kernel, rfl, by decide +kernel, by decide +kernel⟩
theorem sc_difference : FnScope ["one", "other", "first", "second"] ["one", "other"] (defScope (top 58)) := ⟨rfl, rfl, rfl, by decide +kernel, rfl, by decide +kernel, by decide +kernel⟩
theorem sc_is_colour : FnScope ["value", "one"] ["value"] (defScope (top 37)) := ⟨rfl, rfl, rfl, by decide +kernel, rfl, by decide +kernel, by decide +kernel⟩
theorem sc_is_lost_way : FnScope ["told", "value", "line"] ["told", "value"] (defScope (top 52)) := ⟨rfl, rfl, rfl, by decide +kernel, rfl, by decide +kernel, by decide +kernel⟩
theorem sc_keeps_greys : FnScope ["told", "sums", "row"] ["told"] (defScope (top 56)) := ⟨rfl, rfl, rfl, by decide +kernel, rfl, by decide +kernel, by decide +kernel⟩
theorem sc_across : FnScope ["rows", "lines", "one", "two", "three", "row"] ["rows"] (defScope (top 51)) := ⟨rfl, rfl, rfl, by decide +kernel, rfl, by decide +kernel, by decide +kernel⟩
theorem sc_lost_way : FnScope ["told", "line", "found", "place"] ["told"] (defScope (top 50)) := ⟨rfl, rfl, rfl, by decide +kernel, rfl, by decide +kernel, by decide +kernel⟩
theorem sc_same_for : FnScope ["told", "ones", "line", "place", "row"] ["told"] (defScope (top 55)) := ⟨rfl, rfl, rfl, by decide +kernel, rfl, by decide +kernel, by decide +kernel⟩
theorem sc_by : FnScope ["one", "other"] ["one", "other"] (defScope (top 29)) := ⟨rfl, rfl, rfl, by decide +kernel, rfl, by decide +kernel, by decide +kernel⟩
theorem sc_turned : FnScope ["told", "whole", "rows", "line", "back", "place", "row", "one"] ["told"] (defScope (top 49)) := ⟨rfl, rfl, rfl, by decide +kernel, rfl, by decide +kernel, by decide +kernel⟩
theorem sc_white_map : FnScope ["one", "other", "rows", "place", "number", "line", "row"] ["one", "other"] (defScope (top 57)) := ⟨rfl, rfl, rfl, by decide +kernel, rfl, by decide +kernel, by decide +kernel⟩
theorem sc_wide : FnScope ["told"] ["told"] (defScope (top 44)) := ⟨rfl, rfl, rfl, by decide +kernel, rfl, by decide +kernel, by decide +kernel⟩
theorem sc_law : FnScope ["script", "row", "turn", "parts", "other", "one", "two", "colour", "both", "told", "whole_now", "back", "gone", "try_now", "rival", "units", "unlike", "unit", "greys", "white", "found", "k", "each", "line", "level", "grey"] ["script"] (defScope (top 80)) := ⟨rfl, rfl, rfl, by decide +kernel, rfl, by decide +kernel, by decide +kernel⟩
theorem sc__law_told : FnScope ["call", "e"] ["call"] (defScope (top 65)) := ⟨rfl, rfl, rfl, by decide +kernel, rfl, by decide +kernel, by decide +kernel⟩
theorem sc_lam0 : FnScope ["row", "ahead"] ["row", "ahead"] (lamScope (defScope (inClass (top 36) 0)) ls_0) := ⟨rfl, rfl, rfl, by decide +kernel, rfl, by decide +kernel, by decide +kernel⟩
structure Cn (P : Program) (w : World) (K : PySem.W.Frag) (mg : Str → Option Value) (base : Heap) : Prop where
  d__law_refusal : ∃ fd, FunD K "_law_refusal" "_law_refusal" (defArgs (top 64)) (defBody (top 64)) (defScope (top 64)) [] [] (He.ga K "_law_refusal") fd
  g__law_refusal : mg "_law_refusal" = some (.ref (He.ga K "_law_refusal"))
  d_is_row : ∃ fd, FunD K "is_row" "is_row" (defArgs (top 18)) (defBody (top 18)) (defScope (top 18)) [] [] (He.ga K "is_row") fd
  g_is_row : mg "is_row" = some (.ref (He.ga K "is_row"))
  d_common : ∃ fd, FunD K "common" "common" (defArgs (top 20)) (defBody (top 20)) (defScope (top 20)) [] [] (He.ga K "common") fd
  g_common : mg "common" = some (.ref (He.ga K "common"))
  d_is_whole : ∃ fd, FunD K "is_whole" "is_whole" (defArgs (top 17)) (defBody (top 17)) (defScope (top 17)) [] [] (He.ga K "is_whole") fd
  g_is_whole : mg "is_whole" = some (.ref (He.ga K "is_whole"))
  d_is_fraction : ∃ fd, FunD K "is_fraction" "is_fraction" (defArgs (top 25)) (defBody (top 25)) (defScope (top 25)) [] [] (He.ga K "is_fraction") fd
  g_is_fraction : mg "is_fraction" = some (.ref (He.ga K "is_fraction"))
  d_is_small : ∃ fd, FunD K "is_small" "is_small" (defArgs (top 34)) (defBody (top 34)) (defScope (top 34)) [] [] (He.ga K "is_small") fd
  g_is_small : mg "is_small" = some (.ref (He.ga K "is_small"))
  d_is_line : ∃ fd, FunD K "is_line" "is_line" (defArgs (top 35)) (defBody (top 35)) (defScope (top 35)) [] [] (He.ga K "is_line") fd
  g_is_line : mg "is_line" = some (.ref (He.ga K "is_line"))
  d_first_wrong : ∃ fd, FunD K "first_wrong" "first_wrong" (defArgs (top 19)) (defBody (top 19)) (defScope (top 19)) [] [] (He.ga K "first_wrong") fd
  g_first_wrong : mg "first_wrong" = some (.ref (He.ga K "first_wrong"))
  d_place_told : ∃ fd, FunD K "place_told" "place_told" (defArgs (top 21)) (defBody (top 21)) (defScope (top 21)) [] [] (He.ga K "place_told") fd
  g_place_told : mg "place_told" = some (.ref (He.ga K "place_told"))
  d_require_part : ∃ fd, FunD K "require_part" "require_part" (defArgs (top 22)) (defBody (top 22)) (defScope (top 22)) [] [] (He.ga K "require_part") fd
  g_require_part : mg "require_part" = some (.ref (He.ga K "require_part"))
  d_Map_init : ∃ fd, FunD K "__init__" "Map.__init__" (defArgs (inClass (top 36) 0)) (defBody (inClass (top 36) 0)) (defScope (inClass (top 36) 0)) [] [] (He.ma K (He.ga K "Map") "__init__") fd
  m_Map_init : Mk K (He.ga K "Map") (He.ma K (He.ga K "Map") "__init__")
  d__law_alike : ∃ fd, FunD K "_law_alike" "_law_alike" (defArgs (top 62)) (defBody (top 62)) (defScope (top 62)) [] [] (He.ga K "_law_alike") fd
  g__law_alike : mg "_law_alike" = some (.ref (He.ga K "_law_alike"))
  d__law_gcd : ∃ fd, FunD K "_law_gcd" "_law_gcd" (defArgs (top 66)) (defBody (top 66)) (defScope (top 66)) [] [] (He.ga K "_law_gcd") fd
  g__law_gcd : mg "_law_gcd" = some (.ref (He.ga K "_law_gcd"))
  d__law_frac : ∃ fd, FunD K "_law_frac" "_law_frac" (defArgs (top 67)) (defBody (top 67)) (defScope (top 67)) [] [] (He.ga K "_law_frac") fd
  g__law_frac : mg "_law_frac" = some (.ref (He.ga K "_law_frac"))
  d__law_taken : ∃ fd, FunD K "_law_taken" "_law_taken" (defArgs (top 60)) (defBody (top 60)) (defScope (top 60)) [] [] (He.ga K "_law_taken") fd
  g__law_taken : mg "_law_taken" = some (.ref (He.ga K "_law_taken"))
  d__law_pick : ∃ fd, FunD K "_law_pick" "_law_pick" (defArgs (top 61)) (defBody (top 61)) (defScope (top 61)) [] [] (He.ga K "_law_pick") fd
  g__law_pick : mg "_law_pick" = some (.ref (He.ga K "_law_pick"))
  d__law_level : ∃ fd, FunD K "_law_level" "_law_level" (defArgs (top 73)) (defBody (top 73)) (defScope (top 73)) [] [] (He.ga K "_law_level") fd
  g__law_level : mg "_law_level" = some (.ref (He.ga K "_law_level"))
  d__law_small : ∃ fd, FunD K "_law_small" "_law_small" (defArgs (top 74)) (defBody (top 74)) (defScope (top 74)) [] [] (He.ga K "_law_small") fd
  g__law_small : mg "_law_small" = some (.ref (He.ga K "_law_small"))
  d__law_colour : ∃ fd, FunD K "_law_colour" "_law_colour" (defArgs (top 79)) (defBody (top 79)) (defScope (top 79)) [] [] (He.ga K "_law_colour") fd
  g__law_colour : mg "_law_colour" = some (.ref (He.ga K "_law_colour"))
  d__law_add : ∃ fd, FunD K "_law_add" "_law_add" (defArgs (top 68)) (defBody (top 68)) (defScope (top 68)) [] [] (He.ga K "_law_add") fd
  g__law_add : mg "_law_add" = some (.ref (He.ga K "_law_add"))
  d__law_mul : ∃ fd, FunD K "_law_mul" "_law_mul" (defArgs (top 70)) (defBody (top 70)) (defScope (top 70)) [] [] (He.ga K "_law_mul") fd
  g__law_mul : mg "_law_mul" = some (.ref (He.ga K "_law_mul"))
  d__law_sub : ∃ fd, FunD K "_law_sub" "_law_sub" (defArgs (top 69)) (defBody (top 69)) (defScope (top 69)) [] [] (He.ga K "_law_sub") fd
  g__law_sub : mg "_law_sub" = some (.ref (He.ga K "_law_sub"))
  d__law_det : ∃ fd, FunD K "_law_det" "_law_det" (defArgs (top 78)) (defBody (top 78)) (defScope (top 78)) [] [] (He.ga K "_law_det") fd
  g__law_det : mg "_law_det" = some (.ref (He.ga K "_law_det"))
  d__law_sum : ∃ fd, FunD K "_law_sum" "_law_sum" (defArgs (top 71)) (defBody (top 71)) (defScope (top 71)) [] [] (He.ga K "_law_sum") fd
  g__law_sum : mg "_law_sum" = some (.ref (He.ga K "_law_sum"))
  d__law_dot : ∃ fd, FunD K "_law_dot" "_law_dot" (defArgs (top 76)) (defBody (top 76)) (defScope (top 76)) [] [] (He.ga K "_law_dot") fd
  g__law_dot : mg "_law_dot" = some (.ref (He.ga K "_law_dot"))
  d__law_is_frac : ∃ fd, FunD K "_law_is_frac" "_law_is_frac" (defArgs (top 72)) (defBody (top 72)) (defScope (top 72)) [] [] (He.ga K "_law_is_frac") fd
  g__law_is_frac : mg "_law_is_frac" = some (.ref (He.ga K "_law_is_frac"))
  d__law_map : ∃ fd, FunD K "_law_map" "_law_map" (defArgs (top 75)) (defBody (top 75)) (defScope (top 75)) [] [] (He.ga K "_law_map") fd
  g__law_map : mg "_law_map" = some (.ref (He.ga K "_law_map"))
  d__law_same : ∃ fd, FunD K "_law_same" "_law_same" (defArgs (top 63)) (defBody (top 63)) (defScope (top 63)) [] [] (He.ga K "_law_same") fd
  g__law_same : mg "_law_same" = some (.ref (He.ga K "_law_same"))
  d__law_through : ∃ fd, FunD K "_law_through" "_law_through" (defArgs (top 77)) (defBody (top 77)) (defScope (top 77)) [] [] (He.ga K "_law_through") fd
  g__law_through : mg "_law_through" = some (.ref (He.ga K "_law_through"))
  d_fraction : ∃ fd, FunD K "fraction" "fraction" (defArgs (top 24)) (defBody (top 24)) (defScope (top 24)) [] [] (He.ga K "fraction") fd
  g_fraction : mg "fraction" = some (.ref (He.ga K "fraction"))
  d_times : ∃ fd, FunD K "times" "times" (defArgs (top 28)) (defBody (top 28)) (defScope (top 28)) [] [] (He.ga K "times") fd
  g_times : mg "times" = some (.ref (He.ga K "times"))
  d_plus : ∃ fd, FunD K "plus" "plus" (defArgs (top 26)) (defBody (top 26)) (defScope (top 26)) [] [] (He.ga K "plus") fd
  g_plus : mg "plus" = some (.ref (He.ga K "plus"))
  d_total : ∃ fd, FunD K "total" "total" (defArgs (top 30)) (defBody (top 30)) (defScope (top 30)) [] [] (He.ga K "total") fd
  g_total : mg "total" = some (.ref (He.ga K "total"))
  d_line_times : ∃ fd, FunD K "line_times" "line_times" (defArgs (top 39)) (defBody (top 39)) (defScope (top 39)) [] [] (He.ga K "line_times") fd
  g_line_times : mg "line_times" = some (.ref (He.ga K "line_times"))
  d_require_colour : ∃ fd, FunD K "require_colour" "require_colour" (defArgs (top 38)) (defBody (top 38)) (defScope (top 38)) [] [] (He.ga K "require_colour") fd
  g_require_colour : mg "require_colour" = some (.ref (He.ga K "require_colour"))
  d_mapped : ∃ fd, FunD K "mapped" "mapped" (defArgs (top 40)) (defBody (top 40)) (defScope (top 40)) [] [] (He.ga K "mapped") fd
  g_mapped : mg "mapped" = some (.ref (He.ga K "mapped"))
  d_apart : ∃ fd, FunD K "apart" "apart" (defArgs (top 54)) (defBody (top 54)) (defScope (top 54)) [] [] (He.ga K "apart") fd
  g_apart : mg "apart" = some (.ref (He.ga K "apart"))
  d_are_alike : ∃ fd, FunD K "are_alike" "are_alike" (defArgs (top 53)) (defBody (top 53)) (defScope (top 53)) [] [] (He.ga K "are_alike") fd
  g_are_alike : mg "are_alike" = some (.ref (He.ga K "are_alike"))
  d_Wide_init : ∃ fd, FunD K "__init__" "Wide.__init__" (defArgs (inClass (top 43) 0)) (defBody (inClass (top 43) 0)) (defScope (inClass (top 43) 0)) [] [] (He.ma K (He.ga K "Wide") "__init__") fd
  m_Wide_init : Mk K (He.ga K "Wide") (He.ma K (He.ga K "Wide") "__init__")
  d_column : ∃ fd, FunD K "column" "column" (defArgs (top 41)) (defBody (top 41)) (defScope (top 41)) [] [] (He.ga K "column") fd
  g_column : mg "column" = some (.ref (He.ga K "column"))
  d_squares_times : ∃ fd, FunD K "squares_times" "squares_times" (defArgs (top 42)) (defBody (top 42)) (defScope (top 42)) [] [] (He.ga K "squares_times") fd
  g_squares_times : mg "squares_times" = some (.ref (He.ga K "squares_times"))
  d_behind : ∃ fd, FunD K "behind" "behind" (defArgs (top 45)) (defBody (top 45)) (defScope (top 45)) [] [] (He.ga K "behind") fd
  g_behind : mg "behind" = some (.ref (He.ga K "behind"))
  d_minus : ∃ fd, FunD K "minus" "minus" (defArgs (top 27)) (defBody (top 27)) (defScope (top 27)) [] [] (He.ga K "minus") fd
  g_minus : mg "minus" = some (.ref (He.ga K "minus"))
  d_minor : ∃ fd, FunD K "minor" "minor" (defArgs (top 47)) (defBody (top 47)) (defScope (top 47)) [] [] (He.ga K "minor") fd
  g_minor : mg "minor" = some (.ref (He.ga K "minor"))
  d_determinant : ∃ fd, FunD K "determinant" "determinant" (defArgs (top 46)) (defBody (top 46)) (defScope (top 46)) [] [] (He.ga K "determinant") fd
  g_determinant : mg "determinant" = some (.ref (He.ga K "determinant"))
  d_can_turn : ∃ fd, FunD K "can_turn" "can_turn" (defArgs (top 48)) (defBody (top 48)) (defScope (top 48)) [] [] (He.ga K "can_turn") fd
  g_can_turn : mg "can_turn" = some (.ref (He.ga K "can_turn"))
  d_difference : ∃ fd, FunD K "difference" "difference" (defArgs (top 58)) (defBody (top 58)) (defScope (top 58)) [] [] (He.ga K "difference") fd
  g_difference : mg "difference" = some (.ref (He.ga K "difference"))
  d_is_colour : ∃ fd, FunD K "is_colour" "is_colour" (defArgs (top 37)) (defBody (top 37)) (defScope (top 37)) [] [] (He.ga K "is_colour") fd
  g_is_colour : mg "is_colour" = some (.ref (He.ga K "is_colour"))
  d_is_lost_way : ∃ fd, FunD K "is_lost_way" "is_lost_way" (defArgs (top 52)) (defBody (top 52)) (defScope (top 52)) [] [] (He.ga K "is_lost_way") fd
  g_is_lost_way : mg "is_lost_way" = some (.ref (He.ga K "is_lost_way"))
  d_keeps_greys : ∃ fd, FunD K "keeps_greys" "keeps_greys" (defArgs (top 56)) (defBody (top 56)) (defScope (top 56)) [] [] (He.ga K "keeps_greys") fd
  g_keeps_greys : mg "keeps_greys" = some (.ref (He.ga K "keeps_greys"))
  d_across : ∃ fd, FunD K "across" "across" (defArgs (top 51)) (defBody (top 51)) (defScope (top 51)) [] [] (He.ga K "across") fd
  g_across : mg "across" = some (.ref (He.ga K "across"))
  d_lost_way : ∃ fd, FunD K "lost_way" "lost_way" (defArgs (top 50)) (defBody (top 50)) (defScope (top 50)) [] [] (He.ga K "lost_way") fd
  g_lost_way : mg "lost_way" = some (.ref (He.ga K "lost_way"))
  d_same_for : ∃ fd, FunD K "same_for" "same_for" (defArgs (top 55)) (defBody (top 55)) (defScope (top 55)) [] [] (He.ga K "same_for") fd
  g_same_for : mg "same_for" = some (.ref (He.ga K "same_for"))
  d_by : ∃ fd, FunD K "by" "by" (defArgs (top 29)) (defBody (top 29)) (defScope (top 29)) [] [] (He.ga K "by") fd
  g_by : mg "by" = some (.ref (He.ga K "by"))
  d_turned : ∃ fd, FunD K "turned" "turned" (defArgs (top 49)) (defBody (top 49)) (defScope (top 49)) [] [] (He.ga K "turned") fd
  g_turned : mg "turned" = some (.ref (He.ga K "turned"))
  d_white_map : ∃ fd, FunD K "white_map" "white_map" (defArgs (top 57)) (defBody (top 57)) (defScope (top 57)) [] [] (He.ga K "white_map") fd
  g_white_map : mg "white_map" = some (.ref (He.ga K "white_map"))
  d_wide : ∃ fd, FunD K "wide" "wide" (defArgs (top 44)) (defBody (top 44)) (defScope (top 44)) [] [] (He.ga K "wide") fd
  g_wide : mg "wide" = some (.ref (He.ga K "wide"))
  d_law : ∃ fd, FunD K "law" "law" (defArgs (top 80)) (defBody (top 80)) (defScope (top 80)) [] [] (He.ga K "law") fd
  g_law : mg "law" = some (.ref (He.ga K "law"))
  d__law_told : ∃ fd, FunD K "_law_told" "_law_told" (defArgs (top 65)) (defBody (top 65)) (defScope (top 65)) [] [] (He.ga K "_law_told") fd
  g__law_told : mg "_law_told" = some (.ref (He.ga K "_law_told"))
  c_Map : mg "Map" = some (.ref (He.ga K "Map"))
  c_Wide : mg "Wide" = some (.ref (He.ga K "Wide"))
  n_int : mg "int" = none
  n_isinstance : mg "isinstance" = none
  n_bool : mg "bool" = none
  n_tuple : mg "tuple" = none
  n_len : mg "len" = none
  n_enumerate : mg "enumerate" = none
  n_abs : mg "abs" = none
  n_all : mg "all" = none
  n_zip : mg "zip" = none
  n_range : mg "range" = none
  n_any : mg "any" = none
  n_list : mg "list" = none
  n_str : mg "str" = none
  n_repr : mg "repr" = none
  n_ValueError : mg "ValueError" = none
  n_super : mg "super" = none
  i_MOST : ∃ t, mg "MOST" = some (.int 10000 t)
  i_SIZE : ∃ t, mg "SIZE" = some (.int 3 t)
  gx_BadPart : mg "BadPart" = some (.ref (He.ga K "BadPart"))
  gx_BadNumber : mg "BadNumber" = some (.ref (He.ga K "BadNumber"))
  gx_Unknown : mg "Unknown" = some (.ref (He.ga K "Unknown"))
  gx_BadPoint : mg "BadPoint" = some (.ref (He.ga K "BadPoint"))
  gx_BadBytes : mg "BadBytes" = some (.ref (He.ga K "BadBytes"))
  gx_BadGroup : mg "BadGroup" = some (.ref (He.ga K "BadGroup"))
  gx_BadPicture : mg "BadPicture" = some (.ref (He.ga K "BadPicture"))
  gx_BadChange : mg "BadChange" = some (.ref (He.ga K "BadChange"))
  gx_TooMany : mg "TooMany" = some (.ref (He.ga K "TooMany"))
  gx_BadText : mg "BadText" = some (.ref (He.ga K "BadText"))
  gx_BadLine : mg "BadLine" = some (.ref (He.ga K "BadLine"))
  gx_NotTurned : mg "NotTurned" = some (.ref (He.ga K "NotTurned"))
  gx_BadClaim : mg "BadClaim" = some (.ref (He.ga K "BadClaim"))
  gx_NothingDone : mg "NothingDone" = some (.ref (He.ga K "NothingDone"))
  gx_TintError : mg "TintError" = some (.ref (He.ga K "TintError"))
  xm_BadPart : PySem.W.exmOne K (.ref (He.ga K "BadPart")) (.ref (He.ga K "TintError")) = some true
  xm_BadNumber : PySem.W.exmOne K (.ref (He.ga K "BadNumber")) (.ref (He.ga K "TintError")) = some true
  xm_Unknown : PySem.W.exmOne K (.ref (He.ga K "Unknown")) (.ref (He.ga K "TintError")) = some true
  xm_BadPoint : PySem.W.exmOne K (.ref (He.ga K "BadPoint")) (.ref (He.ga K "TintError")) = some true
  xm_BadBytes : PySem.W.exmOne K (.ref (He.ga K "BadBytes")) (.ref (He.ga K "TintError")) = some true
  xm_BadGroup : PySem.W.exmOne K (.ref (He.ga K "BadGroup")) (.ref (He.ga K "TintError")) = some true
  xm_BadPicture : PySem.W.exmOne K (.ref (He.ga K "BadPicture")) (.ref (He.ga K "TintError")) = some true
  xm_BadChange : PySem.W.exmOne K (.ref (He.ga K "BadChange")) (.ref (He.ga K "TintError")) = some true
  xm_TooMany : PySem.W.exmOne K (.ref (He.ga K "TooMany")) (.ref (He.ga K "TintError")) = some true
  xm_BadText : PySem.W.exmOne K (.ref (He.ga K "BadText")) (.ref (He.ga K "TintError")) = some true
  xm_BadLine : PySem.W.exmOne K (.ref (He.ga K "BadLine")) (.ref (He.ga K "TintError")) = some true
  xm_NotTurned : PySem.W.exmOne K (.ref (He.ga K "NotTurned")) (.ref (He.ga K "TintError")) = some true
  xm_BadClaim : PySem.W.exmOne K (.ref (He.ga K "BadClaim")) (.ref (He.ga K "TintError")) = some true
  xm_NothingDone : PySem.W.exmOne K (.ref (He.ga K "NothingDone")) (.ref (He.ga K "TintError")) = some true
  isc : IsC K (tb K) cs
  x_BadPart : Exc P K mg (tb K) 2 "BadPart" ["part", "place"]
  x_BadNumber : Exc P K mg (tb K) 3 "BadNumber" ["value"]
  x_Unknown : Exc P K mg (tb K) 4 "Unknown" ["name"]
  x_BadPoint : Exc P K mg (tb K) 5 "BadPoint" ["place"]
  x_BadBytes : Exc P K mg (tb K) 6 "BadBytes" ["place"]
  x_BadGroup : Exc P K mg (tb K) 7 "BadGroup" ["place"]
  x_BadPicture : Exc P K mg (tb K) 8 "BadPicture" ["place"]
  x_BadChange : Exc P K mg (tb K) 9 "BadChange" ["place"]
  x_TooMany : Exc P K mg (tb K) 10 "TooMany" ["limit"]
  x_BadText : Exc P K mg (tb K) 11 "BadText" ["line"]
  x_BadLine : Exc P K mg (tb K) 12 "BadLine" ["line"]
  x_NotTurned : Exc P K mg (tb K) 13 "NotTurned" []
  x_BadClaim : Exc P K mg (tb K) 14 "BadClaim" []
  x_NothingDone : Exc P K mg (tb K) 15 "NothingDone" []
  isx : IsX K (tb K) es
  t_law : LamX.TabB base mg (codeF K (He.ga K "law")) ((tb K).ta 0)
  t_Map_init : LamX.TabB base mg (codeF K (He.ma K (He.ga K "Map") "__init__")) ((tb K).ta 1)
section
variable {P : Program} {w : World} {K : PySem.W.Frag} {mg : Str → Option Value} {base : Heap}
theorem bo__law_refusal (C : Cn P w K mg base) {cdv : Value} {A : Around} {outer : List Env} {s : Shared} {H : Hp} {a : Addr} {c : Nat} {d : Option Addr} {oe : Obj} {vs : Array Value} (hc : c ∈ es) (hz : Zc (.ref ((tb K).cls c)) d oe) (hd : oe.data = .fields vs) (hr : L2H.RoomH 0 (A.deeper (envOfC "_law_refusal" (defScope (top 64)) s.heap.objs.size (He.ga K "_law_refusal") cdv))) :
    QSs (L2H.cxH C8.CX0 P w K mg base ["e", "kinds", "marks", "name"] "_law_refusal" (defScope (top 64)) (He.ga K "_law_refusal") cdv A outer s H C8.E0 (a, oe)) ((tb K).x (some (a, c, d))) (fun _ _ _ _ => False) (defBody (top 64)) b__law_refusal := by
  have hh : Held (L2H.cxH C8.CX0 P w K mg base ["e", "kinds", "marks", "name"] "_law_refusal" (defScope (top 64)) (He.ga K "_law_refusal") cdv A outer s H C8.E0 (a, oe)) ((tb K).x (some (a, c, d))) es := ⟨a, c, d, oe, vs, rfl, hc, List.mem_cons_self, hz, hd⟩
  exact (qss_cons (q_set (i := 1) sc__law_refusal.nd (by rfl) (by first | exact Or.inl rfl | exact Or.inr rfl) (qf (q_lst (qs_cons q_str (qs_cons q_str (qs_cons q_str (qs_cons q_str (qs_cons q_str (qs_cons q_str (qs_cons q_str (qs_cons q_str (qs_cons q_str (qs_cons q_str (qs_cons q_str (qs_cons q_str (qs_cons q_str (qs_cons q_str qs_nil)))))))))))))))))
    (qss_cons (q_set (i := 2) sc__law_refusal.nd (by rfl) (by first | exact Or.inl rfl | exact Or.inr rfl) (qf (q_lst (qs_cons (q_isX (n := 2) hh C.isx.x C.x_BadPart.mg_ (by rfl) (by rfl) C.n_isinstance (qv 0)) (qs_cons (q_isX (n := 3) hh C.isx.x C.x_BadNumber.mg_ (by rfl) (by rfl) C.n_isinstance (qv 0)) (qs_cons (q_isX (n := 4) hh C.isx.x C.x_Unknown.mg_ (by rfl) (by rfl) C.n_isinstance (qv 0)) (qs_cons (q_isX (n := 5) hh C.isx.x C.x_BadPoint.mg_ (by rfl) (by rfl) C.n_isinstance (qv 0)) (qs_cons (q_isX (n := 6) hh C.isx.x C.x_BadBytes.mg_ (by rfl) (by rfl) C.n_isinstance (qv 0)) (qs_cons (q_isX (n := 7) hh C.isx.x C.x_BadGroup.mg_ (by rfl) (by rfl) C.n_isinstance (qv 0)) (qs_cons (q_isX (n := 8) hh C.isx.x C.x_BadPicture.mg_ (by rfl) (by rfl) C.n_isinstance (qv 0)) (qs_cons (q_isX (n := 9) hh C.isx.x C.x_BadChange.mg_ (by rfl) (by rfl) C.n_isinstance (qv 0)) (qs_cons (q_isX (n := 10) hh C.isx.x C.x_TooMany.mg_ (by rfl) (by rfl) C.n_isinstance (qv 0)) (qs_cons (q_isX (n := 11) hh C.isx.x C.x_BadText.mg_ (by rfl) (by rfl) C.n_isinstance (qv 0)) (qs_cons (q_isX (n := 12) hh C.isx.x C.x_BadLine.mg_ (by rfl) (by rfl) C.n_isinstance (qv 0)) (qs_cons (q_isX (n := 13) hh C.isx.x C.x_NotTurned.mg_ (by rfl) (by rfl) C.n_isinstance (qv 0)) (qs_cons (q_isX (n := 14) hh C.isx.x C.x_BadClaim.mg_ (by rfl) (by rfl) C.n_isinstance (qv 0)) (qs_cons (q_isX (n := 15) hh C.isx.x C.x_NothingDone.mg_ (by rfl) (by rfl) C.n_isinstance (qv 0)) qs_nil)))))))))))))))))
    (qss_cons (q_ifS (qw_pt (qw_or (qt_ne (hu64H hr) (qb (q_count (qb (qv 2)) (qb q_bl))) (qb q_int)) (qw_or1 (qt_not (qt_val (q_isXv hh C.isx.x C.n_ValueError (by rfl) (by rfl) C.n_isinstance (qv 0))))))) (qss_one (q_ret (q_tup (qs_cons q_str qs_nil)))) qss_nil)
    (qss_cons (q_set (i := 3) sc__law_refusal.nd (by rfl) (by first | exact Or.inl rfl | exact Or.inr rfl) (q_ix (qb (qv 1)) (qb (q_index (hu64H hr) (hu65H hr) (qb (qv 2)) (qb q_bl)))))
    (qss_cons (q_ifS (qt_eq (hu64H hr) (qb (qv 3)) (qb q_str)) (qss_one (q_ret (q_tup (qs_cons (qv 3) (qs_cons (q_fldX (ixs := [(2, 0)]) hh C.isx.x (qv 0)) (qs_cons (q_fldX (ixs := [(2, 1), (5, 0), (6, 0), (7, 0), (8, 0), (9, 0)]) hh C.isx.x (qv 0)) qs_nil)))))) qss_nil)
    (qss_cons (q_ifS (qt_eq (hu64H hr) (qb (qv 3)) (qb q_str)) (qss_one (q_ret (q_tup (qs_cons (qv 3) (qs_cons (q_fldX (ixs := [(3, 0)]) hh C.isx.x (qv 0)) qs_nil))))) qss_nil)
    (qss_cons (q_ifS (qt_eq (hu64H hr) (qb (qv 3)) (qb q_str)) (qss_one (q_ret (q_tup (qs_cons (qv 3) (qs_cons (q_fldX (ixs := [(4, 0)]) hh C.isx.x (qv 0)) qs_nil))))) qss_nil)
    (qss_cons (q_ifS (qt_eq (hu64H hr) (qb (qv 3)) (qb q_str)) (qss_one (q_ret (q_tup (qs_cons (qv 3) (qs_cons (q_fldX (ixs := [(10, 0)]) hh C.isx.x (qv 0)) qs_nil))))) qss_nil)
    (qss_cons (q_ifS (qt_in (hu65H hr) (qb (qv 3)) (qb (q_tup (qs_cons q_str (qs_cons q_str qs_nil))))) (qss_one (q_ret (q_tup (qs_cons (qv 3) (qs_cons (q_fldX (ixs := [(11, 0), (12, 0)]) hh C.isx.x (qv 0)) qs_nil))))) qss_nil)
    (qss_cons (q_ifS (qt_in (hu65H hr) (qb (qv 3)) (qb (q_tup (qs_cons q_str (qs_cons q_str (qs_cons q_str qs_nil)))))) (qss_one (q_ret (q_tup (qs_cons (qv 3) qs_nil)))) qss_nil)
    (qss_one (q_ret (q_tup (qs_cons (qv 3) (qs_cons (q_fldX (ixs := [(2, 1), (5, 0), (6, 0), (7, 0), (8, 0), (9, 0)]) hh C.isx.x (qv 0)) qs_nil)))))))))))))))
theorem bo_is_row (C : Cn P w K mg base) {cdv : Value} {A : Around} {outer : List Env} {s : Shared} {H : Hp} {E : XK} (hr : Room 0 (A.deeper (envOfC "is_row" (defScope (top 18)) s.heap.objs.size (He.ga K "is_row") cdv))) :
    QSs (cxOf (L2.CX P w) P w K mg base ["value", "size"] "is_row" (defScope (top 18)) (He.ga K "is_row") cdv A outer s H E) (tb K) (fun cls d _ H => E cls d H) (defBody (top 18)) b_is_row := by
  exact (qss_one (q_ret (q_and (q_isTy C.isc (by rfl) C.n_tuple (by rfl) C.n_isinstance (qb (qv 0))) (q_one (q_eq (hu64 hr) (qb (q_len (by rfl) C.n_len (qb (qv 0)))) (qb (qv 1)))))))
theorem ok_is_row (C : Cn P w K mg base) : Fn P w K mg base (tb K) 1 "is_row" 2 F_is_row := by
  obtain ⟨fd, F⟩ := C.d_is_row
  exact Fn.mk_ (fn_ok (N := ["value", "size"]) (ps := ["value", "size"]) F sc_is_row (by decide) fun cdv A outer s H E hr => bo_is_row C hr) C.g_is_row F.kp (F.bindsN (ps := ["value", "size"]) fun _ _ _ _ _ _ us hl => match us, hl with | [_, _], _ => rfl)
theorem bo_common (C : Cn P w K mg base) {cdv : Value} {A : Around} {outer : List Env} {s : Shared} {H : Hp} {E : XK} (hr : Room 0 (A.deeper (envOfC "common" (defScope (top 20)) s.heap.objs.size (He.ga K "common") cdv))) :
    QSs (cxOf (L2.CX P w) P w K mg base ["one", "other"] "common" (defScope (top 20)) (He.ga K "common") cdv A outer s H E) (tb K) (fun cls d _ H => E cls d H) (defBody (top 20)) b_common := by
  exact (qss_cons (q_par (i := 0) (j := 1) (by rfl) sc_common.nd (qx_val (q_abs (by rfl) C.n_abs (qb (qv 0))) (qx_val (q_abs (by rfl) C.n_abs (qb (qv 1))) qx_nil)))
    (qss_cons (q_while (fuel := fuel_common) (passes_of (by rfl)) (qt_gt (qb (qv 1)) (qb q_int)) (qss_one (q_par (i := 0) (j := 1) (by rfl) sc_common.nd (qx_val (qv 1) (qx_val (q_mod (qb (qv 0)) (qb (qv 1))) qx_nil)))))
    (qss_one (q_ret (qv 0)))))
theorem ok_common (C : Cn P w K mg base) : Fn P w K mg base (tb K) 1 "common" 2 F_common := by
  obtain ⟨fd, F⟩ := C.d_common
  exact Fn.mk_ (fn_ok (N := ["one", "other"]) (ps := ["one", "other"]) F sc_common (by decide) fun cdv A outer s H E hr => bo_common C hr) C.g_common F.kp (F.bindsN (ps := ["one", "other"]) fun _ _ _ _ _ _ us hl => match us, hl with | [_, _], _ => rfl)
theorem bo_is_whole (C : Cn P w K mg base) {cdv : Value} {A : Around} {outer : List Env} {s : Shared} {H : Hp} {E : XK} (hr : Room 0 (A.deeper (envOfC "is_whole" (defScope (top 17)) s.heap.objs.size (He.ga K "is_whole") cdv))) :
    QSs (cxOf (L2.CX P w) P w K mg base ["value"] "is_whole" (defScope (top 17)) (He.ga K "is_whole") cdv A outer s H E) (tb K) (fun cls d _ H => E cls d H) (defBody (top 17)) b_is_whole := by
  exact (qss_one (q_ret (q_and (q_isTy C.isc (by rfl) C.n_int (by rfl) C.n_isinstance (qb (qv 0))) (q_one (q_not (q_isTy C.isc (by rfl) C.n_bool (by rfl) C.n_isinstance (qb (qv 0))))))))
theorem ok_is_whole (C : Cn P w K mg base) : Fn P w K mg base (tb K) 1 "is_whole" 1 F_is_whole := by
  obtain ⟨fd, F⟩ := C.d_is_whole
  exact Fn.mk_ (fn_ok (N := ["value"]) (ps := ["value"]) F sc_is_whole (by decide) fun cdv A outer s H E hr => bo_is_whole C hr) C.g_is_whole F.kp (F.bindsN (ps := ["value"]) fun _ _ _ _ _ _ us hl => match us, hl with | [_], _ => rfl)
theorem bo_is_fraction (C : Cn P w K mg base) {cdv : Value} {A : Around} {outer : List Env} {s : Shared} {H : Hp} {E : XK} (hr : Room 1 (A.deeper (envOfC "is_fraction" (defScope (top 25)) s.heap.objs.size (He.ga K "is_fraction") cdv))) :
    QSs (cxOf (L2.CX P w) P w K mg base ["value"] "is_fraction" (defScope (top 25)) (He.ga K "is_fraction") cdv A outer s H E) (tb K) (fun cls d _ H => E cls d H) (defBody (top 25)) b_is_fraction := by
  exact (qss_cons (q_ifS (qw_pt (qw_or (qt_not (qt_val (q_call (ok_is_row C) hr (takes_of (by rfl) (by rfl) (by rfl) (by rfl)) (by decide) (by rfl) (qs_cons (qv 0) (qs_cons q_int qs_nil))))) (qw_or (qt_not (qt_val (q_call (ok_is_whole C) hr (takes_of (by rfl) (by rfl) (by rfl) (by rfl)) (by decide) (by rfl) (qs_cons (q_ix (qb (qv 0)) (qb q_int)) qs_nil)))) (qw_or1 (qt_not (qt_val (q_call (ok_is_whole C) hr (takes_of (by rfl) (by rfl) (by rfl) (by rfl)) (by decide) (by rfl) (qs_cons (q_ix (qb (qv 0)) (qb q_int)) qs_nil)))))))) (qss_one (q_ret q_bl)) qss_nil)
    (qss_one (q_ret (q_and (q_ge (qb (q_ix (qb (qv 0)) (qb q_int))) (qb q_int)) (q_one (q_eq (hu64 hr) (qb (q_call (ok_common C) hr (takes_of (by rfl) (by rfl) (by rfl) (by rfl)) (by decide) (by rfl) (qs_cons (q_ix (qb (qv 0)) (qb q_int)) (qs_cons (q_ix (qb (qv 0)) (qb q_int)) qs_nil)))) (qb q_int)))))))
theorem ok_is_fraction (C : Cn P w K mg base) : Fn P w K mg base (tb K) 2 "is_fraction" 1 F_is_fraction := by
  obtain ⟨fd, F⟩ := C.d_is_fraction
  exact Fn.mk_ (fn_ok (N := ["value"]) (ps := ["value"]) F sc_is_fraction (by decide) fun cdv A outer s H E hr => bo_is_fraction C hr) C.g_is_fraction F.kp (F.bindsN (ps := ["value"]) fun _ _ _ _ _ _ us hl => match us, hl with | [_], _ => rfl)
theorem bo_is_small (C : Cn P w K mg base) {cdv : Value} {A : Around} {outer : List Env} {s : Shared} {H : Hp} {E : XK} (hr : Room 2 (A.deeper (envOfC "is_small" (defScope (top 34)) s.heap.objs.size (He.ga K "is_small") cdv))) :
    QSs (cxOf (L2.CX P w) P w K mg base ["value"] "is_small" (defScope (top 34)) (He.ga K "is_small") cdv A outer s H E) (tb K) (fun cls d _ H => E cls d H) (defBody (top 34)) b_is_small := by
  exact (qss_one (q_ret (q_and (q_call (ok_is_fraction C) hr (takes_of (by rfl) (by rfl) (by rfl) (by rfl)) (by decide) (by rfl) (qs_cons (qv 0) qs_nil)) (q_and (q_le (qb (q_abs (by rfl) C.n_abs (qb (q_ix (qb (qv 0)) (qb q_int))))) (qb (q_gintE C.i_MOST))) (q_one (q_le (qb (q_ix (qb (qv 0)) (qb q_int))) (qb (q_gintE C.i_MOST))))))))
theorem ok_is_small (C : Cn P w K mg base) : Fn P w K mg base (tb K) 3 "is_small" 1 F_is_small := by
  obtain ⟨fd, F⟩ := C.d_is_small
  exact Fn.mk_ (fn_ok (N := ["value"]) (ps := ["value"]) F sc_is_small (by decide) fun cdv A outer s H E hr => bo_is_small C hr) C.g_is_small F.kp (F.bindsN (ps := ["value"]) fun _ _ _ _ _ _ us hl => match us, hl with | [_], _ => rfl)
theorem bo_is_line (C : Cn P w K mg base) {cdv : Value} {A : Around} {outer : List Env} {s : Shared} {H : Hp} {E : XK} (hr : Room 3 (A.deeper (envOfC "is_line" (defScope (top 35)) s.heap.objs.size (He.ga K "is_line") cdv))) :
    QSs (cxOf (L2.CX P w) P w K mg base ["row", "ahead", "one"] "is_line" (defScope (top 35)) (He.ga K "is_line") cdv A outer s H E) (tb K) (fun cls d _ H => E cls d H) (defBody (top 35)) b_is_line := by
  exact (qss_one (q_ret (q_and (q_call (ok_is_row C) hr (takes_of (by rfl) (by rfl) (by rfl) (by rfl)) (by decide) (by rfl) (qs_cons (qv 0) (qs_cons (q_gintE C.i_SIZE) qs_nil))) (q_one (q_all (by rfl) (by rfl) C.n_all (qb (qf (q_comp (by rfl) sc_is_line.nd (q_iSeq (qv 0)) (blkOk_by (own := [("one", 2)]) (by kernel_rfl)) (fun _ _ _ _ _ => (qg_name (i := 2) sc_is_line.nd)) (fun _ _ _ _ _ => qts_nil) (fun _ _ _ _ _ => (q_call (ok_is_small C) hr L2.takes0 (by decide) (by rfl) (qs_cons (qv 2) qs_nil)))))))))))
theorem ok_is_line (C : Cn P w K mg base) : Fn P w K mg base (tb K) 4 "is_line" 2 F_is_line := by
  obtain ⟨fd, F⟩ := C.d_is_line
  exact Fn.mk_ (fn_ok (N := ["row", "ahead", "one"]) (ps := ["row", "ahead"]) F sc_is_line (by decide) fun cdv A outer s H E hr => bo_is_line C hr) C.g_is_line F.kp (F.bindsN (ps := ["row", "ahead"]) fun _ _ _ _ _ _ us hl => match us, hl with | [_, _], _ => rfl)
theorem la_0 (C : Cn P w K mg base) : LamA P w K mg base (tb K) 4 0 2 L_0 :=
  ⟨lamArgs (defArgs (inClass (top 36) 0)) ls_0, lamBody ls_0, lamScope (defScope (inClass (top 36) 0)) ls_0, ["row", "ahead"], ["row", "ahead"], lm_0, rfl, sc_lam0, rfl, by decide, fun _ _ _ us hl => match us, hl with | [_, _], _ => rfl, rfl, fun f cdv A outer s H E hr => (q_call (ok_is_small C) hr (takes_of (by rfl) (by rfl) (by rfl) (by rfl)) (by decide) (by rfl) (qs_cons (qv 0) qs_nil))⟩
theorem fns_first_wrong (C : Cn P w K mg base) : ∀ q ∈ tbl_first_wrong, FnA P w K mg base (tb K) 4 q.1 2 q.2 := fun q hq => by
  have hq : q = (0, F_is_line) := by simpa [tbl_first_wrong] using hq
  subst hq
  · exact Fn.at_ ((ok_is_line C).le (by decide)) C.g_is_line
theorem lms_first_wrong (C : Cn P w K mg base) : ∀ q ∈ tll_first_wrong, LamA P w K mg base (tb K) 4 q.1 2 q.2 := fun q hq => by
  have hq : q = (0, L_0) := by simpa [tll_first_wrong] using hq
  subst hq
  · exact (la_0 C).le (by decide)
theorem bo_first_wrong (C : Cn P w K mg base) {cdv : Value} {A : Around} {outer : List Env} {s : Shared} {H : Hp} {E : XK} (hr : Room 4 (A.deeper (envOfC "first_wrong" (defScope (top 19)) s.heap.objs.size (He.ga K "first_wrong") cdv))) :
    QSs (cxOf (L2.CX P w) P w K mg base ["value", "least", "most", "judge", "place", "row"] "first_wrong" (defScope (top 19)) (He.ga K "first_wrong") cdv A outer s H E) (tb K) (fun cls d _ H => E cls d H) (defBody (top 19)) b_first_wrong := by
  exact (qss_cons (q_ifS (qw_pt (qw_or (qt_not (qt_val (q_isTy C.isc (by rfl) C.n_tuple (by rfl) C.n_isinstance (qb (qv 0))))) (qw_or1 (qt_not (qt_chain op_le o2_le op_le o2_le (qb (qv 1)) (qb (q_len (by rfl) C.n_len (qb (qv 0)))) (qb (qv 2))))))) (qss_one (q_ret (q_neg (qb q_int)))) qss_nil)
    (qss_cons (q_for (passes_of (by rfl)) (by rfl) (q_iEnum (by rfl) C.n_enumerate (qs_cons (qv 0) qs_nil)) (qg_tup (by rfl) (qgs_cons (qg_name (i := 4) sc_first_wrong.nd) (qgs_cons (qg_name (i := 5) sc_first_wrong.nd) qgs_nil))) (qss_one (q_ifS (qt_not (qt_val (q_callL (tbl := tbl_first_wrong) (tl := tll_first_wrong) (fns_first_wrong C) (lms_first_wrong C) hr (takes_of (by rfl) (by rfl) (by rfl) (by rfl)) (by decide) (by decide) (qs_cons (qv 5) (qs_cons (q_sliceA (qb (qv 0)) qo_none (qo_some (qv 4))) qs_nil))))) (qss_one (q_ret (qv 4))) qss_nil)))
    (qss_one (q_ret q_non))))
theorem ok_first_wrong (C : Cn P w K mg base) : Fn P w K mg base (tb K) 5 "first_wrong" 4 F_first_wrong := by
  obtain ⟨fd, F⟩ := C.d_first_wrong
  exact Fn.mk_ (fn_ok (N := ["value", "least", "most", "judge", "place", "row"]) (ps := ["value", "least", "most", "judge"]) F sc_first_wrong (by decide) fun cdv A outer s H E hr => bo_first_wrong C hr) C.g_first_wrong F.kp (F.bindsN (ps := ["value", "least", "most", "judge"]) fun _ _ _ _ _ _ us hl => match us, hl with | [_, _, _, _], _ => rfl)
theorem bo_place_told (C : Cn P w K mg base) {cdv : Value} {A : Around} {outer : List Env} {s : Shared} {H : Hp} {E : XK} (hr : Room 0 (A.deeper (envOfC "place_told" (defScope (top 21)) s.heap.objs.size (He.ga K "place_told") cdv))) :
    QSs (cxOf (L2.CX P w) P w K mg base ["place"] "place_told" (defScope (top 21)) (He.ga K "place_told") cdv A outer s H E) (tb K) (fun cls d _ H => E cls d H) (defBody (top 21)) b_place_told := by
  exact (qss_one (q_ret (q_if (qt_eq (hu64 hr) (qb (qv 0)) (qb (q_neg (qb q_int)))) q_non (qv 0))))
theorem ok_place_told (C : Cn P w K mg base) : Fn P w K mg base (tb K) 1 "place_told" 1 F_place_told := by
  obtain ⟨fd, F⟩ := C.d_place_told
  exact Fn.mk_ (fn_ok (N := ["place"]) (ps := ["place"]) F sc_place_told (by decide) fun cdv A outer s H E hr => bo_place_told C hr) C.g_place_told F.kp (F.bindsN (ps := ["place"]) fun _ _ _ _ _ _ us hl => match us, hl with | [_], _ => rfl)
theorem bo_require_part (C : Cn P w K mg base) {cdv : Value} {A : Around} {outer : List Env} {s : Shared} {H : Hp} {E : XK} (hr : Room 1 (A.deeper (envOfC "require_part" (defScope (top 22)) s.heap.objs.size (He.ga K "require_part") cdv))) :
    QSs (cxOf (L2.CX P w) P w K mg base ["part", "place"] "require_part" (defScope (top 22)) (He.ga K "require_part") cdv A outer s H E) (tb K) (fun cls d _ H => E cls d H) (defBody (top 22)) b_require_part := by
  exact (qss_one (q_ifS (qt_isNot (qb (qv 1)) (qb q_non)) (qss_one (q_raise C.x_BadPart (by rfl) hr (takes_of (by rfl) (by rfl) (by rfl) (by rfl)) (qs_cons (qv 0) (qs_cons (q_call (ok_place_told C) hr (takes_of (by rfl) (by rfl) (by rfl) (by rfl)) (by decide) (by rfl) (qs_cons (qv 1) qs_nil)) qs_nil)))) qss_nil))
theorem ok_require_part (C : Cn P w K mg base) : Fn P w K mg base (tb K) 2 "require_part" 2 F_require_part := by
  obtain ⟨fd, F⟩ := C.d_require_part
  exact Fn.mk_ (fn_ok (N := ["part", "place"]) (ps := ["part", "place"]) F sc_require_part (by decide) fun cdv A outer s H E hr => bo_require_part C hr) C.g_require_part F.kp (F.bindsN (ps := ["part", "place"]) fun _ _ _ _ _ _ us hl => match us, hl with | [_, _], _ => rfl)
theorem bo_Map_init (C : Cn P w K mg base) {cdv : Value} {A : Around} {outer : List Env} {s : Shared} {H : Hp} {E : XK} (a : Addr) (hcd : cdv = .ref (codeF K (He.ma K (He.ga K "Map") "__init__"))) (hr : Room 5 (A.deeper (envOfC "Map.__init__" (defScope (inClass (top 36) 0)) s.heap.objs.size (He.ma K (He.ga K "Map") "__init__") cdv))) :
    QSs (cxOf (L2.CX P w) P w K mg base ["self", "rows", "added", "judge"] "Map.__init__" (defScope (inClass (top 36) 0)) (He.ma K (He.ga K "Map") "__init__") cdv A outer s H E) ((tb K).w (some a)) (fun cls d _ H => E cls d H) (defBody (inClass (top 36) 0)) b_Map_init := by
  exact (qss_cons (q_expr (q_call (ok_require_part C).tb hr (takes_of (by rfl) (by rfl) (by rfl) (by rfl)) (by decide) (by rfl) (qs_cons q_str (qs_cons (q_call (ok_first_wrong C).tb hr (takes_of (by rfl) (by rfl) (by rfl) (by rfl)) (by decide) (by rfl) (qs_cons (qv 1) (qs_cons (q_gintE C.i_SIZE) (qs_cons (q_gintE C.i_SIZE) (qs_cons (q_gfn (i := 0) C.g_is_line) qs_nil))))) qs_nil))))
    (qss_cons (q_set (i := 3) sc_Map_init.nd (by rfl) (by first | exact Or.inl rfl | exact Or.inr rfl) (q_lamV (kk := 1) (n := 1) (l := 0) C.t_Map_init hcd rfl rfl rfl (by decide +kernel) (by rfl) (by rfl)))
    (qss_cons (q_expr (q_call (ok_require_part C).tb hr (takes_of (by rfl) (by rfl) (by rfl) (by rfl)) (by decide) (by rfl) (qs_cons q_str (qs_cons (q_call (ok_first_wrong C).tb hr (takes_of (by rfl) (by rfl) (by rfl) (by rfl)) (by decide) (by rfl) (qs_cons (qv 2) (qs_cons (q_gintE C.i_SIZE) (qs_cons (q_gintE C.i_SIZE) (qs_cons (qv 3) qs_nil))))) qs_nil))))
    (qss_cons (q_setF (c := 0) (j := 0) (C.isc.cl 0 (by decide)).1 ((C.isc.cl 0 (by decide)).no (by kernel_rfl)) (qv 1))
    (qss_one (q_setF (c := 0) (j := 1) (C.isc.cl 0 (by decide)).1 ((C.isc.cl 0 (by decide)).no (by kernel_rfl)) (qv 2)))))))
theorem ok_Map_init (C : Cn P w K mg base) : Mak P w K mg base (tb K) 6 "Map" 0 2 F_Map_init := by
  obtain ⟨fd, F⟩ := C.d_Map_init
  exact ⟨_, fd, _, C.m_Map_init, initC_ok (T := tb K) (N := ["self", "rows", "added", "judge"]) (p0 := "self") (ps := ["rows", "added"]) (c := 0) (nf := 2) F sc_Map_init (by decide) rfl fun cdv A outer s H E a hc hr => bo_Map_init C a hc hr, C.c_Map, F.bindsN (ps := ["self", "rows", "added"]) fun _ _ _ _ _ _ us hl => match us, hl with | [_, _, _], _ => rfl⟩
theorem bo__law_alike {F : FM} {j : Nat} (C : Cn P w K mg base) (hF : Fn P w K mg base (tb K) (0 + j) "_law_alike" 2 F) {cdv : Value} {A : Around} {outer : List Env} {s : Shared} {H : Hp} {E : XK} (hr : Room (0 + j) (A.deeper (envOfC "_law_alike" (defScope (top 62)) s.heap.objs.size (He.ga K "_law_alike") cdv))) :
    QSs (cxOf (L2.CX P w) P w K mg base ["found", "due", "k"] "_law_alike" (defScope (top 62)) (He.ga K "_law_alike") cdv A outer s H E) (tb K) (fun cls d _ H => E cls d H) (defBody (top 62)) (b__law_alike F) :=
  (qss_cons (q_ifS (qt_val (q_isTy2 C.isc (by rfl) C.n_tuple (by rfl) C.n_list (by rfl) C.n_isinstance (qb (qv 1)))) (qss_cons (q_ifS (qw_pt (qw_or (qt_not (qt_val (q_isTy2 C.isc (by rfl) C.n_tuple (by rfl) C.n_list (by rfl) C.n_isinstance (qb (qv 0))))) (qw_or1 (qt_ne (hu64 hr) (qb (q_isTy C.isc (by rfl) C.n_list (by rfl) C.n_isinstance (qb (qv 0)))) (qb (q_isTy C.isc (by rfl) C.n_list (by rfl) C.n_isinstance (qb (qv 1)))))))) (qss_one (q_ret q_bl)) qss_nil)
    (qss_cons (q_ifS (qt_ne (hu64 hr) (qb (q_len (by rfl) C.n_len (qb (qv 0)))) (qb (q_len (by rfl) C.n_len (qb (qv 1))))) (qss_one (q_ret q_bl)) qss_nil)
    (qss_one (q_ret (q_eq (hu64 hr) (qb (qf (q_comp (by rfl) sc__law_alike.nd (q_iRng1 (by rfl) C.n_range (qs_cons (q_len (by rfl) C.n_len (qb (qv 1))) qs_nil)) (blkOk_by (own := [("k", 2)]) (by kernel_rfl)) (fun _ _ _ _ _ => (qg_name (i := 2) sc__law_alike.nd)) (fun _ _ _ _ _ => (qts_one (qt_not (qt_val (q_call hF hr L2.takes0 (Nat.le_refl _) (by rfl) (qs_cons (q_ix (qb (qv 0)) (qb (qv 2))) (qs_cons (q_ix (qb (qv 1)) (qb (qv 2))) qs_nil))))))) (fun _ _ _ _ _ => (qv 2))))) (qb (qf (q_lst qs_nil)))))))) qss_nil)
    (qss_cons (q_ifS (qw_pt (qw_or (qt_is (qb (qv 1)) (qb q_non)) (qw_or1 (qt_val (q_isTy C.isc (by rfl) C.n_str (by rfl) C.n_isinstance (qb (qv 1))))))) (qss_one (q_ret (q_and (q_eq (hu64 hr) (qb (qv 0)) (qb (qv 1))) (q_one (q_eq (hu64 hr) (qb (q_isTy C.isc (by rfl) C.n_str (by rfl) C.n_isinstance (qb (qv 0)))) (qb (q_isTy C.isc (by rfl) C.n_str (by rfl) C.n_isinstance (qb (qv 1))))))))) qss_nil)
    (qss_one (q_ret (q_and (q_isTy C.isc (by rfl) C.n_int (by rfl) C.n_isinstance (qb (qv 0))) (q_and (q_eq (hu64 hr) (qb (q_isTy C.isc (by rfl) C.n_bool (by rfl) C.n_isinstance (qb (qv 0)))) (qb (q_isTy C.isc (by rfl) C.n_bool (by rfl) C.n_isinstance (qb (qv 1))))) (q_one (q_eq (hu64 hr) (qb (qv 0)) (qb (qv 1))))))))))
theorem ok__law_alike (C : Cn P w K mg base) : ∀ n : Nat, Fn P w K mg base (tb K) (0 + n) "_law_alike" 2 (F__law_alike n)
  | 0 => by
    obtain ⟨fd, F⟩ := C.d__law_alike
    exact Fn.mk_ (ps := ["found", "due"]) ⟨fun vs H Q E h => h.1, fun A outer s H args us vs Q E hr he hb hv h => by obtain ⟨_, _, _, _, _, _, _, z⟩ := h; exact z.elim⟩ C.g__law_alike F.kp (F.bindsN (ps := ["found", "due"]) fun _ _ _ _ _ _ us hl => match us, hl with | [_, _], _ => rfl)
  | n + 1 => by
    obtain ⟨fd, F⟩ := C.d__law_alike
    exact Fn.mk_ (fn_ok (N := ["found", "due", "k"]) (ps := ["found", "due"]) F sc__law_alike (by decide) fun cdv A outer s H E hr => bo__law_alike C (ok__law_alike C n) hr) C.g__law_alike F.kp (F.bindsN (ps := ["found", "due"]) fun _ _ _ _ _ _ us hl => match us, hl with | [_, _], _ => rfl)
theorem bo__law_gcd (C : Cn P w K mg base) {cdv : Value} {A : Around} {outer : List Env} {s : Shared} {H : Hp} {E : XK} (hr : Room 0 (A.deeper (envOfC "_law_gcd" (defScope (top 66)) s.heap.objs.size (He.ga K "_law_gcd") cdv))) :
    QSs (cxOf (L2.CX P w) P w K mg base ["one", "other", "turn"] "_law_gcd" (defScope (top 66)) (He.ga K "_law_gcd") cdv A outer s H E) (tb K) (fun cls d _ H => E cls d H) (defBody (top 66)) b__law_gcd := by
  exact (qss_cons (q_par (i := 0) (j := 1) (by rfl) sc__law_gcd.nd (qx_val (q_abs (by rfl) C.n_abs (qb (qv 0))) (qx_val (q_abs (by rfl) C.n_abs (qb (qv 1))) qx_nil)))
    (qss_cons (q_for (passes_of (by rfl)) (by rfl) (q_iRng1 (by rfl) C.n_range (qs_cons q_int qs_nil)) (qg_name (i := 2) sc__law_gcd.nd) (qss_cons (q_ifS (qt_eq (hu64 hr) (qb (qv 1)) (qb q_int)) (qss_one q_break) qss_nil)
    (qss_one (q_par (i := 0) (j := 1) (by rfl) sc__law_gcd.nd (qx_val (qv 1) (qx_val (q_mod (qb (q_intOf (by rfl) C.n_int (qb (qv 0)))) (qb (qv 1))) qx_nil))))))
    (qss_one (q_ret (qv 0)))))
theorem ok__law_gcd (C : Cn P w K mg base) : Fn P w K mg base (tb K) 1 "_law_gcd" 2 F__law_gcd := by
  obtain ⟨fd, F⟩ := C.d__law_gcd
  exact Fn.mk_ (fn_ok (N := ["one", "other", "turn"]) (ps := ["one", "other"]) F sc__law_gcd (by decide) fun cdv A outer s H E hr => bo__law_gcd C hr) C.g__law_gcd F.kp (F.bindsN (ps := ["one", "other"]) fun _ _ _ _ _ _ us hl => match us, hl with | [_, _], _ => rfl)
theorem bo__law_frac (C : Cn P w K mg base) {cdv : Value} {A : Around} {outer : List Env} {s : Shared} {H : Hp} {E : XK} (hr : Room 1 (A.deeper (envOfC "_law_frac" (defScope (top 67)) s.heap.objs.size (He.ga K "_law_frac") cdv))) :
    QSs (cxOf (L2.CX P w) P w K mg base ["top", "below", "common_one"] "_law_frac" (defScope (top 67)) (He.ga K "_law_frac") cdv A outer s H E) (tb K) (fun cls d _ H => E cls d H) (defBody (top 67)) b__law_frac := by
  exact (qss_cons (q_ifS (qt_lt (qb (qv 1)) (qb q_int)) (qss_one (q_par (i := 0) (j := 1) (by rfl) sc__law_frac.nd (qx_val (q_sub (qb q_int) (qb (qv 0))) (qx_val (q_sub (qb q_int) (qb (qv 1))) qx_nil)))) qss_nil)
    (qss_cons (q_set (i := 2) sc__law_frac.nd (by rfl) (by first | exact Or.inl rfl | exact Or.inr rfl) (q_call (ok__law_gcd C) hr (takes_of (by rfl) (by rfl) (by rfl) (by rfl)) (by decide) (by rfl) (qs_cons (q_abs (by rfl) C.n_abs (qb (qv 0))) (qs_cons (qv 1) qs_nil))))
    (qss_one (q_ret (q_tup (qs_cons (q_div (qb (qv 0)) (qb (qv 2))) (qs_cons (q_div (qb (qv 1)) (qb (qv 2))) qs_nil)))))))
theorem ok__law_frac (C : Cn P w K mg base) : Fn P w K mg base (tb K) 2 "_law_frac" 2 F__law_frac := by
  obtain ⟨fd, F⟩ := C.d__law_frac
  exact Fn.mk_ (fn_ok (N := ["top", "below", "common_one"]) (ps := ["top", "below"]) F sc__law_frac (by decide) fun cdv A outer s H E hr => bo__law_frac C hr) C.g__law_frac F.kp (F.bindsN (ps := ["top", "below"]) fun _ _ _ _ _ _ us hl => match us, hl with | [_, _], _ => rfl)
theorem bo__law_taken (C : Cn P w K mg base) {cdv : Value} {A : Around} {outer : List Env} {s : Shared} {H : Hp} {E : XK} (hr : Room 0 (A.deeper (envOfC "_law_taken" (defScope (top 60)) s.heap.objs.size (He.ga K "_law_taken") cdv))) :
    QSs (cxOf (L2.CX P w) P w K mg base ["row", "many", "found", "cell"] "_law_taken" (defScope (top 60)) (He.ga K "_law_taken") cdv A outer s H E) (tb K) (fun cls d _ H => E cls d H) (defBody (top 60)) b__law_taken := by
  exact (qss_cons (q_ifS (qt_gt (qb (q_ix (qb (qv 0)) (qb q_int))) (qb q_int)) (qss_cons (q_set (i := 2) sc__law_taken.nd (by rfl) (by first | exact Or.inl rfl | exact Or.inr rfl) (q_mod (qb (q_intOf (by rfl) C.n_int (qb (q_ix (qb (qv 0)) (qb q_int))))) (qb (qv 1))))
    (qss_cons (q_setIx (i := 0) (q_div (qb (q_ix (qb (qv 0)) (qb q_int))) (qb (qv 1))) q_int)
    (qss_one (q_ret (qv 2))))) qss_nil)
    (qss_cons (q_setIx (i := 0) (q_addA (qb (q_ix (qb (qv 0)) (qb q_int))) (qb q_int)) q_int)
    (qss_cons (q_ifS (qt_gt (qb (q_ix (qb (qv 0)) (qb q_int))) (qb (q_len (by rfl) C.n_len (qb (q_ix (qb (qv 0)) (qb q_int)))))) (qss_cons (q_setIx (i := 0) (q_mod (qb (q_intOf (by rfl) C.n_int (qb (q_addA (qb (q_mul (qb (q_ix (qb (qv 0)) (qb q_int))) (qb q_int))) (qb q_int))))) (qb q_int)) q_int)
    (qss_one (q_ret (q_mod (qb (q_intOf (by rfl) C.n_int (qb (q_div (qb (q_ix (qb (qv 0)) (qb q_int))) (qb q_int))))) (qb (qv 1)))))) qss_nil)
    (qss_cons (q_set (i := 3) sc__law_taken.nd (by rfl) (by first | exact Or.inl rfl | exact Or.inr rfl) (q_ix (qb (q_ix (qb (qv 0)) (qb q_int))) (qb (q_sub (qb (q_ix (qb (qv 0)) (qb q_int))) (qb q_int)))))
    (qss_cons (q_setIx (i := 0) (q_mod (qb (q_intOf (by rfl) C.n_int (qb (q_addA (qb (q_addA (qb (q_mul (qb (q_ix (qb (qv 0)) (qb q_int))) (qb q_int))) (qb (qv 3)))) (qb q_int))))) (qb q_int)) q_int)
    (qss_cons (q_ifS (qt_ge (qb (qv 3)) (qb (q_pow (qb q_int) (qb q_int)))) (qss_cons (q_setIx (i := 0) (q_div (qb (qv 3)) (qb (qv 1))) q_int)
    (qss_one (q_ret (q_mod (qb (q_intOf (by rfl) C.n_int (qb (qv 3)))) (qb (qv 1)))))) qss_nil)
    (qss_one (q_ret (q_mod (qb (q_intOf (by rfl) C.n_int (qb (q_addA (qb (q_mul (qb (q_mod (qb (q_intOf (by rfl) C.n_int (qb (qv 3)))) (qb q_int))) (qb q_int))) (qb (q_div (qb (q_ix (qb (qv 0)) (qb q_int))) (qb q_int))))))) (qb (qv 1)))))))))))
theorem ok__law_taken (C : Cn P w K mg base) : Fn P w K mg base (tb K) 1 "_law_taken" 2 F__law_taken := by
  obtain ⟨fd, F⟩ := C.d__law_taken
  exact Fn.mk_ (fn_ok (N := ["row", "many", "found", "cell"]) (ps := ["row", "many"]) F sc__law_taken (by decide) fun cdv A outer s H E hr => bo__law_taken C hr) C.g__law_taken F.kp (F.bindsN (ps := ["row", "many"]) fun _ _ _ _ _ _ us hl => match us, hl with | [_, _], _ => rfl)
theorem bo__law_pick (C : Cn P w K mg base) {cdv : Value} {A : Around} {outer : List Env} {s : Shared} {H : Hp} {E : XK} (hr : Room 1 (A.deeper (envOfC "_law_pick" (defScope (top 61)) s.heap.objs.size (He.ga K "_law_pick") cdv))) :
    QSs (cxOf (L2.CX P w) P w K mg base ["row", "things"] "_law_pick" (defScope (top 61)) (He.ga K "_law_pick") cdv A outer s H E) (tb K) (fun cls d _ H => E cls d H) (defBody (top 61)) b__law_pick := by
  exact (qss_one (q_ret (q_ix (qb (qv 1)) (qb (q_call (ok__law_taken C) hr (takes_of (by rfl) (by rfl) (by rfl) (by rfl)) (by decide) (by rfl) (qs_cons (qv 0) (qs_cons (q_len (by rfl) C.n_len (qb (qv 1))) qs_nil)))))))
theorem ok__law_pick (C : Cn P w K mg base) : Fn P w K mg base (tb K) 2 "_law_pick" 2 F__law_pick := by
  obtain ⟨fd, F⟩ := C.d__law_pick
  exact Fn.mk_ (fn_ok (N := ["row", "things"]) (ps := ["row", "things"]) F sc__law_pick (by decide) fun cdv A outer s H E hr => bo__law_pick C hr) C.g__law_pick F.kp (F.bindsN (ps := ["row", "things"]) fun _ _ _ _ _ _ us hl => match us, hl with | [_, _], _ => rfl)
theorem bo__law_level (C : Cn P w K mg base) {cdv : Value} {A : Around} {outer : List Env} {s : Shared} {H : Hp} {E : XK} (hr : Room 2 (A.deeper (envOfC "_law_level" (defScope (top 73)) s.heap.objs.size (He.ga K "_law_level") cdv))) :
    QSs (cxOf (L2.CX P w) P w K mg base ["row", "below"] "_law_level" (defScope (top 73)) (He.ga K "_law_level") cdv A outer s H E) (tb K) (fun cls d _ H => E cls d H) (defBody (top 73)) b__law_level := by
  exact (qss_cons (q_set (i := 1) sc__law_level.nd (by rfl) (by first | exact Or.inl rfl | exact Or.inr rfl) (q_addA (qb q_int) (qb (q_call (ok__law_taken C) hr (takes_of (by rfl) (by rfl) (by rfl) (by rfl)) (by decide) (by rfl) (qs_cons (qv 0) (qs_cons (q_call (ok__law_pick C) hr (takes_of (by rfl) (by rfl) (by rfl) (by rfl)) (by decide) (by rfl) (qs_cons (qv 0) (qs_cons (qf (q_lst (qs_cons q_int (qs_cons q_int (qs_cons q_int qs_nil))))) qs_nil))) qs_nil))))))
    (qss_one (q_ret (q_call (ok__law_pick C) hr (takes_of (by rfl) (by rfl) (by rfl) (by rfl)) (by decide) (by rfl) (qs_cons (qv 0) (qs_cons (qf (q_lst (qs_cons (q_tup (qs_cons q_int (qs_cons q_int qs_nil))) (qs_cons (q_tup (qs_cons q_int (qs_cons q_int qs_nil))) (qs_cons (q_call (ok__law_frac C) hr (takes_of (by rfl) (by rfl) (by rfl) (by rfl)) (by decide) (by rfl) (qs_cons (q_call (ok__law_taken C) hr (takes_of (by rfl) (by rfl) (by rfl) (by rfl)) (by decide) (by rfl) (qs_cons (qv 0) (qs_cons (q_addA (qb (q_mul (qb q_int) (qb (qv 1)))) (qb q_int)) qs_nil))) (qs_cons (qv 1) qs_nil))) (qs_cons (q_call (ok__law_frac C) hr (takes_of (by rfl) (by rfl) (by rfl) (by rfl)) (by decide) (by rfl) (qs_cons (q_call (ok__law_taken C) hr (takes_of (by rfl) (by rfl) (by rfl) (by rfl)) (by decide) (by rfl) (qs_cons (qv 0) (qs_cons (q_addA (qb (q_mul (qb q_int) (qb (qv 1)))) (qb q_int)) qs_nil))) (qs_cons (qv 1) qs_nil))) qs_nil)))))) qs_nil))))))
theorem ok__law_level (C : Cn P w K mg base) : Fn P w K mg base (tb K) 3 "_law_level" 1 F__law_level := by
  obtain ⟨fd, F⟩ := C.d__law_level
  exact Fn.mk_ (fn_ok (N := ["row", "below"]) (ps := ["row"]) F sc__law_level (by decide) fun cdv A outer s H E hr => bo__law_level C hr) C.g__law_level F.kp (F.bindsN (ps := ["row"]) fun _ _ _ _ _ _ us hl => match us, hl with | [_], _ => rfl)
theorem bo__law_small (C : Cn P w K mg base) {cdv : Value} {A : Around} {outer : List Env} {s : Shared} {H : Hp} {E : XK} (hr : Room 2 (A.deeper (envOfC "_law_small" (defScope (top 74)) s.heap.objs.size (He.ga K "_law_small") cdv))) :
    QSs (cxOf (L2.CX P w) P w K mg base ["row"] "_law_small" (defScope (top 74)) (He.ga K "_law_small") cdv A outer s H E) (tb K) (fun cls d _ H => E cls d H) (defBody (top 74)) b__law_small := by
  exact (qss_one (q_ret (q_call (ok__law_frac C) hr (takes_of (by rfl) (by rfl) (by rfl) (by rfl)) (by decide) (by rfl) (qs_cons (q_sub (qb (q_call (ok__law_taken C) hr (takes_of (by rfl) (by rfl) (by rfl) (by rfl)) (by decide) (by rfl) (qs_cons (qv 0) (qs_cons (q_call (ok__law_pick C) hr (takes_of (by rfl) (by rfl) (by rfl) (by rfl)) (by decide) (by rfl) (qs_cons (qv 0) (qs_cons (qf (q_lst (qs_cons q_int (qs_cons q_int (qs_cons q_int qs_nil))))) qs_nil))) qs_nil)))) (qb (q_call (ok__law_pick C) hr (takes_of (by rfl) (by rfl) (by rfl) (by rfl)) (by decide) (by rfl) (qs_cons (qv 0) (qs_cons (qf (q_lst (qs_cons q_int (qs_cons q_int (qs_cons q_int (qs_cons q_int qs_nil)))))) qs_nil))))) (qs_cons (q_addA (qb q_int) (qb (q_call (ok__law_taken C) hr (takes_of (by rfl) (by rfl) (by rfl) (by rfl)) (by decide) (by rfl) (qs_cons (qv 0) (qs_cons (q_call (ok__law_pick C) hr (takes_of (by rfl) (by rfl) (by rfl) (by rfl)) (by decide) (by rfl) (qs_cons (qv 0) (qs_cons (qf (q_lst (qs_cons q_int (qs_cons q_int (qs_cons q_int qs_nil))))) qs_nil))) qs_nil))))) qs_nil)))))
theorem ok__law_small (C : Cn P w K mg base) : Fn P w K mg base (tb K) 3 "_law_small" 1 F__law_small := by
  obtain ⟨fd, F⟩ := C.d__law_small
  exact Fn.mk_ (fn_ok (N := ["row"]) (ps := ["row"]) F sc__law_small (by decide) fun cdv A outer s H E hr => bo__law_small C hr) C.g__law_small F.kp (F.bindsN (ps := ["row"]) fun _ _ _ _ _ _ us hl => match us, hl with | [_], _ => rfl)
theorem bo__law_colour (C : Cn P w K mg base) {cdv : Value} {A : Around} {outer : List Env} {s : Shared} {H : Hp} {E : XK} (hr : Room 3 (A.deeper (envOfC "_law_colour" (defScope (top 79)) s.heap.objs.size (He.ga K "_law_colour") cdv))) :
    QSs (cxOf (L2.CX P w) P w K mg base ["row", "k"] "_law_colour" (defScope (top 79)) (He.ga K "_law_colour") cdv A outer s H E) (tb K) (fun cls d _ H => E cls d H) (defBody (top 79)) b__law_colour := by
  exact (qss_one (q_ret (q_tupleOf (by rfl) C.n_tuple (qb (qf (q_comp (by rfl) sc__law_colour.nd (q_iRng1 (by rfl) C.n_range (qs_cons q_int qs_nil)) (blkOk_by (own := [("k", 1)]) (by kernel_rfl)) (fun _ _ _ _ _ => (qg_name (i := 1) sc__law_colour.nd)) (fun _ _ _ _ _ => qts_nil) (fun _ _ _ _ _ => (q_call (ok__law_pick C) hr L2.takes0 (by decide) (by rfl) (qs_cons (qv 0) (qs_cons (qf (q_lst (qs_cons (q_tup (qs_cons q_int (qs_cons q_int qs_nil))) (qs_cons (q_call (ok__law_small C) hr L2.takes0 (by decide) (by rfl) (qs_cons (qv 0) qs_nil)) (qs_cons (q_call (ok__law_level C) hr L2.takes0 (by decide) (by rfl) (qs_cons (qv 0) qs_nil)) qs_nil))))) qs_nil))))))))))
theorem ok__law_colour (C : Cn P w K mg base) : Fn P w K mg base (tb K) 4 "_law_colour" 1 F__law_colour := by
  obtain ⟨fd, F⟩ := C.d__law_colour
  exact Fn.mk_ (fn_ok (N := ["row", "k"]) (ps := ["row"]) F sc__law_colour (by decide) fun cdv A outer s H E hr => bo__law_colour C hr) C.g__law_colour F.kp (F.bindsN (ps := ["row"]) fun _ _ _ _ _ _ us hl => match us, hl with | [_], _ => rfl)
theorem bo__law_add (C : Cn P w K mg base) {cdv : Value} {A : Around} {outer : List Env} {s : Shared} {H : Hp} {E : XK} (hr : Room 2 (A.deeper (envOfC "_law_add" (defScope (top 68)) s.heap.objs.size (He.ga K "_law_add") cdv))) :
    QSs (cxOf (L2.CX P w) P w K mg base ["one", "two"] "_law_add" (defScope (top 68)) (He.ga K "_law_add") cdv A outer s H E) (tb K) (fun cls d _ H => E cls d H) (defBody (top 68)) b__law_add := by
  exact (qss_one (q_ret (q_call (ok__law_frac C) hr (takes_of (by rfl) (by rfl) (by rfl) (by rfl)) (by decide) (by rfl) (qs_cons (q_addA (qb (q_mul (qb (q_ix (qb (qv 0)) (qb q_int))) (qb (q_ix (qb (qv 1)) (qb q_int))))) (qb (q_mul (qb (q_ix (qb (qv 1)) (qb q_int))) (qb (q_ix (qb (qv 0)) (qb q_int)))))) (qs_cons (q_mul (qb (q_ix (qb (qv 0)) (qb q_int))) (qb (q_ix (qb (qv 1)) (qb q_int)))) qs_nil)))))
theorem ok__law_add (C : Cn P w K mg base) : Fn P w K mg base (tb K) 3 "_law_add" 2 F__law_add := by
  obtain ⟨fd, F⟩ := C.d__law_add
  exact Fn.mk_ (fn_ok (N := ["one", "two"]) (ps := ["one", "two"]) F sc__law_add (by decide) fun cdv A outer s H E hr => bo__law_add C hr) C.g__law_add F.kp (F.bindsN (ps := ["one", "two"]) fun _ _ _ _ _ _ us hl => match us, hl with | [_, _], _ => rfl)
theorem bo__law_mul (C : Cn P w K mg base) {cdv : Value} {A : Around} {outer : List Env} {s : Shared} {H : Hp} {E : XK} (hr : Room 2 (A.deeper (envOfC "_law_mul" (defScope (top 70)) s.heap.objs.size (He.ga K "_law_mul") cdv))) :
    QSs (cxOf (L2.CX P w) P w K mg base ["one", "two"] "_law_mul" (defScope (top 70)) (He.ga K "_law_mul") cdv A outer s H E) (tb K) (fun cls d _ H => E cls d H) (defBody (top 70)) b__law_mul := by
  exact (qss_one (q_ret (q_call (ok__law_frac C) hr (takes_of (by rfl) (by rfl) (by rfl) (by rfl)) (by decide) (by rfl) (qs_cons (q_mul (qb (q_ix (qb (qv 0)) (qb q_int))) (qb (q_ix (qb (qv 1)) (qb q_int)))) (qs_cons (q_mul (qb (q_ix (qb (qv 0)) (qb q_int))) (qb (q_ix (qb (qv 1)) (qb q_int)))) qs_nil)))))
theorem ok__law_mul (C : Cn P w K mg base) : Fn P w K mg base (tb K) 3 "_law_mul" 2 F__law_mul := by
  obtain ⟨fd, F⟩ := C.d__law_mul
  exact Fn.mk_ (fn_ok (N := ["one", "two"]) (ps := ["one", "two"]) F sc__law_mul (by decide) fun cdv A outer s H E hr => bo__law_mul C hr) C.g__law_mul F.kp (F.bindsN (ps := ["one", "two"]) fun _ _ _ _ _ _ us hl => match us, hl with | [_, _], _ => rfl)
theorem bo__law_sub (C : Cn P w K mg base) {cdv : Value} {A : Around} {outer : List Env} {s : Shared} {H : Hp} {E : XK} (hr : Room 2 (A.deeper (envOfC "_law_sub" (defScope (top 69)) s.heap.objs.size (He.ga K "_law_sub") cdv))) :
    QSs (cxOf (L2.CX P w) P w K mg base ["one", "two"] "_law_sub" (defScope (top 69)) (He.ga K "_law_sub") cdv A outer s H E) (tb K) (fun cls d _ H => E cls d H) (defBody (top 69)) b__law_sub := by
  exact (qss_one (q_ret (q_call (ok__law_frac C) hr (takes_of (by rfl) (by rfl) (by rfl) (by rfl)) (by decide) (by rfl) (qs_cons (q_sub (qb (q_mul (qb (q_ix (qb (qv 0)) (qb q_int))) (qb (q_ix (qb (qv 1)) (qb q_int))))) (qb (q_mul (qb (q_ix (qb (qv 1)) (qb q_int))) (qb (q_ix (qb (qv 0)) (qb q_int)))))) (qs_cons (q_mul (qb (q_ix (qb (qv 0)) (qb q_int))) (qb (q_ix (qb (qv 1)) (qb q_int)))) qs_nil)))))
theorem ok__law_sub (C : Cn P w K mg base) : Fn P w K mg base (tb K) 3 "_law_sub" 2 F__law_sub := by
  obtain ⟨fd, F⟩ := C.d__law_sub
  exact Fn.mk_ (fn_ok (N := ["one", "two"]) (ps := ["one", "two"]) F sc__law_sub (by decide) fun cdv A outer s H E hr => bo__law_sub C hr) C.g__law_sub F.kp (F.bindsN (ps := ["one", "two"]) fun _ _ _ _ _ _ us hl => match us, hl with | [_, _], _ => rfl)
theorem bo__law_det (C : Cn P w K mg base) {cdv : Value} {A : Around} {outer : List Env} {s : Shared} {H : Hp} {E : XK} (hr : Room 3 (A.deeper (envOfC "_law_det" (defScope (top 78)) s.heap.objs.size (He.ga K "_law_det") cdv))) :
    QSs (cxOf (L2.CX P w) P w K mg base ["rows", "found", "a", "b", "c"] "_law_det" (defScope (top 78)) (He.ga K "_law_det") cdv A outer s H E) (tb K) (fun cls d _ H => E cls d H) (defBody (top 78)) b__law_det := by
  exact (qss_cons (q_set (i := 1) sc__law_det.nd (by rfl) (by first | exact Or.inl rfl | exact Or.inr rfl) (q_tup (qs_cons q_int (qs_cons q_int qs_nil))))
    (qss_cons (q_for (passes_of (by rfl)) (by rfl) (q_iSeq (qf (q_lst (qs_cons (q_tup (qs_cons q_int (qs_cons q_int (qs_cons q_int qs_nil)))) (qs_cons (q_tup (qs_cons q_int (qs_cons q_int (qs_cons q_int qs_nil)))) (qs_cons (q_tup (qs_cons q_int (qs_cons q_int (qs_cons q_int qs_nil)))) qs_nil)))))) (qg_tup (by rfl) (qgs_cons (qg_name (i := 2) sc__law_det.nd) (qgs_cons (qg_name (i := 3) sc__law_det.nd) (qgs_cons (qg_name (i := 4) sc__law_det.nd) qgs_nil)))) (qss_cons (q_set (i := 1) sc__law_det.nd (by rfl) (by first | exact Or.inl rfl | exact Or.inr rfl) (q_call (ok__law_add C) hr (takes_of (by rfl) (by rfl) (by rfl) (by rfl)) (by decide) (by rfl) (qs_cons (qv 1) (qs_cons (q_call (ok__law_mul C) hr (takes_of (by rfl) (by rfl) (by rfl) (by rfl)) (by decide) (by rfl) (qs_cons (q_ix (qb (q_ix (qb (qv 0)) (qb q_int))) (qb (qv 2))) (qs_cons (q_call (ok__law_mul C) hr (takes_of (by rfl) (by rfl) (by rfl) (by rfl)) (by decide) (by rfl) (qs_cons (q_ix (qb (q_ix (qb (qv 0)) (qb q_int))) (qb (qv 3))) (qs_cons (q_ix (qb (q_ix (qb (qv 0)) (qb q_int))) (qb (qv 4))) qs_nil))) qs_nil))) qs_nil))))
    (qss_one (q_set (i := 1) sc__law_det.nd (by rfl) (by first | exact Or.inl rfl | exact Or.inr rfl) (q_call (ok__law_sub C) hr (takes_of (by rfl) (by rfl) (by rfl) (by rfl)) (by decide) (by rfl) (qs_cons (qv 1) (qs_cons (q_call (ok__law_mul C) hr (takes_of (by rfl) (by rfl) (by rfl) (by rfl)) (by decide) (by rfl) (qs_cons (q_ix (qb (q_ix (qb (qv 0)) (qb q_int))) (qb (qv 4))) (qs_cons (q_call (ok__law_mul C) hr (takes_of (by rfl) (by rfl) (by rfl) (by rfl)) (by decide) (by rfl) (qs_cons (q_ix (qb (q_ix (qb (qv 0)) (qb q_int))) (qb (qv 3))) (qs_cons (q_ix (qb (q_ix (qb (qv 0)) (qb q_int))) (qb (qv 2))) qs_nil))) qs_nil))) qs_nil)))))))
    (qss_one (q_ret (qv 1)))))
theorem ok__law_det (C : Cn P w K mg base) : Fn P w K mg base (tb K) 4 "_law_det" 1 F__law_det := by
  obtain ⟨fd, F⟩ := C.d__law_det
  exact Fn.mk_ (fn_ok (N := ["rows", "found", "a", "b", "c"]) (ps := ["rows"]) F sc__law_det (by decide) fun cdv A outer s H E hr => bo__law_det C hr) C.g__law_det F.kp (F.bindsN (ps := ["rows"]) fun _ _ _ _ _ _ us hl => match us, hl with | [_], _ => rfl)
theorem bo__law_sum (C : Cn P w K mg base) {cdv : Value} {A : Around} {outer : List Env} {s : Shared} {H : Hp} {E : XK} (hr : Room 3 (A.deeper (envOfC "_law_sum" (defScope (top 71)) s.heap.objs.size (He.ga K "_law_sum") cdv))) :
    QSs (cxOf (L2.CX P w) P w K mg base ["fractions", "found", "one"] "_law_sum" (defScope (top 71)) (He.ga K "_law_sum") cdv A outer s H E) (tb K) (fun cls d _ H => E cls d H) (defBody (top 71)) b__law_sum := by
  exact (qss_cons (q_set (i := 1) sc__law_sum.nd (by rfl) (by first | exact Or.inl rfl | exact Or.inr rfl) (q_tup (qs_cons q_int (qs_cons q_int qs_nil))))
    (qss_cons (q_for (passes_of (by rfl)) (by rfl) (q_iSeq (qv 0)) (qg_name (i := 2) sc__law_sum.nd) (qss_one (q_set (i := 1) sc__law_sum.nd (by rfl) (by first | exact Or.inl rfl | exact Or.inr rfl) (q_call (ok__law_add C) hr (takes_of (by rfl) (by rfl) (by rfl) (by rfl)) (by decide) (by rfl) (qs_cons (qv 1) (qs_cons (qv 2) qs_nil))))))
    (qss_one (q_ret (qv 1)))))
theorem ok__law_sum (C : Cn P w K mg base) : Fn P w K mg base (tb K) 4 "_law_sum" 1 F__law_sum := by
  obtain ⟨fd, F⟩ := C.d__law_sum
  exact Fn.mk_ (fn_ok (N := ["fractions", "found", "one"]) (ps := ["fractions"]) F sc__law_sum (by decide) fun cdv A outer s H E hr => bo__law_sum C hr) C.g__law_sum F.kp (F.bindsN (ps := ["fractions"]) fun _ _ _ _ _ _ us hl => match us, hl with | [_], _ => rfl)
theorem bo__law_dot (C : Cn P w K mg base) {cdv : Value} {A : Around} {outer : List Env} {s : Shared} {H : Hp} {E : XK} (hr : Room 4 (A.deeper (envOfC "_law_dot" (defScope (top 76)) s.heap.objs.size (He.ga K "_law_dot") cdv))) :
    QSs (cxOf (L2.CX P w) P w K mg base ["one", "two", "k"] "_law_dot" (defScope (top 76)) (He.ga K "_law_dot") cdv A outer s H E) (tb K) (fun cls d _ H => E cls d H) (defBody (top 76)) b__law_dot := by
  exact (qss_one (q_ret (q_call (ok__law_sum C) hr (takes_of (by rfl) (by rfl) (by rfl) (by rfl)) (by decide) (by rfl) (qs_cons (qf (q_comp (by rfl) sc__law_dot.nd (q_iRng1 (by rfl) C.n_range (qs_cons (q_len (by rfl) C.n_len (qb (qv 0))) qs_nil)) (blkOk_by (own := [("k", 2)]) (by kernel_rfl)) (fun _ _ _ _ _ => (qg_name (i := 2) sc__law_dot.nd)) (fun _ _ _ _ _ => qts_nil) (fun _ _ _ _ _ => (q_call (ok__law_mul C) hr L2.takes0 (by decide) (by rfl) (qs_cons (q_ix (qb (qv 0)) (qb (qv 2))) (qs_cons (q_ix (qb (qv 1)) (qb (qv 2))) qs_nil)))))) qs_nil))))
theorem ok__law_dot (C : Cn P w K mg base) : Fn P w K mg base (tb K) 5 "_law_dot" 2 F__law_dot := by
  obtain ⟨fd, F⟩ := C.d__law_dot
  exact Fn.mk_ (fn_ok (N := ["one", "two", "k"]) (ps := ["one", "two"]) F sc__law_dot (by decide) fun cdv A outer s H E hr => bo__law_dot C hr) C.g__law_dot F.kp (F.bindsN (ps := ["one", "two"]) fun _ _ _ _ _ _ us hl => match us, hl with | [_, _], _ => rfl)
theorem bo__law_is_frac (C : Cn P w K mg base) {cdv : Value} {A : Around} {outer : List Env} {s : Shared} {H : Hp} {E : XK} (hr : Room 1 (A.deeper (envOfC "_law_is_frac" (defScope (top 72)) s.heap.objs.size (He.ga K "_law_is_frac") cdv))) :
    QSs (cxOf (L2.CX P w) P w K mg base ["value", "one"] "_law_is_frac" (defScope (top 72)) (He.ga K "_law_is_frac") cdv A outer s H E) (tb K) (fun cls d _ H => E cls d H) (defBody (top 72)) b__law_is_frac := by
  exact (qss_cons (q_ifS (qw_pt (qw_or (qt_not (qt_val (q_isTy C.isc (by rfl) C.n_tuple (by rfl) C.n_isinstance (qb (qv 0))))) (qw_or (qt_ne (hu64 hr) (qb (q_len (by rfl) C.n_len (qb (qv 0)))) (qb q_int)) (qw_or1 (qt_ne (hu64 hr) (qb (qf (q_comp (by rfl) sc__law_is_frac.nd (q_iSeq (qv 0)) (blkOk_by (own := [("one", 1)]) (by kernel_rfl)) (fun _ _ _ _ _ => (qg_name (i := 1) sc__law_is_frac.nd)) (fun _ _ _ _ _ => (qts_one (qw_pt (qw_or (qt_not (qt_val (q_isTy C.isc (by rfl) C.n_int (by rfl) C.n_isinstance (qb (qv 1))))) (qw_or1 (qt_val (q_isTy C.isc (by rfl) C.n_bool (by rfl) C.n_isinstance (qb (qv 1))))))))) (fun _ _ _ _ _ => (qv 1))))) (qb (qf (q_lst qs_nil)))))))) (qss_one (q_ret q_bl)) qss_nil)
    (qss_one (q_ret (q_and (q_ge (qb (q_ix (qb (qv 0)) (qb q_int))) (qb q_int)) (q_one (q_eq (hu64 hr) (qb (q_call (ok__law_gcd C) hr (takes_of (by rfl) (by rfl) (by rfl) (by rfl)) (by decide) (by rfl) (qs_cons (q_abs (by rfl) C.n_abs (qb (q_ix (qb (qv 0)) (qb q_int)))) (qs_cons (q_ix (qb (qv 0)) (qb q_int)) qs_nil)))) (qb q_int)))))))
theorem ok__law_is_frac (C : Cn P w K mg base) : Fn P w K mg base (tb K) 2 "_law_is_frac" 1 F__law_is_frac := by
  obtain ⟨fd, F⟩ := C.d__law_is_frac
  exact Fn.mk_ (fn_ok (N := ["value", "one"]) (ps := ["value"]) F sc__law_is_frac (by decide) fun cdv A outer s H E hr => bo__law_is_frac C hr) C.g__law_is_frac F.kp (F.bindsN (ps := ["value"]) fun _ _ _ _ _ _ us hl => match us, hl with | [_], _ => rfl)
theorem bo__law_map (C : Cn P w K mg base) {cdv : Value} {A : Around} {outer : List Env} {s : Shared} {H : Hp} {E : XK} (hr : Room 3 (A.deeper (envOfC "_law_map" (defScope (top 75)) s.heap.objs.size (He.ga K "_law_map") cdv))) :
    QSs (cxOf (L2.CX P w) P w K mg base ["row", "rows", "kind", "j", "k", "one"] "_law_map" (defScope (top 75)) (He.ga K "_law_map") cdv A outer s H E) (tb K) (fun cls d _ H => E cls d H) (defBody (top 75)) b__law_map := by
  exact (qss_cons (q_setCompO (i := 1) (by rfl) sc__law_map.nd (by rfl) (q_iRng1 (by rfl) C.n_range (qs_cons q_int qs_nil)) (blkOk_by (own := [("j", 3)]) (by kernel_rfl)) (fun _ _ _ _ _ => (qg_name (i := 3) sc__law_map.nd)) (fun _ _ _ _ _ => qts_nil) (fun _ _ _ _ _ => (q_tupleOf (by rfl) C.n_tuple (qb (qf (q_comp (by rfl) sc__law_map.nd (q_iRng1 (by rfl) C.n_range (qs_cons q_int qs_nil)) (blkOk_by (own := [("k", 4)]) (by kernel_rfl)) (fun _ _ _ _ _ => (qg_name (i := 4) sc__law_map.nd)) (fun _ _ _ _ _ => qts_nil) (fun _ _ _ _ _ => (q_call (ok__law_small C) hr L2.takes0 (by decide) (by rfl) (qs_cons (qv 0) qs_nil)))))))))
    (qss_cons (q_set (i := 2) sc__law_map.nd (by rfl) (by first | exact Or.inl rfl | exact Or.inr rfl) (q_call (ok__law_taken C) hr (takes_of (by rfl) (by rfl) (by rfl) (by rfl)) (by decide) (by rfl) (qs_cons (qv 0) (qs_cons q_int qs_nil))))
    (qss_cons (q_ifS (qt_eq (hu64 hr) (qb (qv 2)) (qb q_int)) (qss_one (q_setIx (i := 1) (q_ix (qvB 1) (qb q_int)) q_int)) qss_nil)
    (qss_cons (q_ifS (qt_eq (hu64 hr) (qb (qv 2)) (qb q_int)) (qss_cons (q_setIx (i := 1) (q_tupleOf (by rfl) C.n_tuple (qb (qf (q_comp (by rfl) sc__law_map.nd (q_iSeq (q_ix (qvB 1) (qb q_int))) (blkOk_by (own := [("one", 5)]) (by kernel_rfl)) (fun _ _ _ _ _ => (qg_name (i := 5) sc__law_map.nd)) (fun _ _ _ _ _ => qts_nil) (fun _ _ _ _ _ => (q_call (ok__law_mul C) hr L2.takes0 (by decide) (by rfl) (qs_cons (qv 5) (qs_cons (q_call (ok__law_pick C) hr L2.takes0 (by decide) (by rfl) (qs_cons (qv 0) (qs_cons (qf (q_lst (qs_cons (q_tup (qs_cons q_int (qs_cons q_int qs_nil))) (qs_cons (q_tup (qs_cons q_int (qs_cons q_int qs_nil))) (qs_cons (q_tup (qs_cons (q_neg (qb q_int)) (qs_cons q_int qs_nil))) qs_nil))))) qs_nil))) qs_nil)))))))) q_int)
    (qss_one (q_setIx (i := 1) (q_tupleOf (by rfl) C.n_tuple (qb (qf (q_comp (by rfl) sc__law_map.nd (q_iSeq (q_ix (qvB 1) (qb q_int))) (blkOk_by (own := [("one", 5)]) (by kernel_rfl)) (fun _ _ _ _ _ => (qg_name (i := 5) sc__law_map.nd)) (fun _ _ _ _ _ => qts_nil) (fun _ _ _ _ _ => (q_call (ok__law_mul C) hr L2.takes0 (by decide) (by rfl) (qs_cons (qv 5) (qs_cons (q_call (ok__law_pick C) hr L2.takes0 (by decide) (by rfl) (qs_cons (qv 0) (qs_cons (qf (q_lst (qs_cons (q_tup (qs_cons q_int (qs_cons q_int qs_nil))) qs_nil))) qs_nil))) qs_nil)))))))) q_int))) qss_nil)
    (qss_cons (q_ifS (qt_eq (hu64 hr) (qb (qv 2)) (qb q_int)) (qss_one (q_setO (i := 1) sc__law_map.nd (by rfl) (by first | exact Or.inl rfl | exact Or.inr rfl) (q_lst (qs_cons (q_tup (qs_cons (q_tup (qs_cons q_int (qs_cons q_int qs_nil))) (qs_cons (q_tup (qs_cons q_int (qs_cons q_int qs_nil))) (qs_cons (q_tup (qs_cons q_int (qs_cons q_int qs_nil))) qs_nil)))) (qs_cons (q_tup (qs_cons (q_tup (qs_cons q_int (qs_cons q_int qs_nil))) (qs_cons (q_tup (qs_cons q_int (qs_cons q_int qs_nil))) (qs_cons (q_tup (qs_cons q_int (qs_cons q_int qs_nil))) qs_nil)))) (qs_cons (q_tup (qs_cons (q_tup (qs_cons q_int (qs_cons q_int qs_nil))) (qs_cons (q_tup (qs_cons q_int (qs_cons q_int qs_nil))) (qs_cons (q_tup (qs_cons q_int (qs_cons q_int qs_nil))) qs_nil)))) qs_nil)))))) qss_nil)
    (qss_one (q_ret (q_tup (qs_cons (q_tupleOf (by rfl) C.n_tuple (qvB 1)) (qs_cons (q_tupleOf (by rfl) C.n_tuple (qb (qf (q_comp (by rfl) sc__law_map.nd (q_iRng1 (by rfl) C.n_range (qs_cons q_int qs_nil)) (blkOk_by (own := [("k", 4)]) (by kernel_rfl)) (fun _ _ _ _ _ => (qg_name (i := 4) sc__law_map.nd)) (fun _ _ _ _ _ => qts_nil) (fun _ _ _ _ _ => (q_call (ok__law_pick C) hr L2.takes0 (by decide) (by rfl) (qs_cons (qv 0) (qs_cons (qf (q_lst (qs_cons (q_tup (qs_cons q_int (qs_cons q_int qs_nil))) (qs_cons (q_call (ok__law_small C) hr L2.takes0 (by decide) (by rfl) (qs_cons (qv 0) qs_nil)) qs_nil)))) qs_nil)))))))) qs_nil))))))))))
theorem ok__law_map (C : Cn P w K mg base) : Fn P w K mg base (tb K) 4 "_law_map" 1 F__law_map := by
  obtain ⟨fd, F⟩ := C.d__law_map
  exact Fn.mk_ (fn_ok (N := ["row", "rows", "kind", "j", "k", "one"]) (ps := ["row"]) F sc__law_map (by decide) fun cdv A outer s H E hr => bo__law_map C hr) C.g__law_map F.kp (F.bindsN (ps := ["row"]) fun _ _ _ _ _ _ us hl => match us, hl with | [_], _ => rfl)
theorem bo__law_same (C : Cn P w K mg base) {cdv : Value} {A : Around} {outer : List Env} {s : Shared} {H : Hp} {E : XK} (hA : A.guards = some []) (hr : Room 0 (A.deeper (envOfC "_law_same" (defScope (top 63)) s.heap.objs.size (He.ga K "_law_same") cdv))) :
    QSs (cxOf (L2.CX P w) P w K mg base ["found", "due"] "_law_same" (defScope (top 63)) (He.ga K "_law_same") cdv A outer s H E) (tb K) (fun cls d _ H => E cls d H) (defBody (top 63)) b__law_same := by
  have hgu : (cxOf (L2.CX P w) P w K mg base ["found", "due"] "_law_same" (defScope (top 63)) (He.ga K "_law_same") cdv A outer s H E).A.guards = some [] := (deeper_guards _).trans hA
  exact (qss_one (q_ret (q_eq (hu64 hr) (qb (q_repr hgu (hu64 hr) (by rfl) C.n_repr (qb (qv 0)))) (qb (q_repr hgu (hu64 hr) (by rfl) C.n_repr (qb (qv 1)))))))
theorem ok__law_same (C : Cn P w K mg base) : FnG P w K mg base (tb K) 1 "_law_same" 2 F__law_same := by
  obtain ⟨fd, F⟩ := C.d__law_same
  exact fnG_ok (N := ["found", "due"]) (ps := ["found", "due"]) F sc__law_same (by decide) C.g__law_same (F.bindsN (ps := ["found", "due"]) fun _ _ _ _ _ _ us hl => match us, hl with | [_, _], _ => rfl) fun cdv A outer s H E hc hg hr => bo__law_same C hg hr
theorem bo__law_through (C : Cn P w K mg base) {cdv : Value} {A : Around} {outer : List Env} {s : Shared} {H : Hp} {E : XK} (hr : Room 5 (A.deeper (envOfC "_law_through" (defScope (top 77)) s.heap.objs.size (He.ga K "_law_through") cdv))) :
    QSs (cxOf (L2.CX P w) P w K mg base ["parts", "colour", "k"] "_law_through" (defScope (top 77)) (He.ga K "_law_through") cdv A outer s H E) (tb K) (fun cls d _ H => E cls d H) (defBody (top 77)) b__law_through := by
  exact (qss_one (q_ret (q_tupleOf (by rfl) C.n_tuple (qb (qf (q_comp (by rfl) sc__law_through.nd (q_iRng1 (by rfl) C.n_range (qs_cons q_int qs_nil)) (blkOk_by (own := [("k", 2)]) (by kernel_rfl)) (fun _ _ _ _ _ => (qg_name (i := 2) sc__law_through.nd)) (fun _ _ _ _ _ => qts_nil) (fun _ _ _ _ _ => (q_call (ok__law_add C) hr L2.takes0 (by decide) (by rfl) (qs_cons (q_call (ok__law_dot C) hr L2.takes0 (by decide) (by rfl) (qs_cons (q_ix (qb (q_ix (qb (qv 0)) (qb q_int))) (qb (qv 2))) (qs_cons (qv 1) qs_nil))) (qs_cons (q_ix (qb (q_ix (qb (qv 0)) (qb q_int))) (qb (qv 2))) qs_nil))))))))))
theorem ok__law_through (C : Cn P w K mg base) : Fn P w K mg base (tb K) 6 "_law_through" 2 F__law_through := by
  obtain ⟨fd, F⟩ := C.d__law_through
  exact Fn.mk_ (fn_ok (N := ["parts", "colour", "k"]) (ps := ["parts", "colour"]) F sc__law_through (by decide) fun cdv A outer s H E hr => bo__law_through C hr) C.g__law_through F.kp (F.bindsN (ps := ["parts", "colour"]) fun _ _ _ _ _ _ us hl => match us, hl with | [_, _], _ => rfl)
theorem bo_fraction (C : Cn P w K mg base) {cdv : Value} {A : Around} {outer : List Env} {s : Shared} {H : Hp} {E : XK} (hr : Room 1 (A.deeper (envOfC "fraction" (defScope (top 24)) s.heap.objs.size (He.ga K "fraction") cdv))) :
    QSs (cxOf (L2.CX P w) P w K mg base ["top", "below", "shared"] "fraction" (defScope (top 24)) (He.ga K "fraction") cdv A outer s H E) (tb K) (fun cls d _ H => E cls d H) (defBody (top 24)) b_fraction := by
  exact (qss_cons (q_ifS (qt_lt (qb (qv 1)) (qb q_int)) (qss_one (q_par (i := 0) (j := 1) (by rfl) sc_fraction.nd (qx_val (q_sub (qb q_int) (qb (qv 0))) (qx_val (q_sub (qb q_int) (qb (qv 1))) qx_nil)))) qss_nil)
    (qss_cons (q_set (i := 2) sc_fraction.nd (by rfl) (by first | exact Or.inl rfl | exact Or.inr rfl) (q_call (ok_common C) hr (takes_of (by rfl) (by rfl) (by rfl) (by rfl)) (by decide) (by rfl) (qs_cons (qv 0) (qs_cons (qv 1) qs_nil))))
    (qss_one (q_ret (q_tup (qs_cons (q_div (qb (qv 0)) (qb (qv 2))) (qs_cons (q_div (qb (qv 1)) (qb (qv 2))) qs_nil)))))))
theorem ok_fraction (C : Cn P w K mg base) : Fn P w K mg base (tb K) 2 "fraction" 2 F_fraction := by
  obtain ⟨fd, F⟩ := C.d_fraction
  exact Fn.mk_ (fn_ok (N := ["top", "below", "shared"]) (ps := ["top", "below"]) F sc_fraction (by decide) fun cdv A outer s H E hr => bo_fraction C hr) C.g_fraction F.kp (F.bindsN (ps := ["top", "below"]) fun _ _ _ _ _ _ us hl => match us, hl with | [_, _], _ => rfl)
theorem bo_times (C : Cn P w K mg base) {cdv : Value} {A : Around} {outer : List Env} {s : Shared} {H : Hp} {E : XK} (hr : Room 2 (A.deeper (envOfC "times" (defScope (top 28)) s.heap.objs.size (He.ga K "times") cdv))) :
    QSs (cxOf (L2.CX P w) P w K mg base ["one", "other"] "times" (defScope (top 28)) (He.ga K "times") cdv A outer s H E) (tb K) (fun cls d _ H => E cls d H) (defBody (top 28)) b_times := by
  exact (qss_one (q_ret (q_call (ok_fraction C) hr (takes_of (by rfl) (by rfl) (by rfl) (by rfl)) (by decide) (by rfl) (qs_cons (q_mul (qb (q_ix (qb (qv 0)) (qb q_int))) (qb (q_ix (qb (qv 1)) (qb q_int)))) (qs_cons (q_mul (qb (q_ix (qb (qv 0)) (qb q_int))) (qb (q_ix (qb (qv 1)) (qb q_int)))) qs_nil)))))
theorem ok_times (C : Cn P w K mg base) : Fn P w K mg base (tb K) 3 "times" 2 F_times := by
  obtain ⟨fd, F⟩ := C.d_times
  exact Fn.mk_ (fn_ok (N := ["one", "other"]) (ps := ["one", "other"]) F sc_times (by decide) fun cdv A outer s H E hr => bo_times C hr) C.g_times F.kp (F.bindsN (ps := ["one", "other"]) fun _ _ _ _ _ _ us hl => match us, hl with | [_, _], _ => rfl)
theorem bo_plus (C : Cn P w K mg base) {cdv : Value} {A : Around} {outer : List Env} {s : Shared} {H : Hp} {E : XK} (hr : Room 2 (A.deeper (envOfC "plus" (defScope (top 26)) s.heap.objs.size (He.ga K "plus") cdv))) :
    QSs (cxOf (L2.CX P w) P w K mg base ["one", "other"] "plus" (defScope (top 26)) (He.ga K "plus") cdv A outer s H E) (tb K) (fun cls d _ H => E cls d H) (defBody (top 26)) b_plus := by
  exact (qss_one (q_ret (q_call (ok_fraction C) hr (takes_of (by rfl) (by rfl) (by rfl) (by rfl)) (by decide) (by rfl) (qs_cons (q_addA (qb (q_mul (qb (q_ix (qb (qv 0)) (qb q_int))) (qb (q_ix (qb (qv 1)) (qb q_int))))) (qb (q_mul (qb (q_ix (qb (qv 1)) (qb q_int))) (qb (q_ix (qb (qv 0)) (qb q_int)))))) (qs_cons (q_mul (qb (q_ix (qb (qv 0)) (qb q_int))) (qb (q_ix (qb (qv 1)) (qb q_int)))) qs_nil)))))
theorem ok_plus (C : Cn P w K mg base) : Fn P w K mg base (tb K) 3 "plus" 2 F_plus := by
  obtain ⟨fd, F⟩ := C.d_plus
  exact Fn.mk_ (fn_ok (N := ["one", "other"]) (ps := ["one", "other"]) F sc_plus (by decide) fun cdv A outer s H E hr => bo_plus C hr) C.g_plus F.kp (F.bindsN (ps := ["one", "other"]) fun _ _ _ _ _ _ us hl => match us, hl with | [_, _], _ => rfl)
theorem bo_total (C : Cn P w K mg base) {cdv : Value} {A : Around} {outer : List Env} {s : Shared} {H : Hp} {E : XK} (hr : Room 3 (A.deeper (envOfC "total" (defScope (top 30)) s.heap.objs.size (He.ga K "total") cdv))) :
    QSs (cxOf (L2.CX P w) P w K mg base ["fractions", "found", "one"] "total" (defScope (top 30)) (He.ga K "total") cdv A outer s H E) (tb K) (fun cls d _ H => E cls d H) (defBody (top 30)) b_total := by
  exact (qss_cons (q_set (i := 1) sc_total.nd (by rfl) (by first | exact Or.inl rfl | exact Or.inr rfl) (q_tup (qs_cons q_int (qs_cons q_int qs_nil))))
    (qss_cons (q_for (passes_of (by rfl)) (by rfl) (q_iSeq (qv 0)) (qg_name (i := 2) sc_total.nd) (qss_one (q_set (i := 1) sc_total.nd (by rfl) (by first | exact Or.inl rfl | exact Or.inr rfl) (q_call (ok_plus C) hr (takes_of (by rfl) (by rfl) (by rfl) (by rfl)) (by decide) (by rfl) (qs_cons (qv 1) (qs_cons (qv 2) qs_nil))))))
    (qss_one (q_ret (qv 1)))))
theorem ok_total (C : Cn P w K mg base) : Fn P w K mg base (tb K) 4 "total" 1 F_total := by
  obtain ⟨fd, F⟩ := C.d_total
  exact Fn.mk_ (fn_ok (N := ["fractions", "found", "one"]) (ps := ["fractions"]) F sc_total (by decide) fun cdv A outer s H E hr => bo_total C hr) C.g_total F.kp (F.bindsN (ps := ["fractions"]) fun _ _ _ _ _ _ us hl => match us, hl with | [_], _ => rfl)
theorem bo_line_times (C : Cn P w K mg base) {cdv : Value} {A : Around} {outer : List Env} {s : Shared} {H : Hp} {E : XK} (hr : Room 4 (A.deeper (envOfC "line_times" (defScope (top 39)) s.heap.objs.size (He.ga K "line_times") cdv))) :
    QSs (cxOf (L2.CX P w) P w K mg base ["line", "colour", "one", "other"] "line_times" (defScope (top 39)) (He.ga K "line_times") cdv A outer s H E) (tb K) (fun cls d _ H => E cls d H) (defBody (top 39)) b_line_times := by
  exact (qss_one (q_ret (q_call (ok_total C) hr (takes_of (by rfl) (by rfl) (by rfl) (by rfl)) (by decide) (by rfl) (qs_cons (qf (q_comp (by rfl) sc_line_times.nd (q_iZip (by rfl) C.n_zip (qs_cons (qv 0) (qs_cons (qv 1) qs_nil))) (blkOk_by (own := [("one", 2), ("other", 3)]) (by kernel_rfl)) (fun _ _ _ _ _ => (qg_tup (by rfl) (qgs_cons (qg_name (i := 2) sc_line_times.nd) (qgs_cons (qg_name (i := 3) sc_line_times.nd) qgs_nil)))) (fun _ _ _ _ _ => qts_nil) (fun _ _ _ _ _ => (q_call (ok_times C) hr L2.takes0 (by decide) (by rfl) (qs_cons (qv 2) (qs_cons (qv 3) qs_nil)))))) qs_nil))))
theorem ok_line_times (C : Cn P w K mg base) : Fn P w K mg base (tb K) 5 "line_times" 2 F_line_times := by
  obtain ⟨fd, F⟩ := C.d_line_times
  exact Fn.mk_ (fn_ok (N := ["line", "colour", "one", "other"]) (ps := ["line", "colour"]) F sc_line_times (by decide) fun cdv A outer s H E hr => bo_line_times C hr) C.g_line_times F.kp (F.bindsN (ps := ["line", "colour"]) fun _ _ _ _ _ _ us hl => match us, hl with | [_, _], _ => rfl)
theorem bo_require_colour (C : Cn P w K mg base) {cdv : Value} {A : Around} {outer : List Env} {s : Shared} {H : Hp} {E : XK} (hr : Room 2 (A.deeper (envOfC "require_colour" (defScope (top 38)) s.heap.objs.size (He.ga K "require_colour") cdv))) :
    QSs (cxOf (L2.CX P w) P w K mg base ["colour", "place", "one"] "require_colour" (defScope (top 38)) (He.ga K "require_colour") cdv A outer s H E) (tb K) (fun cls d _ H => E cls d H) (defBody (top 38)) b_require_colour := by
  exact (qss_cons (q_ifS (qt_not (qt_val (q_call (ok_is_row C) hr (takes_of (by rfl) (by rfl) (by rfl) (by rfl)) (by decide) (by rfl) (qs_cons (qv 0) (qs_cons (q_gintE C.i_SIZE) qs_nil))))) (qss_one (q_raise C.x_BadPoint (by rfl) hr (takes_of (by rfl) (by rfl) (by rfl) (by rfl)) (qs_cons q_non qs_nil))) qss_nil)
    (qss_one (q_for (passes_of (by rfl)) (by rfl) (q_iEnum (by rfl) C.n_enumerate (qs_cons (qv 0) qs_nil)) (qg_tup (by rfl) (qgs_cons (qg_name (i := 1) sc_require_colour.nd) (qgs_cons (qg_name (i := 2) sc_require_colour.nd) qgs_nil))) (qss_one (q_ifS (qt_not (qt_val (q_call (ok_is_fraction C) hr (takes_of (by rfl) (by rfl) (by rfl) (by rfl)) (by decide) (by rfl) (qs_cons (qv 2) qs_nil)))) (qss_one (q_raise C.x_BadPoint (by rfl) hr (takes_of (by rfl) (by rfl) (by rfl) (by rfl)) (qs_cons (qv 1) qs_nil))) qss_nil)))))
theorem ok_require_colour (C : Cn P w K mg base) : Fn P w K mg base (tb K) 3 "require_colour" 1 F_require_colour := by
  obtain ⟨fd, F⟩ := C.d_require_colour
  exact Fn.mk_ (fn_ok (N := ["colour", "place", "one"]) (ps := ["colour"]) F sc_require_colour (by decide) fun cdv A outer s H E hr => bo_require_colour C hr) C.g_require_colour F.kp (F.bindsN (ps := ["colour"]) fun _ _ _ _ _ _ us hl => match us, hl with | [_], _ => rfl)
theorem bo_mapped (C : Cn P w K mg base) {cdv : Value} {A : Around} {outer : List Env} {s : Shared} {H : Hp} {E : XK} (hr : Room 5 (A.deeper (envOfC "mapped" (defScope (top 40)) s.heap.objs.size (He.ga K "mapped") cdv))) :
    QSs (cxOf (L2.CX P w) P w K mg base ["told", "colour", "line", "more"] "mapped" (defScope (top 40)) (He.ga K "mapped") cdv A outer s H E) (tb K) (fun cls d _ H => E cls d H) (defBody (top 40)) b_mapped := by
  exact (qss_cons (q_expr (q_call (ok_require_colour C) hr (takes_of (by rfl) (by rfl) (by rfl) (by rfl)) (by decide) (by rfl) (qs_cons (qv 1) qs_nil)))
    (qss_one (q_ret (q_tupleOf (by rfl) C.n_tuple (qb (qf (q_comp (by rfl) sc_mapped.nd (q_iZip (by rfl) C.n_zip (qs_cons (q_fldC (ixs := [(0, 0), (1, 0)]) C.isc (qb (qv 0))) (qs_cons (q_fldC (ixs := [(0, 1), (1, 1)]) C.isc (qb (qv 0))) qs_nil))) (blkOk_by (own := [("line", 2), ("more", 3)]) (by kernel_rfl)) (fun _ _ _ _ _ => (qg_tup (by rfl) (qgs_cons (qg_name (i := 2) sc_mapped.nd) (qgs_cons (qg_name (i := 3) sc_mapped.nd) qgs_nil)))) (fun _ _ _ _ _ => qts_nil) (fun _ _ _ _ _ => (q_call (ok_plus C) hr L2.takes0 (by decide) (by rfl) (qs_cons (q_call (ok_line_times C) hr L2.takes0 (by decide) (by rfl) (qs_cons (qv 2) (qs_cons (qv 1) qs_nil))) (qs_cons (qv 3) qs_nil)))))))))))
theorem ok_mapped (C : Cn P w K mg base) : Fn P w K mg base (tb K) 6 "mapped" 2 F_mapped := by
  obtain ⟨fd, F⟩ := C.d_mapped
  exact Fn.mk_ (fn_ok (N := ["told", "colour", "line", "more"]) (ps := ["told", "colour"]) F sc_mapped (by decide) fun cdv A outer s H E hr => bo_mapped C hr) C.g_mapped F.kp (F.bindsN (ps := ["told", "colour"]) fun _ _ _ _ _ _ us hl => match us, hl with | [_, _], _ => rfl)
theorem bo_apart (C : Cn P w K mg base) {cdv : Value} {A : Around} {outer : List Env} {s : Shared} {H : Hp} {E : XK} (hr : Room 6 (A.deeper (envOfC "apart" (defScope (top 54)) s.heap.objs.size (He.ga K "apart") cdv))) :
    QSs (cxOf (L2.CX P w) P w K mg base ["one", "other", "units", "colour"] "apart" (defScope (top 54)) (He.ga K "apart") cdv A outer s H E) (tb K) (fun cls d _ H => E cls d H) (defBody (top 54)) b_apart := by
  exact (qss_cons (q_set (i := 2) sc_apart.nd (by rfl) (by first | exact Or.inl rfl | exact Or.inr rfl) (qf (q_lst (qs_cons (q_tup (qs_cons (q_tup (qs_cons q_int (qs_cons q_int qs_nil))) (qs_cons (q_tup (qs_cons q_int (qs_cons q_int qs_nil))) (qs_cons (q_tup (qs_cons q_int (qs_cons q_int qs_nil))) qs_nil)))) (qs_cons (q_tup (qs_cons (q_tup (qs_cons q_int (qs_cons q_int qs_nil))) (qs_cons (q_tup (qs_cons q_int (qs_cons q_int qs_nil))) (qs_cons (q_tup (qs_cons q_int (qs_cons q_int qs_nil))) qs_nil)))) (qs_cons (q_tup (qs_cons (q_tup (qs_cons q_int (qs_cons q_int qs_nil))) (qs_cons (q_tup (qs_cons q_int (qs_cons q_int qs_nil))) (qs_cons (q_tup (qs_cons q_int (qs_cons q_int qs_nil))) qs_nil)))) (qs_cons (q_tup (qs_cons (q_tup (qs_cons q_int (qs_cons q_int qs_nil))) (qs_cons (q_tup (qs_cons q_int (qs_cons q_int qs_nil))) (qs_cons (q_tup (qs_cons q_int (qs_cons q_int qs_nil))) qs_nil)))) qs_nil)))))))
    (qss_cons (q_for (passes_of (by rfl)) (by rfl) (q_iSeq (qv 2)) (qg_name (i := 3) sc_apart.nd) (qss_one (q_ifS (qt_ne (hu64 hr) (qb (q_call (ok_mapped C) hr (takes_of (by rfl) (by rfl) (by rfl) (by rfl)) (by decide) (by rfl) (qs_cons (qv 0) (qs_cons (qv 3) qs_nil)))) (qb (q_call (ok_mapped C) hr (takes_of (by rfl) (by rfl) (by rfl) (by rfl)) (by decide) (by rfl) (qs_cons (qv 1) (qs_cons (qv 3) qs_nil))))) (qss_one (q_ret (qv 3))) qss_nil)))
    (qss_one (q_ret q_non))))
theorem ok_apart (C : Cn P w K mg base) : Fn P w K mg base (tb K) 7 "apart" 2 F_apart := by
  obtain ⟨fd, F⟩ := C.d_apart
  exact Fn.mk_ (fn_ok (N := ["one", "other", "units", "colour"]) (ps := ["one", "other"]) F sc_apart (by decide) fun cdv A outer s H E hr => bo_apart C hr) C.g_apart F.kp (F.bindsN (ps := ["one", "other"]) fun _ _ _ _ _ _ us hl => match us, hl with | [_, _], _ => rfl)
theorem bo_are_alike (C : Cn P w K mg base) {cdv : Value} {A : Around} {outer : List Env} {s : Shared} {H : Hp} {E : XK} (hr : Room 0 (A.deeper (envOfC "are_alike" (defScope (top 53)) s.heap.objs.size (He.ga K "are_alike") cdv))) :
    QSs (cxOf (L2.CX P w) P w K mg base ["one", "other"] "are_alike" (defScope (top 53)) (He.ga K "are_alike") cdv A outer s H E) (tb K) (fun cls d _ H => E cls d H) (defBody (top 53)) b_are_alike := by
  exact (qss_one (q_ret (q_and (q_eq (hu64 hr) (qb (q_fldC (ixs := [(0, 0), (1, 0)]) C.isc (qb (qv 0)))) (qb (q_fldC (ixs := [(0, 0), (1, 0)]) C.isc (qb (qv 1))))) (q_one (q_eq (hu64 hr) (qb (q_fldC (ixs := [(0, 1), (1, 1)]) C.isc (qb (qv 0)))) (qb (q_fldC (ixs := [(0, 1), (1, 1)]) C.isc (qb (qv 1)))))))))
theorem ok_are_alike (C : Cn P w K mg base) : Fn P w K mg base (tb K) 1 "are_alike" 2 F_are_alike := by
  obtain ⟨fd, F⟩ := C.d_are_alike
  exact Fn.mk_ (fn_ok (N := ["one", "other"]) (ps := ["one", "other"]) F sc_are_alike (by decide) fun cdv A outer s H E hr => bo_are_alike C hr) C.g_are_alike F.kp (F.bindsN (ps := ["one", "other"]) fun _ _ _ _ _ _ us hl => match us, hl with | [_, _], _ => rfl)
theorem bo_Wide_init (C : Cn P w K mg base) {cdv : Value} {A : Around} {outer : List Env} {s : Shared} {H : Hp} {E : XK} (a : Addr) (hr : Room 0 (A.deeper (envOfC "Wide.__init__" (defScope (inClass (top 43) 0)) s.heap.objs.size (He.ma K (He.ga K "Wide") "__init__") cdv))) :
    QSs (cxOf (L2.CX P w) P w K mg base ["self", "rows", "added"] "Wide.__init__" (defScope (inClass (top 43) 0)) (He.ma K (He.ga K "Wide") "__init__") cdv A outer s H E) ((tb K).w (some a)) (fun cls d _ H => E cls d H) (defBody (inClass (top 43) 0)) b_Wide_init := by
  exact (qss_cons (q_setF (c := 1) (j := 0) (C.isc.cl 1 (by decide)).1 ((C.isc.cl 1 (by decide)).no (by kernel_rfl)) (qv 1))
    (qss_one (q_setF (c := 1) (j := 1) (C.isc.cl 1 (by decide)).1 ((C.isc.cl 1 (by decide)).no (by kernel_rfl)) (qv 2))))
theorem ok_Wide_init (C : Cn P w K mg base) : Mak P w K mg base (tb K) 1 "Wide" 1 2 F_Wide_init := by
  obtain ⟨fd, F⟩ := C.d_Wide_init
  exact ⟨_, fd, _, C.m_Wide_init, init_ok (T := tb K) (N := ["self", "rows", "added"]) (p0 := "self") (ps := ["rows", "added"]) (c := 1) (nf := 2) F sc_Wide_init (by decide) rfl fun cdv A outer s H E a hr => bo_Wide_init C a hr, C.c_Wide, F.bindsN (ps := ["self", "rows", "added"]) fun _ _ _ _ _ _ us hl => match us, hl with | [_, _, _], _ => rfl⟩
theorem bo_column (C : Cn P w K mg base) {cdv : Value} {A : Around} {outer : List Env} {s : Shared} {H : Hp} {E : XK} (hr : Room 0 (A.deeper (envOfC "column" (defScope (top 41)) s.heap.objs.size (He.ga K "column") cdv))) :
    QSs (cxOf (L2.CX P w) P w K mg base ["rows", "place", "row"] "column" (defScope (top 41)) (He.ga K "column") cdv A outer s H E) (tb K) (fun cls d _ H => E cls d H) (defBody (top 41)) b_column := by
  exact (qss_one (q_ret (q_tupleOf (by rfl) C.n_tuple (qb (qf (q_comp (by rfl) sc_column.nd (q_iSeq (qv 0)) (blkOk_by (own := [("row", 2)]) (by kernel_rfl)) (fun _ _ _ _ _ => (qg_name (i := 2) sc_column.nd)) (fun _ _ _ _ _ => qts_nil) (fun _ _ _ _ _ => (q_ix (qb (qv 2)) (qb (qv 1))))))))))
theorem ok_column (C : Cn P w K mg base) : Fn P w K mg base (tb K) 1 "column" 2 F_column := by
  obtain ⟨fd, F⟩ := C.d_column
  exact Fn.mk_ (fn_ok (N := ["rows", "place", "row"]) (ps := ["rows", "place"]) F sc_column (by decide) fun cdv A outer s H E hr => bo_column C hr) C.g_column F.kp (F.bindsN (ps := ["rows", "place"]) fun _ _ _ _ _ _ us hl => match us, hl with | [_, _], _ => rfl)
theorem bo_squares_times (C : Cn P w K mg base) {cdv : Value} {A : Around} {outer : List Env} {s : Shared} {H : Hp} {E : XK} (hr : Room 5 (A.deeper (envOfC "squares_times" (defScope (top 42)) s.heap.objs.size (He.ga K "squares_times") cdv))) :
    QSs (cxOf (L2.CX P w) P w K mg base ["rows", "others", "row", "place"] "squares_times" (defScope (top 42)) (He.ga K "squares_times") cdv A outer s H E) (tb K) (fun cls d _ H => E cls d H) (defBody (top 42)) b_squares_times := by
  exact (qss_one (q_ret (q_tupleOf (by rfl) C.n_tuple (qb (qf (q_comp (by rfl) sc_squares_times.nd (q_iSeq (qv 0)) (blkOk_by (own := [("row", 2)]) (by kernel_rfl)) (fun _ _ _ _ _ => (qg_name (i := 2) sc_squares_times.nd)) (fun _ _ _ _ _ => qts_nil) (fun _ _ _ _ _ => (q_tupleOf (by rfl) C.n_tuple (qb (qf (q_comp (by rfl) sc_squares_times.nd (q_iRng1 (by rfl) C.n_range (qs_cons (q_gintE C.i_SIZE) qs_nil)) (blkOk_by (own := [("place", 3)]) (by kernel_rfl)) (fun _ _ _ _ _ => (qg_name (i := 3) sc_squares_times.nd)) (fun _ _ _ _ _ => qts_nil) (fun _ _ _ _ _ => (q_call (ok_line_times C) hr L2.takes0 (by decide) (by rfl) (qs_cons (qv 2) (qs_cons (q_call (ok_column C) hr L2.takes0 (by decide) (by rfl) (qs_cons (qv 1) (qs_cons (qv 3) qs_nil))) qs_nil)))))))))))))))
theorem ok_squares_times (C : Cn P w K mg base) : Fn P w K mg base (tb K) 6 "squares_times" 2 F_squares_times := by
  obtain ⟨fd, F⟩ := C.d_squares_times
  exact Fn.mk_ (fn_ok (N := ["rows", "others", "row", "place"]) (ps := ["rows", "others"]) F sc_squares_times (by decide) fun cdv A outer s H E hr => bo_squares_times C hr) C.g_squares_times F.kp (F.bindsN (ps := ["rows", "others"]) fun _ _ _ _ _ _ us hl => match us, hl with | [_, _], _ => rfl)
theorem bo_behind (C : Cn P w K mg base) {cdv : Value} {A : Around} {outer : List Env} {s : Shared} {H : Hp} {E : XK} (hr : Room 6 (A.deeper (envOfC "behind" (defScope (top 45)) s.heap.objs.size (He.ga K "behind") cdv))) :
    QSs (cxOf (L2.CX P w) P w K mg base ["one", "other", "rows"] "behind" (defScope (top 45)) (He.ga K "behind") cdv A outer s H E) (tb K) (fun cls d _ H => E cls d H) (defBody (top 45)) b_behind := by
  exact (qss_cons (q_set (i := 2) sc_behind.nd (by rfl) (by first | exact Or.inl rfl | exact Or.inr rfl) (q_call (ok_squares_times C) hr (takes_of (by rfl) (by rfl) (by rfl) (by rfl)) (by decide) (by rfl) (qs_cons (q_fldC (ixs := [(0, 0), (1, 0)]) C.isc (qb (qv 1))) (qs_cons (q_fldC (ixs := [(0, 0), (1, 0)]) C.isc (qb (qv 0))) qs_nil))))
    (qss_one (q_ret (q_make (ok_Wide_init C) hr (takes_of (by rfl) (by rfl) (by rfl) (by rfl)) (by decide) (by rfl) (qs_cons (qv 2) (qs_cons (q_call (ok_mapped C) hr (takes_of (by rfl) (by rfl) (by rfl) (by rfl)) (by decide) (by rfl) (qs_cons (qv 1) (qs_cons (q_fldC (ixs := [(0, 1), (1, 1)]) C.isc (qb (qv 0))) qs_nil))) qs_nil))))))
theorem ok_behind (C : Cn P w K mg base) : Fn P w K mg base (tb K) 7 "behind" 2 F_behind := by
  obtain ⟨fd, F⟩ := C.d_behind
  exact Fn.mk_ (fn_ok (N := ["one", "other", "rows"]) (ps := ["one", "other"]) F sc_behind (by decide) fun cdv A outer s H E hr => bo_behind C hr) C.g_behind F.kp (F.bindsN (ps := ["one", "other"]) fun _ _ _ _ _ _ us hl => match us, hl with | [_, _], _ => rfl)
theorem bo_minus (C : Cn P w K mg base) {cdv : Value} {A : Around} {outer : List Env} {s : Shared} {H : Hp} {E : XK} (hr : Room 2 (A.deeper (envOfC "minus" (defScope (top 27)) s.heap.objs.size (He.ga K "minus") cdv))) :
    QSs (cxOf (L2.CX P w) P w K mg base ["one", "other"] "minus" (defScope (top 27)) (He.ga K "minus") cdv A outer s H E) (tb K) (fun cls d _ H => E cls d H) (defBody (top 27)) b_minus := by
  exact (qss_one (q_ret (q_call (ok_fraction C) hr (takes_of (by rfl) (by rfl) (by rfl) (by rfl)) (by decide) (by rfl) (qs_cons (q_sub (qb (q_mul (qb (q_ix (qb (qv 0)) (qb q_int))) (qb (q_ix (qb (qv 1)) (qb q_int))))) (qb (q_mul (qb (q_ix (qb (qv 1)) (qb q_int))) (qb (q_ix (qb (qv 0)) (qb q_int)))))) (qs_cons (q_mul (qb (q_ix (qb (qv 0)) (qb q_int))) (qb (q_ix (qb (qv 1)) (qb q_int)))) qs_nil)))))
theorem ok_minus (C : Cn P w K mg base) : Fn P w K mg base (tb K) 3 "minus" 2 F_minus := by
  obtain ⟨fd, F⟩ := C.d_minus
  exact Fn.mk_ (fn_ok (N := ["one", "other"]) (ps := ["one", "other"]) F sc_minus (by decide) fun cdv A outer s H E hr => bo_minus C hr) C.g_minus F.kp (F.bindsN (ps := ["one", "other"]) fun _ _ _ _ _ _ us hl => match us, hl with | [_, _], _ => rfl)
theorem bo_minor (C : Cn P w K mg base) {cdv : Value} {A : Around} {outer : List Env} {s : Shared} {H : Hp} {E : XK} (hr : Room 3 (A.deeper (envOfC "minor" (defScope (top 47)) s.heap.objs.size (He.ga K "minor") cdv))) :
    QSs (cxOf (L2.CX P w) P w K mg base ["rows", "line", "place", "lines", "left", "found", "number", "row", "one"] "minor" (defScope (top 47)) (He.ga K "minor") cdv A outer s H E) (tb K) (fun cls d _ H => E cls d H) (defBody (top 47)) b_minor := by
  exact (qss_cons (q_setComp (i := 3) (by rfl) sc_minor.nd (by rfl) (q_iEnum (by rfl) C.n_enumerate (qs_cons (qv 0) qs_nil)) (blkOk_by (own := [("number", 6), ("row", 7)]) (by kernel_rfl)) (fun _ _ _ _ _ => (qg_tup (by rfl) (qgs_cons (qg_name (i := 6) sc_minor.nd) (qgs_cons (qg_name (i := 7) sc_minor.nd) qgs_nil)))) (fun _ _ _ _ _ => (qts_one (qt_ne (hu64 hr) (qb (qv 6)) (qb (qv 1))))) (fun _ _ _ _ _ => (qv 7)))
    (qss_cons (q_setComp (i := 4) (by rfl) sc_minor.nd (by rfl) (q_iSeq (qv 3)) (blkOk_by (own := [("row", 7)]) (by kernel_rfl)) (fun _ _ _ _ _ => (qg_name (i := 7) sc_minor.nd)) (fun _ _ _ _ _ => qts_nil) (fun _ _ _ _ _ => (qf (q_comp (by rfl) sc_minor.nd (q_iEnum (by rfl) C.n_enumerate (qs_cons (qv 7) qs_nil)) (blkOk_by (own := [("number", 6), ("one", 8)]) (by kernel_rfl)) (fun _ _ _ _ _ => (qg_tup (by rfl) (qgs_cons (qg_name (i := 6) sc_minor.nd) (qgs_cons (qg_name (i := 8) sc_minor.nd) qgs_nil)))) (fun _ _ _ _ _ => (qts_one (qt_ne (hu64 hr) (qb (qv 6)) (qb (qv 2))))) (fun _ _ _ _ _ => (qv 8))))))
    (qss_cons (q_set (i := 5) sc_minor.nd (by rfl) (by first | exact Or.inl rfl | exact Or.inr rfl) (q_call (ok_minus C) hr (takes_of (by rfl) (by rfl) (by rfl) (by rfl)) (by decide) (by rfl) (qs_cons (q_call (ok_times C) hr (takes_of (by rfl) (by rfl) (by rfl) (by rfl)) (by decide) (by rfl) (qs_cons (q_ix (qb (q_ix (qb (qv 4)) (qb q_int))) (qb q_int)) (qs_cons (q_ix (qb (q_ix (qb (qv 4)) (qb q_int))) (qb q_int)) qs_nil))) (qs_cons (q_call (ok_times C) hr (takes_of (by rfl) (by rfl) (by rfl) (by rfl)) (by decide) (by rfl) (qs_cons (q_ix (qb (q_ix (qb (qv 4)) (qb q_int))) (qb q_int)) (qs_cons (q_ix (qb (q_ix (qb (qv 4)) (qb q_int))) (qb q_int)) qs_nil))) qs_nil))))
    (qss_one (q_ret (q_if (qt_eq (hu64 hr) (qb (q_mod (qb (q_addA (qb (qv 1)) (qb (qv 2)))) (qb q_int))) (qb q_int)) (qv 5) (q_tup (qs_cons (q_sub (qb q_int) (qb (q_ix (qb (qv 5)) (qb q_int)))) (qs_cons (q_ix (qb (qv 5)) (qb q_int)) qs_nil)))))))))
theorem ok_minor (C : Cn P w K mg base) : Fn P w K mg base (tb K) 4 "minor" 3 F_minor := by
  obtain ⟨fd, F⟩ := C.d_minor
  exact Fn.mk_ (fn_ok (N := ["rows", "line", "place", "lines", "left", "found", "number", "row", "one"]) (ps := ["rows", "line", "place"]) F sc_minor (by decide) fun cdv A outer s H E hr => bo_minor C hr) C.g_minor F.kp (F.bindsN (ps := ["rows", "line", "place"]) fun _ _ _ _ _ _ us hl => match us, hl with | [_, _, _], _ => rfl)
theorem bo_determinant (C : Cn P w K mg base) {cdv : Value} {A : Around} {outer : List Env} {s : Shared} {H : Hp} {E : XK} (hr : Room 4 (A.deeper (envOfC "determinant" (defScope (top 46)) s.heap.objs.size (He.ga K "determinant") cdv))) :
    QSs (cxOf (L2.CX P w) P w K mg base ["told", "found", "place"] "determinant" (defScope (top 46)) (He.ga K "determinant") cdv A outer s H E) (tb K) (fun cls d _ H => E cls d H) (defBody (top 46)) b_determinant := by
  exact (qss_cons (q_set (i := 1) sc_determinant.nd (by rfl) (by first | exact Or.inl rfl | exact Or.inr rfl) (q_tup (qs_cons q_int (qs_cons q_int qs_nil))))
    (qss_cons (q_for (passes_of (by rfl)) (by rfl) (q_iRng1 (by rfl) C.n_range (qs_cons (q_gintE C.i_SIZE) qs_nil)) (qg_name (i := 2) sc_determinant.nd) (qss_one (q_set (i := 1) sc_determinant.nd (by rfl) (by first | exact Or.inl rfl | exact Or.inr rfl) (q_call (ok_plus C) hr (takes_of (by rfl) (by rfl) (by rfl) (by rfl)) (by decide) (by rfl) (qs_cons (qv 1) (qs_cons (q_call (ok_times C) hr (takes_of (by rfl) (by rfl) (by rfl) (by rfl)) (by decide) (by rfl) (qs_cons (q_ix (qb (q_ix (qb (q_fldC (ixs := [(0, 0), (1, 0)]) C.isc (qb (qv 0)))) (qb q_int))) (qb (qv 2))) (qs_cons (q_call (ok_minor C) hr (takes_of (by rfl) (by rfl) (by rfl) (by rfl)) (by decide) (by rfl) (qs_cons (q_fldC (ixs := [(0, 0), (1, 0)]) C.isc (qb (qv 0))) (qs_cons q_int (qs_cons (qv 2) qs_nil)))) qs_nil))) qs_nil))))))
    (qss_one (q_ret (qv 1)))))
theorem ok_determinant (C : Cn P w K mg base) : Fn P w K mg base (tb K) 5 "determinant" 1 F_determinant := by
  obtain ⟨fd, F⟩ := C.d_determinant
  exact Fn.mk_ (fn_ok (N := ["told", "found", "place"]) (ps := ["told"]) F sc_determinant (by decide) fun cdv A outer s H E hr => bo_determinant C hr) C.g_determinant F.kp (F.bindsN (ps := ["told"]) fun _ _ _ _ _ _ us hl => match us, hl with | [_], _ => rfl)
theorem bo_can_turn (C : Cn P w K mg base) {cdv : Value} {A : Around} {outer : List Env} {s : Shared} {H : Hp} {E : XK} (hr : Room 5 (A.deeper (envOfC "can_turn" (defScope (top 48)) s.heap.objs.size (He.ga K "can_turn") cdv))) :
    QSs (cxOf (L2.CX P w) P w K mg base ["told"] "can_turn" (defScope (top 48)) (He.ga K "can_turn") cdv A outer s H E) (tb K) (fun cls d _ H => E cls d H) (defBody (top 48)) b_can_turn := by
  exact (qss_one (q_ret (q_ne (hu64 hr) (qb (q_ix (qb (q_call (ok_determinant C) hr (takes_of (by rfl) (by rfl) (by rfl) (by rfl)) (by decide) (by rfl) (qs_cons (qv 0) qs_nil))) (qb q_int))) (qb q_int))))
theorem ok_can_turn (C : Cn P w K mg base) : Fn P w K mg base (tb K) 6 "can_turn" 1 F_can_turn := by
  obtain ⟨fd, F⟩ := C.d_can_turn
  exact Fn.mk_ (fn_ok (N := ["told"]) (ps := ["told"]) F sc_can_turn (by decide) fun cdv A outer s H E hr => bo_can_turn C hr) C.g_can_turn F.kp (F.bindsN (ps := ["told"]) fun _ _ _ _ _ _ us hl => match us, hl with | [_], _ => rfl)
theorem bo_difference (C : Cn P w K mg base) {cdv : Value} {A : Around} {outer : List Env} {s : Shared} {H : Hp} {E : XK} (hr : Room 3 (A.deeper (envOfC "difference" (defScope (top 58)) s.heap.objs.size (He.ga K "difference") cdv))) :
    QSs (cxOf (L2.CX P w) P w K mg base ["one", "other", "first", "second"] "difference" (defScope (top 58)) (He.ga K "difference") cdv A outer s H E) (tb K) (fun cls d _ H => E cls d H) (defBody (top 58)) b_difference := by
  exact (qss_cons (q_expr (q_call (ok_require_colour C) hr (takes_of (by rfl) (by rfl) (by rfl) (by rfl)) (by decide) (by rfl) (qs_cons (qv 0) qs_nil)))
    (qss_cons (q_expr (q_call (ok_require_colour C) hr (takes_of (by rfl) (by rfl) (by rfl) (by rfl)) (by decide) (by rfl) (qs_cons (qv 1) qs_nil)))
    (qss_one (q_ret (q_tupleOf (by rfl) C.n_tuple (qb (qf (q_comp (by rfl) sc_difference.nd (q_iZip (by rfl) C.n_zip (qs_cons (qv 0) (qs_cons (qv 1) qs_nil))) (blkOk_by (own := [("first", 2), ("second", 3)]) (by kernel_rfl)) (fun _ _ _ _ _ => (qg_tup (by rfl) (qgs_cons (qg_name (i := 2) sc_difference.nd) (qgs_cons (qg_name (i := 3) sc_difference.nd) qgs_nil)))) (fun _ _ _ _ _ => qts_nil) (fun _ _ _ _ _ => (q_call (ok_minus C) hr L2.takes0 (by decide) (by rfl) (qs_cons (qv 2) (qs_cons (qv 3) qs_nil))))))))))))
theorem ok_difference (C : Cn P w K mg base) : Fn P w K mg base (tb K) 4 "difference" 2 F_difference := by
  obtain ⟨fd, F⟩ := C.d_difference
  exact Fn.mk_ (fn_ok (N := ["one", "other", "first", "second"]) (ps := ["one", "other"]) F sc_difference (by decide) fun cdv A outer s H E hr => bo_difference C hr) C.g_difference F.kp (F.bindsN (ps := ["one", "other"]) fun _ _ _ _ _ _ us hl => match us, hl with | [_, _], _ => rfl)
theorem bo_is_colour (C : Cn P w K mg base) {cdv : Value} {A : Around} {outer : List Env} {s : Shared} {H : Hp} {E : XK} (hr : Room 2 (A.deeper (envOfC "is_colour" (defScope (top 37)) s.heap.objs.size (He.ga K "is_colour") cdv))) :
    QSs (cxOf (L2.CX P w) P w K mg base ["value", "one"] "is_colour" (defScope (top 37)) (He.ga K "is_colour") cdv A outer s H E) (tb K) (fun cls d _ H => E cls d H) (defBody (top 37)) b_is_colour := by
  exact (qss_one (q_ret (q_and (q_call (ok_is_row C) hr (takes_of (by rfl) (by rfl) (by rfl) (by rfl)) (by decide) (by rfl) (qs_cons (qv 0) (qs_cons (q_gintE C.i_SIZE) qs_nil))) (q_one (q_all (by rfl) (by rfl) C.n_all (qb (qf (q_comp (by rfl) sc_is_colour.nd (q_iSeq (qv 0)) (blkOk_by (own := [("one", 1)]) (by kernel_rfl)) (fun _ _ _ _ _ => (qg_name (i := 1) sc_is_colour.nd)) (fun _ _ _ _ _ => qts_nil) (fun _ _ _ _ _ => (q_call (ok_is_fraction C) hr L2.takes0 (by decide) (by rfl) (qs_cons (qv 1) qs_nil)))))))))))
theorem ok_is_colour (C : Cn P w K mg base) : Fn P w K mg base (tb K) 3 "is_colour" 1 F_is_colour := by
  obtain ⟨fd, F⟩ := C.d_is_colour
  exact Fn.mk_ (fn_ok (N := ["value", "one"]) (ps := ["value"]) F sc_is_colour (by decide) fun cdv A outer s H E hr => bo_is_colour C hr) C.g_is_colour F.kp (F.bindsN (ps := ["value"]) fun _ _ _ _ _ _ us hl => match us, hl with | [_], _ => rfl)
theorem bo_is_lost_way (C : Cn P w K mg base) {cdv : Value} {A : Around} {outer : List Env} {s : Shared} {H : Hp} {E : XK} (hr : Room 5 (A.deeper (envOfC "is_lost_way" (defScope (top 52)) s.heap.objs.size (He.ga K "is_lost_way") cdv))) :
    QSs (cxOf (L2.CX P w) P w K mg base ["told", "value", "line"] "is_lost_way" (defScope (top 52)) (He.ga K "is_lost_way") cdv A outer s H E) (tb K) (fun cls d _ H => E cls d H) (defBody (top 52)) b_is_lost_way := by
  exact (qss_cons (q_ifS (qw_pt (qw_or (qt_not (qt_val (q_call (ok_is_colour C) hr (takes_of (by rfl) (by rfl) (by rfl) (by rfl)) (by decide) (by rfl) (qs_cons (qv 1) qs_nil)))) (qw_or1 (qt_eq (hu64 hr) (qb (qv 1)) (qb (q_mul (qb (q_tup (qs_cons (q_tup (qs_cons q_int (qs_cons q_int qs_nil))) qs_nil))) (qb (q_gintE C.i_SIZE)))))))) (qss_one (q_ret q_bl)) qss_nil)
    (qss_one (q_ret (q_all (by rfl) (by rfl) C.n_all (qb (qf (q_comp (by rfl) sc_is_lost_way.nd (q_iSeq (q_fldC (ixs := [(0, 0), (1, 0)]) C.isc (qb (qv 0)))) (blkOk_by (own := [("line", 2)]) (by kernel_rfl)) (fun _ _ _ _ _ => (qg_name (i := 2) sc_is_lost_way.nd)) (fun _ _ _ _ _ => qts_nil) (fun _ _ _ _ _ => (q_eq (hu64 hr) (qb (q_ix (qb (q_call (ok_line_times C) hr L2.takes0 (by decide) (by rfl) (qs_cons (qv 2) (qs_cons (qv 1) qs_nil)))) (qb q_int))) (qb q_int))))))))))
theorem ok_is_lost_way (C : Cn P w K mg base) : Fn P w K mg base (tb K) 6 "is_lost_way" 2 F_is_lost_way := by
  obtain ⟨fd, F⟩ := C.d_is_lost_way
  exact Fn.mk_ (fn_ok (N := ["told", "value", "line"]) (ps := ["told", "value"]) F sc_is_lost_way (by decide) fun cdv A outer s H E hr => bo_is_lost_way C hr) C.g_is_lost_way F.kp (F.bindsN (ps := ["told", "value"]) fun _ _ _ _ _ _ us hl => match us, hl with | [_, _], _ => rfl)
theorem bo_keeps_greys (C : Cn P w K mg base) {cdv : Value} {A : Around} {outer : List Env} {s : Shared} {H : Hp} {E : XK} (hr : Room 4 (A.deeper (envOfC "keeps_greys" (defScope (top 56)) s.heap.objs.size (He.ga K "keeps_greys") cdv))) :
    QSs (cxOf (L2.CX P w) P w K mg base ["told", "sums", "row"] "keeps_greys" (defScope (top 56)) (He.ga K "keeps_greys") cdv A outer s H E) (tb K) (fun cls d _ H => E cls d H) (defBody (top 56)) b_keeps_greys := by
  exact (qss_cons (q_setComp (i := 1) (by rfl) sc_keeps_greys.nd (by rfl) (q_iSeq (q_fldC (ixs := [(0, 0), (1, 0)]) C.isc (qb (qv 0)))) (blkOk_by (own := [("row", 2)]) (by kernel_rfl)) (fun _ _ _ _ _ => (qg_name (i := 2) sc_keeps_greys.nd)) (fun _ _ _ _ _ => qts_nil) (fun _ _ _ _ _ => (q_call (ok_total C) hr L2.takes0 (by decide) (by rfl) (qs_cons (qv 2) qs_nil))))
    (qss_one (q_ret (q_and (q_chain (op_eqD (hu64 hr)) o2_eq (op_eqD (hu64 hr)) o2_eq (qb (q_ix (qb (qv 1)) (qb q_int))) (qb (q_ix (qb (qv 1)) (qb q_int))) (qb (q_ix (qb (qv 1)) (qb q_int)))) (q_one (q_chain (op_eqD (hu64 hr)) o2_eq (op_eqD (hu64 hr)) o2_eq (qb (q_ix (qb (q_fldC (ixs := [(0, 1), (1, 1)]) C.isc (qb (qv 0)))) (qb q_int))) (qb (q_ix (qb (q_fldC (ixs := [(0, 1), (1, 1)]) C.isc (qb (qv 0)))) (qb q_int))) (qb (q_ix (qb (q_fldC (ixs := [(0, 1), (1, 1)]) C.isc (qb (qv 0)))) (qb q_int)))))))))
theorem ok_keeps_greys (C : Cn P w K mg base) : Fn P w K mg base (tb K) 5 "keeps_greys" 1 F_keeps_greys := by
  obtain ⟨fd, F⟩ := C.d_keeps_greys
  exact Fn.mk_ (fn_ok (N := ["told", "sums", "row"]) (ps := ["told"]) F sc_keeps_greys (by decide) fun cdv A outer s H E hr => bo_keeps_greys C hr) C.g_keeps_greys F.kp (F.bindsN (ps := ["told"]) fun _ _ _ _ _ _ us hl => match us, hl with | [_], _ => rfl)
theorem bo_across (C : Cn P w K mg base) {cdv : Value} {A : Around} {outer : List Env} {s : Shared} {H : Hp} {E : XK} (hr : Room 0 (A.deeper (envOfC "across" (defScope (top 51)) s.heap.objs.size (He.ga K "across") cdv))) :
    QSs (cxOf (L2.CX P w) P w K mg base ["rows", "lines", "one", "two", "three", "row"] "across" (defScope (top 51)) (He.ga K "across") cdv A outer s H E) (tb K) (fun cls d _ H => E cls d H) (defBody (top 51)) b_across := by
  exact (qss_cons (q_setComp (i := 1) (by rfl) sc_across.nd (by rfl) (q_iSeq (qv 0)) (blkOk_by (own := [("row", 5)]) (by kernel_rfl)) (fun _ _ _ _ _ => (qg_name (i := 5) sc_across.nd)) (fun _ _ _ _ _ => (qts_one (qt_ne (hu64 hr) (qb (qv 5)) (qb (q_mul (qb (q_tup (qs_cons (q_tup (qs_cons q_int (qs_cons q_int qs_nil))) qs_nil))) (qb (q_gintE C.i_SIZE))))))) (fun _ _ _ _ _ => (qv 5)))
    (qss_cons (q_ifS (qt_eq (hu64 hr) (qb (qv 1)) (qb (qf (q_lst qs_nil)))) (qss_one (q_ret (q_tup (qs_cons (q_tup (qs_cons q_int (qs_cons q_int qs_nil))) (qs_cons (q_tup (qs_cons q_int (qs_cons q_int qs_nil))) (qs_cons (q_tup (qs_cons q_int (qs_cons q_int qs_nil))) qs_nil)))))) qss_nil)
    (qss_cons (q_pt (q_ix (qb (qv 1)) (qb q_int)) (qg_tup (by rfl) (qgs_cons (qg_name (i := 2) sc_across.nd) (qgs_cons (qg_name (i := 3) sc_across.nd) (qgs_cons (qg_name (i := 4) sc_across.nd) qgs_nil)))))
    (qss_cons (q_ifS (qt_eq (hu64 hr) (qb (q_ix (qb (qv 2)) (qb q_int))) (qb q_int)) (qss_one (q_ret (q_tup (qs_cons (q_tup (qs_cons q_int (qs_cons q_int qs_nil))) (qs_cons (q_tup (qs_cons q_int (qs_cons q_int qs_nil))) (qs_cons (q_tup (qs_cons q_int (qs_cons q_int qs_nil))) qs_nil)))))) qss_nil)
    (qss_one (q_ret (q_if (qt_ne (hu64 hr) (qb (q_ix (qb (qv 3)) (qb q_int))) (qb q_int)) (q_tup (qs_cons (q_tup (qs_cons (q_sub (qb q_int) (qb (q_ix (qb (qv 3)) (qb q_int)))) (qs_cons (q_ix (qb (qv 3)) (qb q_int)) qs_nil))) (qs_cons (qv 2) (qs_cons (q_tup (qs_cons q_int (qs_cons q_int qs_nil))) qs_nil)))) (q_tup (qs_cons (q_tup (qs_cons q_int (qs_cons q_int qs_nil))) (qs_cons (q_tup (qs_cons q_int (qs_cons q_int qs_nil))) (qs_cons (q_tup (qs_cons q_int (qs_cons q_int qs_nil))) qs_nil)))))))))))
theorem ok_across (C : Cn P w K mg base) : Fn P w K mg base (tb K) 1 "across" 1 F_across := by
  obtain ⟨fd, F⟩ := C.d_across
  exact Fn.mk_ (fn_ok (N := ["rows", "lines", "one", "two", "three", "row"]) (ps := ["rows"]) F sc_across (by decide) fun cdv A outer s H E hr => bo_across C hr) C.g_across F.kp (F.bindsN (ps := ["rows"]) fun _ _ _ _ _ _ us hl => match us, hl with | [_], _ => rfl)
theorem bo_lost_way (C : Cn P w K mg base) {cdv : Value} {A : Around} {outer : List Env} {s : Shared} {H : Hp} {E : XK} (hr : Room 6 (A.deeper (envOfC "lost_way" (defScope (top 50)) s.heap.objs.size (He.ga K "lost_way") cdv))) :
    QSs (cxOf (L2.CX P w) P w K mg base ["told", "line", "found", "place"] "lost_way" (defScope (top 50)) (He.ga K "lost_way") cdv A outer s H E) (tb K) (fun cls d _ H => E cls d H) (defBody (top 50)) b_lost_way := by
  exact (qss_cons (q_ifS (qt_val (q_call (ok_can_turn C) hr (takes_of (by rfl) (by rfl) (by rfl) (by rfl)) (by decide) (by rfl) (qs_cons (qv 0) qs_nil))) (qss_one (q_ret q_non)) qss_nil)
    (qss_cons (q_for (passes_of (by rfl)) (by rfl) (q_iRng1 (by rfl) C.n_range (qs_cons (q_gintE C.i_SIZE) qs_nil)) (qg_name (i := 1) sc_lost_way.nd) (qss_cons (q_set (i := 2) sc_lost_way.nd (by rfl) (by first | exact Or.inl rfl | exact Or.inr rfl) (q_tupleOf (by rfl) C.n_tuple (qb (qf (q_comp (by rfl) sc_lost_way.nd (q_iRng1 (by rfl) C.n_range (qs_cons (q_gintE C.i_SIZE) qs_nil)) (blkOk_by (own := [("place", 3)]) (by kernel_rfl)) (fun _ _ _ _ _ => (qg_name (i := 3) sc_lost_way.nd)) (fun _ _ _ _ _ => qts_nil) (fun _ _ _ _ _ => (q_call (ok_minor C) hr L2.takes0 (by decide) (by rfl) (qs_cons (q_fldC (ixs := [(0, 0), (1, 0)]) C.isc (qb (qv 0))) (qs_cons (qv 1) (qs_cons (qv 3) qs_nil))))))))))
    (qss_one (q_ifS (qt_ne (hu64 hr) (qb (qv 2)) (qb (q_mul (qb (q_tup (qs_cons (q_tup (qs_cons q_int (qs_cons q_int qs_nil))) qs_nil))) (qb (q_gintE C.i_SIZE))))) (qss_one (q_ret (qv 2))) qss_nil))))
    (qss_one (q_ret (q_call (ok_across C) hr (takes_of (by rfl) (by rfl) (by rfl) (by rfl)) (by decide) (by rfl) (qs_cons (q_fldC (ixs := [(0, 0), (1, 0)]) C.isc (qb (qv 0))) qs_nil))))))
theorem ok_lost_way (C : Cn P w K mg base) : Fn P w K mg base (tb K) 7 "lost_way" 1 F_lost_way := by
  obtain ⟨fd, F⟩ := C.d_lost_way
  exact Fn.mk_ (fn_ok (N := ["told", "line", "found", "place"]) (ps := ["told"]) F sc_lost_way (by decide) fun cdv A outer s H E hr => bo_lost_way C hr) C.g_lost_way F.kp (F.bindsN (ps := ["told"]) fun _ _ _ _ _ _ us hl => match us, hl with | [_], _ => rfl)
theorem bo_same_for (C : Cn P w K mg base) {cdv : Value} {A : Around} {outer : List Env} {s : Shared} {H : Hp} {E : XK} (hr : Room 7 (A.deeper (envOfC "same_for" (defScope (top 55)) s.heap.objs.size (He.ga K "same_for") cdv))) :
    QSs (cxOf (L2.CX P w) P w K mg base ["told", "ones", "line", "place", "row"] "same_for" (defScope (top 55)) (He.ga K "same_for") cdv A outer s H E) (tb K) (fun cls d _ H => E cls d H) (defBody (top 55)) b_same_for := by
  exact (qss_cons (q_setComp (i := 1) (by rfl) sc_same_for.nd (by rfl) (q_iRng1 (by rfl) C.n_range (qs_cons (q_gintE C.i_SIZE) qs_nil)) (blkOk_by (own := [("line", 2)]) (by kernel_rfl)) (fun _ _ _ _ _ => (qg_name (i := 2) sc_same_for.nd)) (fun _ _ _ _ _ => qts_nil) (fun _ _ _ _ _ => (qf (q_comp (by rfl) sc_same_for.nd (q_iRng1 (by rfl) C.n_range (qs_cons (q_gintE C.i_SIZE) qs_nil)) (blkOk_by (own := [("place", 3)]) (by kernel_rfl)) (fun _ _ _ _ _ => (qg_name (i := 3) sc_same_for.nd)) (fun _ _ _ _ _ => qts_nil) (fun _ _ _ _ _ => (q_tup (qs_cons (q_intOf (by rfl) C.n_int (qb (q_and (qv 0) (q_one (q_eq (hu64 hr) (qb (qv 2)) (qb (qv 3))))))) (qs_cons q_int qs_nil))))))))
    (qss_one (q_ret (q_make (ok_Map_init C) hr (takes_of (by rfl) (by rfl) (by rfl) (by rfl)) (by decide) (by rfl) (qs_cons (q_tupleOf (by rfl) C.n_tuple (qb (qf (q_comp (by rfl) sc_same_for.nd (q_iSeq (qv 1)) (blkOk_by (own := [("row", 4)]) (by kernel_rfl)) (fun _ _ _ _ _ => (qg_name (i := 4) sc_same_for.nd)) (fun _ _ _ _ _ => qts_nil) (fun _ _ _ _ _ => (q_tupleOf (by rfl) C.n_tuple (qb (qv 4)))))))) (qs_cons (q_mul (qb (q_tup (qs_cons (q_tup (qs_cons q_int (qs_cons q_int qs_nil))) qs_nil))) (qb (q_gintE C.i_SIZE))) qs_nil))))))
theorem ok_same_for (C : Cn P w K mg base) : Fn P w K mg base (tb K) 8 "same_for" 1 F_same_for := by
  obtain ⟨fd, F⟩ := C.d_same_for
  exact Fn.mk_ (fn_ok (N := ["told", "ones", "line", "place", "row"]) (ps := ["told"]) F sc_same_for (by decide) fun cdv A outer s H E hr => bo_same_for C hr) C.g_same_for F.kp (F.bindsN (ps := ["told"]) fun _ _ _ _ _ _ us hl => match us, hl with | [_], _ => rfl)
theorem bo_by (C : Cn P w K mg base) {cdv : Value} {A : Around} {outer : List Env} {s : Shared} {H : Hp} {E : XK} (hr : Room 2 (A.deeper (envOfC "by" (defScope (top 29)) s.heap.objs.size (He.ga K "by") cdv))) :
    QSs (cxOf (L2.CX P w) P w K mg base ["one", "other"] "by" (defScope (top 29)) (He.ga K "by") cdv A outer s H E) (tb K) (fun cls d _ H => E cls d H) (defBody (top 29)) b_by := by
  exact (qss_one (q_ret (q_call (ok_fraction C) hr (takes_of (by rfl) (by rfl) (by rfl) (by rfl)) (by decide) (by rfl) (qs_cons (q_mul (qb (q_ix (qb (qv 0)) (qb q_int))) (qb (q_ix (qb (qv 1)) (qb q_int)))) (qs_cons (q_mul (qb (q_ix (qb (qv 0)) (qb q_int))) (qb (q_ix (qb (qv 1)) (qb q_int)))) qs_nil)))))
theorem ok_by (C : Cn P w K mg base) : Fn P w K mg base (tb K) 3 "by" 2 F_by := by
  obtain ⟨fd, F⟩ := C.d_by
  exact Fn.mk_ (fn_ok (N := ["one", "other"]) (ps := ["one", "other"]) F sc_by (by decide) fun cdv A outer s H E hr => bo_by C hr) C.g_by F.kp (F.bindsN (ps := ["one", "other"]) fun _ _ _ _ _ _ us hl => match us, hl with | [_, _], _ => rfl)
theorem bo_turned (C : Cn P w K mg base) {cdv : Value} {A : Around} {outer : List Env} {s : Shared} {H : Hp} {E : XK} (hr : Room 5 (A.deeper (envOfC "turned" (defScope (top 49)) s.heap.objs.size (He.ga K "turned") cdv))) :
    QSs (cxOf (L2.CX P w) P w K mg base ["told", "whole", "rows", "line", "back", "place", "row", "one"] "turned" (defScope (top 49)) (He.ga K "turned") cdv A outer s H E) (tb K) (fun cls d _ H => E cls d H) (defBody (top 49)) b_turned := by
  exact (qss_cons (q_set (i := 1) sc_turned.nd (by rfl) (by first | exact Or.inl rfl | exact Or.inr rfl) (q_call (ok_determinant C) hr (takes_of (by rfl) (by rfl) (by rfl) (by rfl)) (by decide) (by rfl) (qs_cons (qv 0) qs_nil)))
    (qss_cons (q_ifS (qt_eq (hu64 hr) (qb (q_ix (qb (qv 1)) (qb q_int))) (qb q_int)) (qss_one (q_raise0 C.x_NotTurned (by rfl) hr (takes_of (by rfl) (by rfl) (by rfl) (by rfl)))) qss_nil)
    (qss_cons (q_setO (i := 2) sc_turned.nd (by rfl) (by first | exact Or.inl rfl | exact Or.inr rfl) (q_lst qs_nil))
    (qss_cons (q_for (passes_of (by rfl)) (by rfl) (q_iRng1 (by rfl) C.n_range (qs_cons (q_gintE C.i_SIZE) qs_nil)) (qg_name (i := 3) sc_turned.nd) (qss_one (q_meth (i := 2) PySem.F.plainAttrs_list PySem.F.slot_list_append PySem.F.type_list_append mt_append om_append (by rfl) (by first | exact Or.inl rfl | exact Or.inr (Or.inl rfl)) (qs_cons (q_tupleOf (by rfl) C.n_tuple (qb (qf (q_comp (by rfl) sc_turned.nd (q_iRng1 (by rfl) C.n_range (qs_cons (q_gintE C.i_SIZE) qs_nil)) (blkOk_by (own := [("place", 5)]) (by kernel_rfl)) (fun _ _ _ _ _ => (qg_name (i := 5) sc_turned.nd)) (fun _ _ _ _ _ => qts_nil) (fun _ _ _ _ _ => (q_call (ok_by C) hr L2.takes0 (by decide) (by rfl) (qs_cons (q_call (ok_minor C) hr L2.takes0 (by decide) (by rfl) (qs_cons (q_fldC (ixs := [(0, 0), (1, 0)]) C.isc (qb (qv 0))) (qs_cons (qv 5) (qs_cons (qv 3) qs_nil)))) (qs_cons (qv 1) qs_nil)))))))) qs_nil))))
    (qss_cons (qs_frz (i := 2) (q_setComp (i := 4) (by rfl) sc_turned.nd (by rfl) (q_iSeq (qv 2)) (blkOk_by (own := [("row", 6)]) (by kernel_rfl)) (fun _ _ _ _ _ => (qg_name (i := 6) sc_turned.nd)) (fun _ _ _ _ _ => qts_nil) (fun _ _ _ _ _ => (q_call (ok_line_times C) hr L2.takes0 (by decide) (by rfl) (qs_cons (qv 6) (qs_cons (q_fldC (ixs := [(0, 1), (1, 1)]) C.isc (qb (qv 0))) qs_nil))))))
    (qss_one (q_ret (q_make (ok_Wide_init C) hr (takes_of (by rfl) (by rfl) (by rfl) (by rfl)) (by decide) (by rfl) (qs_cons (q_tupleOf (by rfl) C.n_tuple (qvB 2)) (qs_cons (q_tupleOf (by rfl) C.n_tuple (qb (qf (q_comp (by rfl) sc_turned.nd (q_iSeq (qv 4)) (blkOk_by (own := [("one", 7)]) (by kernel_rfl)) (fun _ _ _ _ _ => (qg_name (i := 7) sc_turned.nd)) (fun _ _ _ _ _ => qts_nil) (fun _ _ _ _ _ => (q_tup (qs_cons (q_sub (qb q_int) (qb (q_ix (qb (qv 7)) (qb q_int)))) (qs_cons (q_ix (qb (qv 7)) (qb q_int)) qs_nil)))))))) qs_nil))))))))))
theorem ok_turned (C : Cn P w K mg base) : Fn P w K mg base (tb K) 6 "turned" 1 F_turned := by
  obtain ⟨fd, F⟩ := C.d_turned
  exact Fn.mk_ (fn_ok (N := ["told", "whole", "rows", "line", "back", "place", "row", "one"]) (ps := ["told"]) F sc_turned (by decide) fun cdv A outer s H E hr => bo_turned C hr) C.g_turned F.kp (F.bindsN (ps := ["told"]) fun _ _ _ _ _ _ us hl => match us, hl with | [_], _ => rfl)
theorem bo_white_map (C : Cn P w K mg base) {cdv : Value} {A : Around} {outer : List Env} {s : Shared} {H : Hp} {E : XK} (hr : Room 3 (A.deeper (envOfC "white_map" (defScope (top 57)) s.heap.objs.size (He.ga K "white_map") cdv))) :
    QSs (cxOf (L2.CX P w) P w K mg base ["one", "other", "rows", "place", "number", "line", "row"] "white_map" (defScope (top 57)) (He.ga K "white_map") cdv A outer s H E) (tb K) (fun cls d _ H => E cls d H) (defBody (top 57)) b_white_map := by
  exact (qss_cons (q_expr (q_call (ok_require_colour C) hr (takes_of (by rfl) (by rfl) (by rfl) (by rfl)) (by decide) (by rfl) (qs_cons (qv 0) qs_nil)))
    (qss_cons (q_expr (q_call (ok_require_colour C) hr (takes_of (by rfl) (by rfl) (by rfl) (by rfl)) (by decide) (by rfl) (qs_cons (qv 1) qs_nil)))
    (qss_cons (q_ifS (qt_val (q_any (by rfl) (by rfl) C.n_any (qb (qf (q_comp (by rfl) sc_white_map.nd (q_iSeq (qv 0)) (blkOk_by (own := [("number", 4)]) (by kernel_rfl)) (fun _ _ _ _ _ => (qg_name (i := 4) sc_white_map.nd)) (fun _ _ _ _ _ => qts_nil) (fun _ _ _ _ _ => (q_eq (hu64 hr) (qb (q_ix (qb (qv 4)) (qb q_int))) (qb q_int)))))))) (qss_one (q_raise0 C.x_NotTurned (by rfl) hr (takes_of (by rfl) (by rfl) (by rfl) (by rfl)))) qss_nil)
    (qss_cons (q_setComp (i := 2) (by rfl) sc_white_map.nd (by rfl) (q_iRng1 (by rfl) C.n_range (qs_cons (q_gintE C.i_SIZE) qs_nil)) (blkOk_by (own := [("line", 5)]) (by kernel_rfl)) (fun _ _ _ _ _ => (qg_name (i := 5) sc_white_map.nd)) (fun _ _ _ _ _ => qts_nil) (fun _ _ _ _ _ => (q_newC (q_rep (qb (qf (q_lst (qs_cons (q_tup (qs_cons q_int (qs_cons q_int qs_nil))) qs_nil)))) (qb (q_gintE C.i_SIZE))))))
    (qss_cons (q_for (passes_of (by rfl)) (by rfl) (q_iRng1 (by rfl) C.n_range (qs_cons (q_gintE C.i_SIZE) qs_nil)) (qg_name (i := 3) sc_white_map.nd) (qss_one (q_setIxE (q_call (ok_by C) hr (takes_of (by rfl) (by rfl) (by rfl) (by rfl)) (by decide) (by rfl) (qs_cons (q_ix (qb (qv 1)) (qb (qv 3))) (qs_cons (q_ix (qb (qv 0)) (qb (qv 3))) qs_nil))) (q_ix (qb (qv 2)) (qb (qv 3))) (qv 3))))
    (qss_one (q_ret (q_make (ok_Wide_init C) hr (takes_of (by rfl) (by rfl) (by rfl) (by rfl)) (by decide) (by rfl) (qs_cons (q_tupleC (by rfl) C.n_tuple (qb (qf (q_comp (by rfl) sc_white_map.nd (q_iSeq (qv 2)) (blkOk_by (own := [("row", 6)]) (by kernel_rfl)) (fun _ _ _ _ _ => (qg_name (i := 6) sc_white_map.nd)) (fun _ _ _ _ _ => qts_nil) (fun _ _ _ _ _ => (q_tupleC (by rfl) C.n_tuple (qb (qv 6)))))))) (qs_cons (q_mul (qb (q_tup (qs_cons (q_tup (qs_cons q_int (qs_cons q_int qs_nil))) qs_nil))) (qb (q_gintE C.i_SIZE))) qs_nil))))))))))
theorem ok_white_map (C : Cn P w K mg base) : Fn P w K mg base (tb K) 4 "white_map" 2 F_white_map := by
  obtain ⟨fd, F⟩ := C.d_white_map
  exact Fn.mk_ (fn_ok (N := ["one", "other", "rows", "place", "number", "line", "row"]) (ps := ["one", "other"]) F sc_white_map (by decide) fun cdv A outer s H E hr => bo_white_map C hr) C.g_white_map F.kp (F.bindsN (ps := ["one", "other"]) fun _ _ _ _ _ _ us hl => match us, hl with | [_, _], _ => rfl)
theorem bo_wide (C : Cn P w K mg base) {cdv : Value} {A : Around} {outer : List Env} {s : Shared} {H : Hp} {E : XK} (hr : Room 2 (A.deeper (envOfC "wide" (defScope (top 44)) s.heap.objs.size (He.ga K "wide") cdv))) :
    QSs (cxOf (L2.CX P w) P w K mg base ["told"] "wide" (defScope (top 44)) (He.ga K "wide") cdv A outer s H E) (tb K) (fun cls d _ H => E cls d H) (defBody (top 44)) b_wide := by
  exact (qss_one (q_ret (q_make (ok_Wide_init C) hr (takes_of (by rfl) (by rfl) (by rfl) (by rfl)) (by decide) (by rfl) (qs_cons (q_fldC (ixs := [(0, 0), (1, 0)]) C.isc (qb (qv 0))) (qs_cons (q_fldC (ixs := [(0, 1), (1, 1)]) C.isc (qb (qv 0))) qs_nil)))))
theorem ok_wide (C : Cn P w K mg base) : Fn P w K mg base (tb K) 3 "wide" 1 F_wide := by
  obtain ⟨fd, F⟩ := C.d_wide
  exact Fn.mk_ (fn_ok (N := ["told"]) (ps := ["told"]) F sc_wide (by decide) fun cdv A outer s H E hr => bo_wide C hr) C.g_wide F.kp (F.bindsN (ps := ["told"]) fun _ _ _ _ _ _ us hl => match us, hl with | [_], _ => rfl)
theorem refuse_ok (c : Nat) (ds : List D) (s : S) (hc : c ∈ es) (hl : ds.length = ((tb K).fl c).length) : F__law_refusal [.exc c ds] s = .ok (.tup (.str (nm c) :: ds)) s := by
  have hc : c = 2 ∨ c = 3 ∨ c = 4 ∨ c = 5 ∨ c = 6 ∨ c = 7 ∨ c = 8 ∨ c = 9 ∨ c = 10 ∨ c = 11 ∨ c = 12 ∨ c = 13 ∨ c = 14 ∨ c = 15 := by simpa [es] using hc
  rcases hc with rfl | rfl | rfl | rfl | rfl | rfl | rfl | rfl | rfl | rfl | rfl | rfl | rfl | rfl
  · exact match ds, hl with | [_, _], _ => by kernel_rfl
  · exact match ds, hl with | [_], _ => by kernel_rfl
  · exact match ds, hl with | [_], _ => by kernel_rfl
  · exact match ds, hl with | [_], _ => by kernel_rfl
  · exact match ds, hl with | [_], _ => by kernel_rfl
  · exact match ds, hl with | [_], _ => by kernel_rfl
  · exact match ds, hl with | [_], _ => by kernel_rfl
  · exact match ds, hl with | [_], _ => by kernel_rfl
  · exact match ds, hl with | [_], _ => by kernel_rfl
  · exact match ds, hl with | [_], _ => by kernel_rfl
  · exact match ds, hl with | [_], _ => by kernel_rfl
  · exact match ds, hl with | [], _ => by kernel_rfl
  · exact match ds, hl with | [], _ => by kernel_rfl
  · exact match ds, hl with | [], _ => by kernel_rfl
theorem tell (C : Cn P w K mg base) : Tell P w K mg base (tb K) es nm 0 "_law_told" "call" "TintError" "_law_refusal" where
  ex := by
    obtain ⟨fd, F⟩ := C.d__law_told
    exact ⟨_, _, _, _, fd, _, _, _, _, _, _, _, _, _, _, _, _, _, _, C.g__law_told, F, sc__law_told, F.bindsN fun _ _ _ _ _ _ us hl => match us, hl with | [_], _ => rfl, rfl, rfl, rfl, rfl⟩
  hot := by
    obtain ⟨fd, F⟩ := C.d__law_refusal
    exact ⟨F__law_refusal, ⟨⟨_, _, "e", _, _, _, fd, ["e", "kinds", "marks", "name"], b__law_refusal, C.g__law_refusal, F, sc__law_refusal, by decide, F.bindsN fun _ _ _ _ _ _ us hl => match us, hl with | [_], _ => rfl, rfl, fun cdv A outer s H a c d oe vs hc hz hd hr => bo__law_refusal C hc hz hd hr⟩⟩, refuse_ok⟩
  bs := ⟨_, C.gx_TintError, fun c hc => by
    have hc : c = 2 ∨ c = 3 ∨ c = 4 ∨ c = 5 ∨ c = 6 ∨ c = 7 ∨ c = 8 ∨ c = 9 ∨ c = 10 ∨ c = 11 ∨ c = 12 ∨ c = 13 ∨ c = 14 ∨ c = 15 := by simpa [es] using hc
    rcases hc with rfl | rfl | rfl | rfl | rfl | rfl | rfl | rfl | rfl | rfl | rfl | rfl | rfl | rfl
    · exact C.xm_BadPart
    · exact C.xm_BadNumber
    · exact C.xm_Unknown
    · exact C.xm_BadPoint
    · exact C.xm_BadBytes
    · exact C.xm_BadGroup
    · exact C.xm_BadPicture
    · exact C.xm_BadChange
    · exact C.xm_TooMany
    · exact C.xm_BadText
    · exact C.xm_BadLine
    · exact C.xm_NotTurned
    · exact C.xm_BadClaim
    · exact C.xm_NothingDone⟩
  dt := by decide
  ct := by decide
  de := by decide
  dr := by decide
theorem bo_law (C : Cn P w K mg base) {cdv : Value} {A : Around} {outer : List Env} {s : Shared} {H : Hp} {E : XK} (hA : A.guards = some []) (hcd : cdv = .ref (codeF K (He.ga K "law"))) (hr : Room 8 (A.deeper (envOfC "law" (defScope (top 80)) s.heap.objs.size (He.ga K "law") cdv))) :
    QSs (cxOf (L2.CX P w) P w K mg base ["script", "row", "turn", "parts", "other", "one", "two", "colour", "both", "told", "whole_now", "back", "gone", "try_now", "rival", "units", "unlike", "unit", "greys", "white", "found", "k", "each", "line", "level", "grey"] "law" (defScope (top 80)) (He.ga K "law") cdv A outer s H E) (tb K) (fun cls d _ H => E cls d H) (defBody (top 80)) b_law := by
  have hgu : (cxOf (L2.CX P w) P w K mg base ["script", "row", "turn", "parts", "other", "one", "two", "colour", "both", "told", "whole_now", "back", "gone", "try_now", "rival", "units", "unlike", "unit", "greys", "white", "found", "k", "each", "line", "level", "grey"] "law" (defScope (top 80)) (He.ga K "law") cdv A outer s H E).A.guards = some [] := (deeper_guards _).trans hA
  exact (qss_cons (q_cell (i := 1) sc_law.nd (by rfl) (by first | exact Or.inl rfl | exact Or.inr rfl) (q_lst (qs_cons (qv 0) (qs_cons q_int (qs_cons q_int (qs_cons q_int qs_nil))))))
    (qss_cons (q_for (passes_of (by rfl)) (by rfl) (q_iRng1 (by rfl) C.n_range (qs_cons q_int qs_nil)) (qg_name (i := 2) sc_law.nd) (qss_cons (q_pt (q_tup (qs_cons (q_call (ok__law_map C) hr (takes_of (by rfl) (by rfl) (by rfl) (by rfl)) (by decide) (by rfl) (qs_cons (qv 1) qs_nil)) (qs_cons (q_call (ok__law_map C) hr (takes_of (by rfl) (by rfl) (by rfl) (by rfl)) (by decide) (by rfl) (qs_cons (qv 1) qs_nil)) qs_nil))) (qg_tup (by rfl) (qgs_cons (qg_name (i := 3) sc_law.nd) (qgs_cons (qg_name (i := 4) sc_law.nd) qgs_nil))))
    (qss_cons (q_pt (q_tup (qs_cons (q_make (ok_Map_init C) hr (takes_of (by rfl) (by rfl) (by rfl) (by rfl)) (by decide) (by rfl) (qs_cons (q_ix (qb (qv 3)) (qb q_int)) (qs_cons (q_ix (qb (qv 3)) (qb q_int)) qs_nil))) (qs_cons (q_make (ok_Map_init C) hr (takes_of (by rfl) (by rfl) (by rfl) (by rfl)) (by decide) (by rfl) (qs_cons (q_ix (qb (qv 4)) (qb q_int)) (qs_cons (q_ix (qb (qv 4)) (qb q_int)) qs_nil))) (qs_cons (q_call (ok__law_colour C) hr (takes_of (by rfl) (by rfl) (by rfl) (by rfl)) (by decide) (by rfl) (qs_cons (qv 1) qs_nil)) qs_nil)))) (qg_tup (by rfl) (qgs_cons (qg_name (i := 5) sc_law.nd) (qgs_cons (qg_name (i := 6) sc_law.nd) (qgs_cons (qg_name (i := 7) sc_law.nd) qgs_nil)))))
    (qss_cons (q_ifS (qw_pt (qw_or (qt_not (qt_val (q_call (ok__law_alike C 5) hr (takes_of (by rfl) (by rfl) (by rfl) (by rfl)) (by decide) (by rfl) (qs_cons (q_tup (qs_cons (q_fldC (ixs := [(0, 0), (1, 0)]) C.isc (qb (qv 5))) (qs_cons (q_fldC (ixs := [(0, 1), (1, 1)]) C.isc (qb (qv 5))) qs_nil))) (qs_cons (qv 3) qs_nil))))) (qw_or1 (qt_not (qt_val (q_call (ok__law_alike C 5) hr (takes_of (by rfl) (by rfl) (by rfl) (by rfl)) (by decide) (by rfl) (qs_cons (q_tup (qs_cons (q_fldC (ixs := [(0, 0), (1, 0)]) C.isc (qb (q_call (ok_wide C) hr (takes_of (by rfl) (by rfl) (by rfl) (by rfl)) (by decide) (by rfl) (qs_cons (qv 5) qs_nil)))) (qs_cons (q_fldC (ixs := [(0, 1), (1, 1)]) C.isc (qb (q_call (ok_wide C) hr (takes_of (by rfl) (by rfl) (by rfl) (by rfl)) (by decide) (by rfl) (qs_cons (qv 5) qs_nil)))) qs_nil))) (qs_cons (qv 3) qs_nil)))))))) (qss_one (q_ret q_bl)) qss_nil)
    (qss_cons (q_ifS (qt_not (qt_val (q_call (ok__law_alike C 5) hr (takes_of (by rfl) (by rfl) (by rfl) (by rfl)) (by decide) (by rfl) (qs_cons (q_tup (qs_cons (q_call (ok_mapped C) hr (takes_of (by rfl) (by rfl) (by rfl) (by rfl)) (by decide) (by rfl) (qs_cons (qv 5) (qs_cons (qv 7) qs_nil))) (qs_cons (q_call (ok_mapped C) hr (takes_of (by rfl) (by rfl) (by rfl) (by rfl)) (by decide) (by rfl) (qs_cons (q_call (ok_wide C) hr (takes_of (by rfl) (by rfl) (by rfl) (by rfl)) (by decide) (by rfl) (qs_cons (qv 5) qs_nil)) (qs_cons (qv 7) qs_nil))) qs_nil))) (qs_cons (q_mul (qb (q_tup (qs_cons (q_call (ok__law_through C) hr (takes_of (by rfl) (by rfl) (by rfl) (by rfl)) (by decide) (by rfl) (qs_cons (qv 3) (qs_cons (qv 7) qs_nil))) qs_nil))) (qb q_int)) qs_nil))))) (qss_one (q_ret q_bl)) qss_nil)
    (qss_cons (q_set (i := 8) sc_law.nd (by rfl) (by first | exact Or.inl rfl | exact Or.inr rfl) (q_call (ok_behind C) hr (takes_of (by rfl) (by rfl) (by rfl) (by rfl)) (by decide) (by rfl) (qs_cons (qv 5) (qs_cons (qv 6) qs_nil))))
    (qss_cons (q_for (passes_of (by rfl)) (by rfl) (q_iSeq (q_addA (qb (qf (q_lst (qs_cons (qv 7) qs_nil)))) (qb (qf (q_comp (by rfl) sc_law.nd (q_iRng1 (by rfl) C.n_range (qs_cons q_int qs_nil)) (blkOk_by (own := [("k", 21)]) (by kernel_rfl)) (fun _ _ _ _ _ => (qg_name (i := 21) sc_law.nd)) (fun _ _ _ _ _ => qts_nil) (fun _ _ _ _ _ => (q_call (ok__law_colour C) hr L2.takes0 (by decide) (by rfl) (qs_cons (qv 1) qs_nil)))))))) (qg_name (i := 9) sc_law.nd) (qss_one (q_ifS (qt_not (qt_val (q_call (ok__law_alike C 5) hr (takes_of (by rfl) (by rfl) (by rfl) (by rfl)) (by decide) (by rfl) (qs_cons (q_call (ok_mapped C) hr (takes_of (by rfl) (by rfl) (by rfl) (by rfl)) (by decide) (by rfl) (qs_cons (qv 8) (qs_cons (qv 9) qs_nil))) (qs_cons (q_call (ok__law_through C) hr (takes_of (by rfl) (by rfl) (by rfl) (by rfl)) (by decide) (by rfl) (qs_cons (qv 4) (qs_cons (q_call (ok__law_through C) hr (takes_of (by rfl) (by rfl) (by rfl) (by rfl)) (by decide) (by rfl) (qs_cons (qv 3) (qs_cons (qv 9) qs_nil))) qs_nil))) qs_nil))))) (qss_one (q_ret q_bl)) qss_nil)))
    (qss_cons (q_set (i := 10) sc_law.nd (by rfl) (by first | exact Or.inl rfl | exact Or.inr rfl) (q_call (ok__law_det C) hr (takes_of (by rfl) (by rfl) (by rfl) (by rfl)) (by decide) (by rfl) (qs_cons (q_ix (qb (qv 3)) (qb q_int)) qs_nil)))
    (qss_cons (q_ifS (qt_not (qt_val (q_call (ok__law_alike C 5) hr (takes_of (by rfl) (by rfl) (by rfl) (by rfl)) (by decide) (by rfl) (qs_cons (q_tup (qs_cons (q_call (ok_determinant C) hr (takes_of (by rfl) (by rfl) (by rfl) (by rfl)) (by decide) (by rfl) (qs_cons (qv 5) qs_nil)) (qs_cons (q_call (ok_can_turn C) hr (takes_of (by rfl) (by rfl) (by rfl) (by rfl)) (by decide) (by rfl) (qs_cons (qv 5) qs_nil)) qs_nil))) (qs_cons (q_tup (qs_cons (qv 10) (qs_cons (q_ne (hu64 hr) (qb (q_ix (qb (qv 10)) (qb q_int))) (qb q_int)) qs_nil))) qs_nil))))) (qss_one (q_ret q_bl)) qss_nil)
    (qss_cons (q_pt (q_tup (qs_cons (q_told (kk := 0) (n := 0) (tell C) rfl (C.t_law) hcd rfl hr (by decide) (LamX.lamS_by (by rfl)) (by rfl) (fun _ _ _ _ _ => rfl) fun A outer s H E f c' hr => (q_call (ok_turned C) hr (takes_of (by rfl) (by rfl) (by rfl) (by rfl)) (by decide) (by rfl) (qs_cons (qv 5) qs_nil))) (qs_cons (q_call (ok_lost_way C) hr (takes_of (by rfl) (by rfl) (by rfl) (by rfl)) (by decide) (by rfl) (qs_cons (qv 5) qs_nil)) qs_nil))) (qg_tup (by rfl) (qgs_cons (qg_name (i := 11) sc_law.nd) (qgs_cons (qg_name (i := 12) sc_law.nd) qgs_nil))))
    (qss_cons (q_ifS (qt_ne (hu64 hr) (qb (q_ix (qb (qv 10)) (qb q_int))) (qb q_int)) (qss_one (q_ifS (qw_pt (qw_or (qt_ne (hu64 hr) (qb (q_ix (qb (qv 11)) (qb q_int))) (qb q_str)) (qw_or (qt_isNot (qb (qv 12)) (qb q_non)) (qw_or (qt_ne (hu64 hr) (qb (q_call (ok_mapped C) hr (takes_of (by rfl) (by rfl) (by rfl) (by rfl)) (by decide) (by rfl) (qs_cons (q_ix (qb (qv 11)) (qb q_int)) (qs_cons (q_call (ok_mapped C) hr (takes_of (by rfl) (by rfl) (by rfl) (by rfl)) (by decide) (by rfl) (qs_cons (qv 5) (qs_cons (qv 7) qs_nil))) qs_nil)))) (qb (qv 7))) (qw_or1 (qt_ne (hu64 hr) (qb (q_call (ok_mapped C) hr (takes_of (by rfl) (by rfl) (by rfl) (by rfl)) (by decide) (by rfl) (qs_cons (qv 5) (qs_cons (q_call (ok_mapped C) hr (takes_of (by rfl) (by rfl) (by rfl) (by rfl)) (by decide) (by rfl) (qs_cons (q_ix (qb (qv 11)) (qb q_int)) (qs_cons (qv 7) qs_nil))) qs_nil)))) (qb (qv 7)))))))) (qss_one (q_ret q_bl)) qss_nil)) (qss_cons (q_ifS (qw_pt (qw_or (qt_not (qt_val (q_callG (ok__law_same C) hgu hr (takes_of (by rfl) (by rfl) (by rfl) (by rfl)) (by decide) (by rfl) (qs_cons (qv 11) (qs_cons (q_tup (qs_cons q_str qs_nil)) qs_nil))))) (qw_or (qt_not (qt_val (q_isTy C.isc (by rfl) C.n_tuple (by rfl) C.n_isinstance (qb (qv 12))))) (qw_or (qt_ne (hu64 hr) (qb (q_len (by rfl) C.n_len (qb (qv 12)))) (qb q_int)) (qw_or1 (qt_ne (hu64 hr) (qb (qf (q_comp (by rfl) sc_law.nd (q_iSeq (qv 12)) (blkOk_by (own := [("each", 22)]) (by kernel_rfl)) (fun _ _ _ _ _ => (qg_name (i := 22) sc_law.nd)) (fun _ _ _ _ _ => (qts_one (qt_not (qt_val (q_call (ok__law_is_frac C) hr L2.takes0 (by decide) (by rfl) (qs_cons (qv 22) qs_nil)))))) (fun _ _ _ _ _ => (qv 22))))) (qb (qf (q_lst qs_nil))))))))) (qss_one (q_ret q_bl)) qss_nil)
    (qss_one (q_ifS (qw_pt (qw_or (qt_eq (hu64 hr) (qb (qv 12)) (qb (q_mul (qb (q_tup (qs_cons (q_tup (qs_cons q_int (qs_cons q_int qs_nil))) qs_nil))) (qb q_int)))) (qw_or (qt_ne (hu64 hr) (qb (qf (q_comp (by rfl) sc_law.nd (q_iSeq (q_ix (qb (qv 3)) (qb q_int))) (blkOk_by (own := [("line", 23)]) (by kernel_rfl)) (fun _ _ _ _ _ => (qg_name (i := 23) sc_law.nd)) (fun _ _ _ _ _ => (qts_one (qt_ne (hu64 hr) (qb (q_ix (qb (q_call (ok__law_dot C) hr L2.takes0 (by decide) (by rfl) (qs_cons (qv 23) (qs_cons (qv 12) qs_nil)))) (qb q_int))) (qb q_int)))) (fun _ _ _ _ _ => (qv 23))))) (qb (qf (q_lst qs_nil)))) (qw_or1 (qt_isNotB (qb (q_call (ok_is_lost_way C) hr (takes_of (by rfl) (by rfl) (by rfl) (by rfl)) (by decide) (by rfl) (qs_cons (qv 5) (qs_cons (qv 12) qs_nil)))) (qb q_bl)))))) (qss_one (q_ret q_bl)) qss_nil))))
    (qss_cons (q_set (i := 13) sc_law.nd (by rfl) (by first | exact Or.inl rfl | exact Or.inr rfl) (q_call (ok__law_pick C) hr (takes_of (by rfl) (by rfl) (by rfl) (by rfl)) (by decide) (by rfl) (qs_cons (qv 1) (qs_cons (qf (q_lst (qs_cons (qv 7) (qs_cons (q_mul (qb (q_tup (qs_cons (q_tup (qs_cons q_int (qs_cons q_int qs_nil))) qs_nil))) (qb q_int)) (qs_cons (q_tup (qs_cons (q_tup (qs_cons q_int (qs_cons q_int qs_nil))) (qs_cons (q_tup (qs_cons (q_neg (qb q_int)) (qs_cons q_int qs_nil))) (qs_cons (q_tup (qs_cons q_int (qs_cons q_int qs_nil))) qs_nil)))) qs_nil))))) qs_nil))))
    (qss_cons (q_ifS (qt_not (qt_val (q_call (ok__law_alike C 5) hr (takes_of (by rfl) (by rfl) (by rfl) (by rfl)) (by decide) (by rfl) (qs_cons (q_call (ok_is_lost_way C) hr (takes_of (by rfl) (by rfl) (by rfl) (by rfl)) (by decide) (by rfl) (qs_cons (qv 5) (qs_cons (qv 13) qs_nil))) (qs_cons (q_and (q_ne (hu64 hr) (qb (qv 13)) (qb (q_mul (qb (q_tup (qs_cons (q_tup (qs_cons q_int (qs_cons q_int qs_nil))) qs_nil))) (qb q_int)))) (q_one (q_eq (hu64 hr) (qb (qf (q_comp (by rfl) sc_law.nd (q_iSeq (q_ix (qb (qv 3)) (qb q_int))) (blkOk_by (own := [("line", 23)]) (by kernel_rfl)) (fun _ _ _ _ _ => (qg_name (i := 23) sc_law.nd)) (fun _ _ _ _ _ => (qts_one (qt_ne (hu64 hr) (qb (q_ix (qb (q_call (ok__law_dot C) hr L2.takes0 (by decide) (by rfl) (qs_cons (qv 23) (qs_cons (qv 13) qs_nil)))) (qb q_int))) (qb q_int)))) (fun _ _ _ _ _ => (qv 23))))) (qb (qf (q_lst qs_nil)))))) qs_nil))))) (qss_one (q_ret q_bl)) qss_nil)
    (qss_cons (q_set (i := 14) sc_law.nd (by rfl) (by first | exact Or.inl rfl | exact Or.inr rfl) (q_call (ok__law_pick C) hr (takes_of (by rfl) (by rfl) (by rfl) (by rfl)) (by decide) (by rfl) (qs_cons (qv 1) (qs_cons (qf (q_lst (qs_cons (qv 3) (qs_cons (qv 4) (qs_cons (q_tup (qs_cons (q_ix (qb (qv 3)) (qb q_int)) (qs_cons (q_ix (qb (qv 4)) (qb q_int)) qs_nil))) qs_nil))))) qs_nil))))
    (qss_cons (q_par (i := 15) (j := 16) (by rfl) sc_law.nd (qx_val (qf (q_lst (qs_cons (q_mul (qb (q_tup (qs_cons (q_tup (qs_cons q_int (qs_cons q_int qs_nil))) qs_nil))) (qb q_int)) (qs_cons (q_tup (qs_cons (q_tup (qs_cons q_int (qs_cons q_int qs_nil))) (qs_cons (q_tup (qs_cons q_int (qs_cons q_int qs_nil))) (qs_cons (q_tup (qs_cons q_int (qs_cons q_int qs_nil))) qs_nil)))) (qs_cons (q_tup (qs_cons (q_tup (qs_cons q_int (qs_cons q_int qs_nil))) (qs_cons (q_tup (qs_cons q_int (qs_cons q_int qs_nil))) (qs_cons (q_tup (qs_cons q_int (qs_cons q_int qs_nil))) qs_nil)))) (qs_cons (q_tup (qs_cons (q_tup (qs_cons q_int (qs_cons q_int qs_nil))) (qs_cons (q_tup (qs_cons q_int (qs_cons q_int qs_nil))) (qs_cons (q_tup (qs_cons q_int (qs_cons q_int qs_nil))) qs_nil)))) qs_nil)))))) (qx_own (q_lst qs_nil) qx_nil)))
    (qss_cons (q_for (passes_of (by rfl)) (by rfl) (q_iSeq (qv 15)) (qg_name (i := 17) sc_law.nd) (qss_one (q_meth (i := 16) PySem.F.plainAttrs_list PySem.F.slot_list_extend PySem.F.type_list_extend mt_extend om_extend (by rfl) (by first | exact Or.inl rfl | exact Or.inr (Or.inl rfl)) (qs_cons (q_if (qt_ne (hu64 hr) (qb (q_call (ok__law_through C) hr (takes_of (by rfl) (by rfl) (by rfl) (by rfl)) (by decide) (by rfl) (qs_cons (qv 3) (qs_cons (qv 17) qs_nil)))) (qb (q_call (ok__law_through C) hr (takes_of (by rfl) (by rfl) (by rfl) (by rfl)) (by decide) (by rfl) (qs_cons (qv 14) (qs_cons (qv 17) qs_nil))))) (qf (q_lst (qs_cons (qv 17) qs_nil))) (qf (q_lst qs_nil))) qs_nil))))
    (qss_cons (q_ifS (qt_not (qt_val (q_call (ok__law_alike C 5) hr (takes_of (by rfl) (by rfl) (by rfl) (by rfl)) (by decide) (by rfl) (qs_cons (q_tup (qs_cons (q_call (ok_are_alike C) hr (takes_of (by rfl) (by rfl) (by rfl) (by rfl)) (by decide) (by rfl) (qs_cons (qv 5) (qs_cons (q_make (ok_Map_init C) hr (takes_of (by rfl) (by rfl) (by rfl) (by rfl)) (by decide) (by rfl) (qs_cons (q_ix (qb (qv 14)) (qb q_int)) (qs_cons (q_ix (qb (qv 14)) (qb q_int)) qs_nil))) qs_nil))) (qs_cons (q_call (ok_apart C) hr (takes_of (by rfl) (by rfl) (by rfl) (by rfl)) (by decide) (by rfl) (qs_cons (qv 5) (qs_cons (q_make (ok_Map_init C) hr (takes_of (by rfl) (by rfl) (by rfl) (by rfl)) (by decide) (by rfl) (qs_cons (q_ix (qb (qv 14)) (qb q_int)) (qs_cons (q_ix (qb (qv 14)) (qb q_int)) qs_nil))) qs_nil))) qs_nil))) (qs_cons (q_tup (qs_cons (q_eq (hu64 hr) (qvB 16) (qb (qf (q_lst qs_nil)))) (qs_cons (q_if (qt_ne (hu64 hr) (qvB 16) (qb (qf (q_lst qs_nil)))) (q_ix (qvB 16) (qb q_int)) q_non) qs_nil))) qs_nil))))) (qss_one (q_ret q_bl)) qss_nil)
    (qss_cons (q_ifS (qw_pt (qw_or (qt_ne (hu64 hr) (qb (q_call (ok_mapped C) hr (takes_of (by rfl) (by rfl) (by rfl) (by rfl)) (by decide) (by rfl) (qs_cons (q_call (ok_same_for C) hr (takes_of (by rfl) (by rfl) (by rfl) (by rfl)) (by decide) (by rfl) (qs_cons q_bl qs_nil)) (qs_cons (qv 7) qs_nil)))) (qb (qv 7))) (qw_or1 (qt_ne (hu64 hr) (qb (q_call (ok_mapped C) hr (takes_of (by rfl) (by rfl) (by rfl) (by rfl)) (by decide) (by rfl) (qs_cons (q_call (ok_same_for C) hr (takes_of (by rfl) (by rfl) (by rfl) (by rfl)) (by decide) (by rfl) (qs_cons q_bl qs_nil)) (qs_cons (qv 7) qs_nil)))) (qb (q_mul (qb (q_tup (qs_cons (q_tup (qs_cons q_int (qs_cons q_int qs_nil))) qs_nil))) (qb q_int))))))) (qss_one (q_ret q_bl)) qss_nil)
    (qss_cons (q_setComp (i := 18) (by rfl) sc_law.nd (by rfl) (q_iSeq (qf (q_lst (qs_cons (q_tup (qs_cons q_int (qs_cons q_int qs_nil))) (qs_cons (q_tup (qs_cons q_int (qs_cons q_int qs_nil))) (qs_cons (q_tup (qs_cons q_int (qs_cons q_int qs_nil))) qs_nil)))))) (blkOk_by (own := [("level", 24)]) (by kernel_rfl)) (fun _ _ _ _ _ => (qg_name (i := 24) sc_law.nd)) (fun _ _ _ _ _ => qts_nil) (fun _ _ _ _ _ => (q_call (ok__law_through C) hr L2.takes0 (by decide) (by rfl) (qs_cons (qv 3) (qs_cons (q_mul (qb (q_tup (qs_cons (qv 24) qs_nil))) (qb q_int)) qs_nil)))))
    (qss_cons (q_ifS (qt_not (qt_val (q_call (ok__law_alike C 5) hr (takes_of (by rfl) (by rfl) (by rfl) (by rfl)) (by decide) (by rfl) (qs_cons (q_call (ok_keeps_greys C) hr (takes_of (by rfl) (by rfl) (by rfl) (by rfl)) (by decide) (by rfl) (qs_cons (qv 5) qs_nil)) (qs_cons (q_eq (hu64 hr) (qb (qf (q_comp (by rfl) sc_law.nd (q_iSeq (qv 18)) (blkOk_by (own := [("grey", 25)]) (by kernel_rfl)) (fun _ _ _ _ _ => (qg_name (i := 25) sc_law.nd)) (fun _ _ _ _ _ => (qts_one (qt_not (qt_chain (op_eqD (hu64 hr)) o2_eq (op_eqD (hu64 hr)) o2_eq (qb (q_ix (qb (qv 25)) (qb q_int))) (qb (q_ix (qb (qv 25)) (qb q_int))) (qb (q_ix (qb (qv 25)) (qb q_int))))))) (fun _ _ _ _ _ => (qv 25))))) (qb (qf (q_lst qs_nil)))) qs_nil))))) (qss_one (q_ret q_bl)) qss_nil)
    (qss_cons (q_set (i := 19) sc_law.nd (by rfl) (by first | exact Or.inl rfl | exact Or.inr rfl) (q_call (ok__law_colour C) hr (takes_of (by rfl) (by rfl) (by rfl) (by rfl)) (by decide) (by rfl) (qs_cons (qv 1) qs_nil)))
    (qss_cons (q_set (i := 20) sc_law.nd (by rfl) (by first | exact Or.inl rfl | exact Or.inr rfl) (q_told (kk := 0) (n := 0) (tell C) rfl (C.t_law) hcd rfl hr (by decide) (LamX.lamS_by (by rfl)) (by rfl) (fun _ _ _ _ _ => rfl) fun A outer s H E f c' hr => (q_call (ok_white_map C) hr (takes_of (by rfl) (by rfl) (by rfl) (by rfl)) (by decide) (by rfl) (qs_cons (qv 19) (qs_cons (qv 7) qs_nil)))))
    (qss_cons (q_ifS (qt_in (hu65 hr) (qb q_int) (qb (qf (q_comp (by rfl) sc_law.nd (q_iSeq (qv 19)) (blkOk_by (own := [("each", 22)]) (by kernel_rfl)) (fun _ _ _ _ _ => (qg_name (i := 22) sc_law.nd)) (fun _ _ _ _ _ => qts_nil) (fun _ _ _ _ _ => (q_ix (qb (qv 22)) (qb q_int))))))) (qss_one (q_ifS (qt_not (qt_val (q_callG (ok__law_same C) hgu hr (takes_of (by rfl) (by rfl) (by rfl) (by rfl)) (by decide) (by rfl) (qs_cons (qv 20) (qs_cons (q_tup (qs_cons q_str qs_nil)) qs_nil))))) (qss_one (q_ret q_bl)) qss_nil)) (qss_one (q_ifS (qw_pt (qw_or (qt_ne (hu64 hr) (qb (q_call (ok_mapped C) hr (takes_of (by rfl) (by rfl) (by rfl) (by rfl)) (by decide) (by rfl) (qs_cons (q_ix (qb (qv 20)) (qb q_int)) (qs_cons (qv 19) qs_nil)))) (qb (qv 7))) (qw_or1 (qt_ne (hu64 hr) (qb (q_call (ok_mapped C) hr (takes_of (by rfl) (by rfl) (by rfl) (by rfl)) (by decide) (by rfl) (qs_cons (q_ix (qb (qv 20)) (qb q_int)) (qs_cons (q_tup (qs_cons (q_tup (qs_cons q_int (qs_cons q_int qs_nil))) (qs_cons (q_ix (qb (qv 19)) (qb q_int)) (qs_cons (q_tup (qs_cons q_int (qs_cons q_int qs_nil))) qs_nil)))) qs_nil)))) (qb (q_tup (qs_cons (q_tup (qs_cons q_int (qs_cons q_int qs_nil))) (qs_cons (q_ix (qb (qv 7)) (qb q_int)) (qs_cons (q_tup (qs_cons q_int (qs_cons q_int qs_nil))) qs_nil))))))))) (qss_one (q_ret q_bl)) qss_nil)))
    (qss_one (q_ifS (qt_not (qt_val (q_call (ok__law_alike C 5) hr (takes_of (by rfl) (by rfl) (by rfl) (by rfl)) (by decide) (by rfl) (qs_cons (q_call (ok_difference C) hr (takes_of (by rfl) (by rfl) (by rfl) (by rfl)) (by decide) (by rfl) (qs_cons (qv 19) (qs_cons (qv 7) qs_nil))) (qs_cons (q_tupleOf (by rfl) C.n_tuple (qb (qf (q_comp (by rfl) sc_law.nd (q_iRng1 (by rfl) C.n_range (qs_cons q_int qs_nil)) (blkOk_by (own := [("k", 21)]) (by kernel_rfl)) (fun _ _ _ _ _ => (qg_name (i := 21) sc_law.nd)) (fun _ _ _ _ _ => qts_nil) (fun _ _ _ _ _ => (q_call (ok__law_sub C) hr L2.takes0 (by decide) (by rfl) (qs_cons (q_ix (qb (qv 19)) (qb (qv 21))) (qs_cons (q_ix (qb (qv 7)) (qb (qv 21))) qs_nil)))))))) qs_nil))))) (qss_one (q_ret q_bl)) qss_nil)))))))))))))))))))))))))
    (qss_one (q_ret q_bl))))
end
end K05

namespace K05
open PySem PySem.Spec PyProof.Rows L2 Tv
/-! ### the head -/
open He
def dd__law_refusal : DefD := ⟨("_law_refusal", none), "_law_refusal", "_law_refusal", defArgs (top 64), defBody (top 64), defScope (top 64), [], []⟩
def dd_is_row : DefD := ⟨("is_row", none), "is_row", "is_row", defArgs (top 18), defBody (top 18), defScope (top 18), [], []⟩
def dd_common : DefD := ⟨("common", none), "common", "common", defArgs (top 20), defBody (top 20), defScope (top 20), [], []⟩
def dd_is_whole : DefD := ⟨("is_whole", none), "is_whole", "is_whole", defArgs (top 17), defBody (top 17), defScope (top 17), [], []⟩
def dd_is_fraction : DefD := ⟨("is_fraction", none), "is_fraction", "is_fraction", defArgs (top 25), defBody (top 25), defScope (top 25), [], []⟩
def dd_is_small : DefD := ⟨("is_small", none), "is_small", "is_small", defArgs (top 34), defBody (top 34), defScope (top 34), [], []⟩
def dd_is_line : DefD := ⟨("is_line", none), "is_line", "is_line", defArgs (top 35), defBody (top 35), defScope (top 35), [], []⟩
def dd_first_wrong : DefD := ⟨("first_wrong", none), "first_wrong", "first_wrong", defArgs (top 19), defBody (top 19), defScope (top 19), [], []⟩
def dd_place_told : DefD := ⟨("place_told", none), "place_told", "place_told", defArgs (top 21), defBody (top 21), defScope (top 21), [], []⟩
def dd_require_part : DefD := ⟨("require_part", none), "require_part", "require_part", defArgs (top 22), defBody (top 22), defScope (top 22), [], []⟩
def dd_Map_init : DefD := ⟨("Map", some "__init__"), "__init__", "Map.__init__", defArgs (inClass (top 36) 0), defBody (inClass (top 36) 0), defScope (inClass (top 36) 0), [], []⟩
def dd__law_alike : DefD := ⟨("_law_alike", none), "_law_alike", "_law_alike", defArgs (top 62), defBody (top 62), defScope (top 62), [], []⟩
def dd__law_gcd : DefD := ⟨("_law_gcd", none), "_law_gcd", "_law_gcd", defArgs (top 66), defBody (top 66), defScope (top 66), [], []⟩
def dd__law_frac : DefD := ⟨("_law_frac", none), "_law_frac", "_law_frac", defArgs (top 67), defBody (top 67), defScope (top 67), [], []⟩
def dd__law_taken : DefD := ⟨("_law_taken", none), "_law_taken", "_law_taken", defArgs (top 60), defBody (top 60), defScope (top 60), [], []⟩
def dd__law_pick : DefD := ⟨("_law_pick", none), "_law_pick", "_law_pick", defArgs (top 61), defBody (top 61), defScope (top 61), [], []⟩
def dd__law_level : DefD := ⟨("_law_level", none), "_law_level", "_law_level", defArgs (top 73), defBody (top 73), defScope (top 73), [], []⟩
def dd__law_small : DefD := ⟨("_law_small", none), "_law_small", "_law_small", defArgs (top 74), defBody (top 74), defScope (top 74), [], []⟩
def dd__law_colour : DefD := ⟨("_law_colour", none), "_law_colour", "_law_colour", defArgs (top 79), defBody (top 79), defScope (top 79), [], []⟩
def dd__law_add : DefD := ⟨("_law_add", none), "_law_add", "_law_add", defArgs (top 68), defBody (top 68), defScope (top 68), [], []⟩
def dd__law_mul : DefD := ⟨("_law_mul", none), "_law_mul", "_law_mul", defArgs (top 70), defBody (top 70), defScope (top 70), [], []⟩
def dd__law_sub : DefD := ⟨("_law_sub", none), "_law_sub", "_law_sub", defArgs (top 69), defBody (top 69), defScope (top 69), [], []⟩
def dd__law_det : DefD := ⟨("_law_det", none), "_law_det", "_law_det", defArgs (top 78), defBody (top 78), defScope (top 78), [], []⟩
def dd__law_sum : DefD := ⟨("_law_sum", none), "_law_sum", "_law_sum", defArgs (top 71), defBody (top 71), defScope (top 71), [], []⟩
def dd__law_dot : DefD := ⟨("_law_dot", none), "_law_dot", "_law_dot", defArgs (top 76), defBody (top 76), defScope (top 76), [], []⟩
def dd__law_is_frac : DefD := ⟨("_law_is_frac", none), "_law_is_frac", "_law_is_frac", defArgs (top 72), defBody (top 72), defScope (top 72), [], []⟩
def dd__law_map : DefD := ⟨("_law_map", none), "_law_map", "_law_map", defArgs (top 75), defBody (top 75), defScope (top 75), [], []⟩
def dd__law_same : DefD := ⟨("_law_same", none), "_law_same", "_law_same", defArgs (top 63), defBody (top 63), defScope (top 63), [], []⟩
def dd__law_through : DefD := ⟨("_law_through", none), "_law_through", "_law_through", defArgs (top 77), defBody (top 77), defScope (top 77), [], []⟩
def dd_fraction : DefD := ⟨("fraction", none), "fraction", "fraction", defArgs (top 24), defBody (top 24), defScope (top 24), [], []⟩
def dd_times : DefD := ⟨("times", none), "times", "times", defArgs (top 28), defBody (top 28), defScope (top 28), [], []⟩
def dd_plus : DefD := ⟨("plus", none), "plus", "plus", defArgs (top 26), defBody (top 26), defScope (top 26), [], []⟩
def dd_total : DefD := ⟨("total", none), "total", "total", defArgs (top 30), defBody (top 30), defScope (top 30), [], []⟩
def dd_line_times : DefD := ⟨("line_times", none), "line_times", "line_times", defArgs (top 39), defBody (top 39), defScope (top 39), [], []⟩
def dd_require_colour : DefD := ⟨("require_colour", none), "require_colour", "require_colour", defArgs (top 38), defBody (top 38), defScope (top 38), [], []⟩
def dd_mapped : DefD := ⟨("mapped", none), "mapped", "mapped", defArgs (top 40), defBody (top 40), defScope (top 40), [], []⟩
def dd_apart : DefD := ⟨("apart", none), "apart", "apart", defArgs (top 54), defBody (top 54), defScope (top 54), [], []⟩
def dd_are_alike : DefD := ⟨("are_alike", none), "are_alike", "are_alike", defArgs (top 53), defBody (top 53), defScope (top 53), [], []⟩
def dd_Wide_init : DefD := ⟨("Wide", some "__init__"), "__init__", "Wide.__init__", defArgs (inClass (top 43) 0), defBody (inClass (top 43) 0), defScope (inClass (top 43) 0), [], []⟩
def dd_column : DefD := ⟨("column", none), "column", "column", defArgs (top 41), defBody (top 41), defScope (top 41), [], []⟩
def dd_squares_times : DefD := ⟨("squares_times", none), "squares_times", "squares_times", defArgs (top 42), defBody (top 42), defScope (top 42), [], []⟩
def dd_behind : DefD := ⟨("behind", none), "behind", "behind", defArgs (top 45), defBody (top 45), defScope (top 45), [], []⟩
def dd_minus : DefD := ⟨("minus", none), "minus", "minus", defArgs (top 27), defBody (top 27), defScope (top 27), [], []⟩
def dd_minor : DefD := ⟨("minor", none), "minor", "minor", defArgs (top 47), defBody (top 47), defScope (top 47), [], []⟩
def dd_determinant : DefD := ⟨("determinant", none), "determinant", "determinant", defArgs (top 46), defBody (top 46), defScope (top 46), [], []⟩
def dd_can_turn : DefD := ⟨("can_turn", none), "can_turn", "can_turn", defArgs (top 48), defBody (top 48), defScope (top 48), [], []⟩
def dd_difference : DefD := ⟨("difference", none), "difference", "difference", defArgs (top 58), defBody (top 58), defScope (top 58), [], []⟩
def dd_is_colour : DefD := ⟨("is_colour", none), "is_colour", "is_colour", defArgs (top 37), defBody (top 37), defScope (top 37), [], []⟩
def dd_is_lost_way : DefD := ⟨("is_lost_way", none), "is_lost_way", "is_lost_way", defArgs (top 52), defBody (top 52), defScope (top 52), [], []⟩
def dd_keeps_greys : DefD := ⟨("keeps_greys", none), "keeps_greys", "keeps_greys", defArgs (top 56), defBody (top 56), defScope (top 56), [], []⟩
def dd_across : DefD := ⟨("across", none), "across", "across", defArgs (top 51), defBody (top 51), defScope (top 51), [], []⟩
def dd_lost_way : DefD := ⟨("lost_way", none), "lost_way", "lost_way", defArgs (top 50), defBody (top 50), defScope (top 50), [], []⟩
def dd_same_for : DefD := ⟨("same_for", none), "same_for", "same_for", defArgs (top 55), defBody (top 55), defScope (top 55), [], []⟩
def dd_by : DefD := ⟨("by", none), "by", "by", defArgs (top 29), defBody (top 29), defScope (top 29), [], []⟩
def dd_turned : DefD := ⟨("turned", none), "turned", "turned", defArgs (top 49), defBody (top 49), defScope (top 49), [], []⟩
def dd_white_map : DefD := ⟨("white_map", none), "white_map", "white_map", defArgs (top 57), defBody (top 57), defScope (top 57), [], []⟩
def dd_wide : DefD := ⟨("wide", none), "wide", "wide", defArgs (top 44), defBody (top 44), defScope (top 44), [], []⟩
def dd_law : DefD := ⟨("law", none), "law", "law", defArgs (top 80), defBody (top 80), defScope (top 80), [], []⟩
def dd__law_told : DefD := ⟨("_law_told", none), "_law_told", "_law_told", defArgs (top 65), defBody (top 65), defScope (top 65), [], []⟩
def fn : List DefD := [dd__law_refusal, dd_is_row, dd_common, dd_is_whole, dd_is_fraction, dd_is_small, dd_is_line, dd_first_wrong, dd_place_told, dd_require_part, dd_Map_init, dd__law_alike, dd__law_gcd, dd__law_frac, dd__law_taken, dd__law_pick, dd__law_level, dd__law_small, dd__law_colour, dd__law_add, dd__law_mul, dd__law_sub, dd__law_det, dd__law_sum, dd__law_dot, dd__law_is_frac, dd__law_map, dd__law_same, dd__law_through, dd_fraction, dd_times, dd_plus, dd_total, dd_line_times, dd_require_colour, dd_mapped, dd_apart, dd_are_alike, dd_Wide_init, dd_column, dd_squares_times, dd_behind, dd_minus, dd_minor, dd_determinant, dd_can_turn, dd_difference, dd_is_colour, dd_is_lost_way, dd_keeps_greys, dd_across, dd_lost_way, dd_same_for, dd_by, dd_turned, dd_white_map, dd_wide, dd_law, dd__law_told]
def fa : List Fa := [.glo "_law_refusal", .glo "is_row", .glo "common", .glo "is_whole", .glo "is_fraction", .glo "is_small", .glo "is_line", .glo "first_wrong", .glo "place_told", .glo "require_part", .mkr "Map", .glo "_law_alike", .glo "_law_gcd", .glo "_law_frac", .glo "_law_taken", .glo "_law_pick", .glo "_law_level", .glo "_law_small", .glo "_law_colour", .glo "_law_add", .glo "_law_mul", .glo "_law_sub", .glo "_law_det", .glo "_law_sum", .glo "_law_dot", .glo "_law_is_frac", .glo "_law_map", .glo "_law_same", .glo "_law_through", .glo "fraction", .glo "times", .glo "plus", .glo "total", .glo "line_times", .glo "require_colour", .glo "mapped", .glo "apart", .glo "are_alike", .mkr "Wide", .glo "column", .glo "squares_times", .glo "behind", .glo "minus", .glo "minor", .glo "determinant", .glo "can_turn", .glo "difference", .glo "is_colour", .glo "is_lost_way", .glo "keeps_greys", .glo "across", .glo "lost_way", .glo "same_for", .glo "by", .glo "turned", .glo "white_map", .glo "wide", .glo "law", .glo "_law_told", .glo "Map", .glo "Wide", .free "int", .free "isinstance", .free "bool", .free "tuple", .free "len", .free "enumerate", .free "abs", .free "all", .free "zip", .free "range", .free "any", .free "list", .free "str", .free "repr", .free "ValueError", .free "super", .int "MOST" 10000, .int "SIZE" 3, .glo "BadPart", .glo "BadNumber", .glo "Unknown", .glo "BadPoint", .glo "BadBytes", .glo "BadGroup", .glo "BadPicture", .glo "BadChange", .glo "TooMany", .glo "BadText", .glo "BadLine", .glo "NotTurned", .glo "BadClaim", .glo "NothingDone", .glo "TintError", .exm "BadPart" "TintError" true, .exm "BadNumber" "TintError" true, .exm "Unknown" "TintError" true, .exm "BadPoint" "TintError" true, .exm "BadBytes" "TintError" true, .exm "BadGroup" "TintError" true, .exm "BadPicture" "TintError" true, .exm "BadChange" "TintError" true, .exm "TooMany" "TintError" true, .exm "BadText" "TintError" true, .exm "BadLine" "TintError" true, .exm "NotTurned" "TintError" true, .exm "BadClaim" "TintError" true, .exm "NothingDone" "TintError" true, .cls "Map", .noat "Map" "rows", .noat "Map" "added", .cls "Wide", .noat "Wide" "rows", .noat "Wide" "added", .noat "BadPart" "part", .noat "BadPart" "place", .noat "BadNumber" "value", .noat "Unknown" "name", .noat "BadPoint" "place", .noat "BadBytes" "place", .noat "BadGroup" "place", .noat "BadPicture" "place", .noat "BadChange" "place", .noat "TooMany" "limit", .noat "BadText" "line", .noat "BadLine" "line"]
def xd_BadPart : XD := ⟨"BadPart", "BadPart.__init__", defArgs (inClass (top 2) 0), defBody (inClass (top 2) 0), defScope (inClass (top 2) 0)⟩
def xd_BadNumber : XD := ⟨"BadNumber", "BadNumber.__init__", defArgs (inClass (top 3) 0), defBody (inClass (top 3) 0), defScope (inClass (top 3) 0)⟩
def xd_Unknown : XD := ⟨"Unknown", "Unknown.__init__", defArgs (inClass (top 4) 0), defBody (inClass (top 4) 0), defScope (inClass (top 4) 0)⟩
def xd_BadPoint : XD := ⟨"BadPoint", "BadPoint.__init__", defArgs (inClass (top 5) 0), defBody (inClass (top 5) 0), defScope (inClass (top 5) 0)⟩
def xd_BadBytes : XD := ⟨"BadBytes", "BadBytes.__init__", defArgs (inClass (top 6) 0), defBody (inClass (top 6) 0), defScope (inClass (top 6) 0)⟩
def xd_BadGroup : XD := ⟨"BadGroup", "BadGroup.__init__", defArgs (inClass (top 7) 0), defBody (inClass (top 7) 0), defScope (inClass (top 7) 0)⟩
def xd_BadPicture : XD := ⟨"BadPicture", "BadPicture.__init__", defArgs (inClass (top 8) 0), defBody (inClass (top 8) 0), defScope (inClass (top 8) 0)⟩
def xd_BadChange : XD := ⟨"BadChange", "BadChange.__init__", defArgs (inClass (top 9) 0), defBody (inClass (top 9) 0), defScope (inClass (top 9) 0)⟩
def xd_TooMany : XD := ⟨"TooMany", "TooMany.__init__", defArgs (inClass (top 10) 0), defBody (inClass (top 10) 0), defScope (inClass (top 10) 0)⟩
def xd_BadText : XD := ⟨"BadText", "BadText.__init__", defArgs (inClass (top 11) 0), defBody (inClass (top 11) 0), defScope (inClass (top 11) 0)⟩
def xd_BadLine : XD := ⟨"BadLine", "BadLine.__init__", defArgs (inClass (top 12) 0), defBody (inClass (top 12) 0), defScope (inClass (top 12) 0)⟩
def xd_NotTurned : XD := ⟨"NotTurned", "NotTurned.__init__", defArgs (inClass (top 13) 0), defBody (inClass (top 13) 0), defScope (inClass (top 13) 0)⟩
def xd_BadClaim : XD := ⟨"BadClaim", "BadClaim.__init__", defArgs (inClass (top 14) 0), defBody (inClass (top 14) 0), defScope (inClass (top 14) 0)⟩
def xd_NothingDone : XD := ⟨"NothingDone", "NothingDone.__init__", defArgs (inClass (top 15) 0), defBody (inClass (top 15) 0), defScope (inClass (top 15) 0)⟩
def fx : List XD := [xd_BadPart, xd_BadNumber, xd_Unknown, xd_BadPoint, xd_BadBytes, xd_BadGroup, xd_BadPicture, xd_BadChange, xd_TooMany, xd_BadText, xd_BadLine, xd_NotTurned, xd_BadClaim, xd_NothingDone]
def tf : List Defn := [("law", none), ("Map", some "__init__")]
def file : Str := PySem.Challenge.pw_tintbridge_k05_whole_maps.main.file
def exA (K : PySem.W.Frag) : Bool := decide ((cs.map (tb K).cls).Nodup) && (kitB K (cs.map (tb K).cls) && cs.all fun c => insB K ((tb K).cls c))
def exB (K : PySem.W.Frag) : Bool := fx.all fun d => xB file K (ga K d.cls) (ma K (ga K d.cls) "__init__")
def exC (K : PySem.W.Frag) : Bool := decide ((es.map (tb K).cls).Nodup) && xAll K (es.map (tb K).cls)
def exD (K : PySem.W.Frag) : Bool := decide ((tf.map fun p => (cT K p).2).Nodup)
def exK (K : PySem.W.Frag) : Bool := exA K && (exB K && (exC K && exD K))
abbrev hk : PySem.W.Hook := hookZ 7 fa fn [] tf exK fx
def ob (s : PySem.W.SharedT) : AlY := obsZ 7 fa fn [] tf exK fx (HandSHeadRun.getT s)
theorem ob_eq (s : PySem.W.SharedT) : ob s = hk.obs s.abs := obsZ_eq (HandSHeadRun.getT_eq s)
abbrev R : PySem.W.OpenRow := PySem.W.OpenLaw.row PySem.Challenge.rw_tintbridge_k05_whole_maps
def names0 : List Str := ["TintError", "BadPart", "BadNumber", "Unknown", "BadPoint", "BadBytes", "BadGroup", "BadPicture", "BadChange", "TooMany", "BadText", "BadLine", "NotTurned", "BadClaim", "NothingDone", "is_whole", "is_row", "first_wrong", "common", "place_told", "require_part", "fraction", "is_fraction", "plus"]
def names1 : List Str := ["minus", "times", "by", "total", "SIZE", "MOST", "is_small", "is_line", "Map", "is_colour", "require_colour", "line_times", "mapped", "column", "squares_times", "Wide", "wide", "behind", "determinant", "minor", "can_turn", "turned", "lost_way", "across"]
def names2 : List Str := ["is_lost_way", "are_alike", "apart", "same_for", "keeps_greys", "white_map", "difference", "_law_taken", "_law_pick", "_law_alike", "_law_same", "_law_refusal", "_law_told", "_law_gcd", "_law_frac", "_law_add", "_law_sub", "_law_mul", "_law_sum", "_law_is_frac", "_law_level", "_law_small", "_law_map", "_law_dot"]
def names3 : List Str := ["_law_through", "_law_det", "_law_colour"]
def names : List Str := names0 ++ names1 ++ names2 ++ names3
theorem runA (w : World) : RunA R (PySem.W.view R.prog [80]) 30000 names w := by
  intro os
  kernel_rfl
theorem runB (w : World) : RunB R hk ob 30000 w := by
  intro os
  kernel_rfl
theorem run (w : World) : HandSHeadRun.RunEq R (PySem.W.view R.prog [80]) hk ob 30000 names w := run_two (runA w) (runB w)
theorem xo_BadPart {K : PySem.W.Frag} {mg : Str → Option Value} {h : Heap} {w : World} (X : K.In h) (G : h.Ns mainGlobals mg) (c : SaysY fa fn [] tf exK fx w h K) : Exc (PySem.Challenge.rw_tintbridge_k05_whole_maps).prog K mg (tb K) 2 "BadPart" ["part", "place"] := by
  have cd := c.x.t.d
  have ex := (ba (ba c.x.more).2).1
  refine exc_of (T := tb K) (c := 2) (d := xd_BadPart) (fs := ["part", "place"]) (file := file) (c.y_at 0) (List.all_eq_true.mp ex xd_BadPart (by simp [fx])) rfl rfl (He.glo_ok X G (cd.fact 79 (f := .glo "BadPart") rfl)) (He.free_ok X G (cd.fact 76 (f := .free "super") rfl)) rfl (by decide +kernel) rfl (fun env => ⟨_, rfl⟩) (.cons (.cons .nil)) (by decide) (by decide) rfl ⟨rfl, rfl, rfl, rfl, rfl, by decide +kernel, rfl⟩ (by decide +kernel) ?_ (fun _ _ _ _ _ _ _ us hl => match us, hl with | [_, _, _], _ => rfl)
  intro y hy
  have hy : y = "part" ∨ y = "place" := by simpa using hy
  rcases hy with rfl | rfl
  · exact noat_ok (cd.fact 114 (f := .noat "BadPart" "part") rfl)
  · exact noat_ok (cd.fact 115 (f := .noat "BadPart" "place") rfl)
theorem xo_BadNumber {K : PySem.W.Frag} {mg : Str → Option Value} {h : Heap} {w : World} (X : K.In h) (G : h.Ns mainGlobals mg) (c : SaysY fa fn [] tf exK fx w h K) : Exc (PySem.Challenge.rw_tintbridge_k05_whole_maps).prog K mg (tb K) 3 "BadNumber" ["value"] := by
  have cd := c.x.t.d
  have ex := (ba (ba c.x.more).2).1
  refine exc_of (T := tb K) (c := 3) (d := xd_BadNumber) (fs := ["value"]) (file := file) (c.y_at 1) (List.all_eq_true.mp ex xd_BadNumber (by simp [fx])) rfl rfl (He.glo_ok X G (cd.fact 80 (f := .glo "BadNumber") rfl)) (He.free_ok X G (cd.fact 76 (f := .free "super") rfl)) rfl (by decide +kernel) rfl (fun env => ⟨_, rfl⟩) (.cons .nil) (by decide) (by decide) rfl ⟨rfl, rfl, rfl, rfl, rfl, by decide +kernel, rfl⟩ (by decide +kernel) ?_ (fun _ _ _ _ _ _ _ us hl => match us, hl with | [_, _], _ => rfl)
  intro y hy
  have hy : y = "value" := by simpa using hy
  subst hy
  · exact noat_ok (cd.fact 116 (f := .noat "BadNumber" "value") rfl)
theorem xo_Unknown {K : PySem.W.Frag} {mg : Str → Option Value} {h : Heap} {w : World} (X : K.In h) (G : h.Ns mainGlobals mg) (c : SaysY fa fn [] tf exK fx w h K) : Exc (PySem.Challenge.rw_tintbridge_k05_whole_maps).prog K mg (tb K) 4 "Unknown" ["name"] := by
  have cd := c.x.t.d
  have ex := (ba (ba c.x.more).2).1
  refine exc_of (T := tb K) (c := 4) (d := xd_Unknown) (fs := ["name"]) (file := file) (c.y_at 2) (List.all_eq_true.mp ex xd_Unknown (by simp [fx])) rfl rfl (He.glo_ok X G (cd.fact 81 (f := .glo "Unknown") rfl)) (He.free_ok X G (cd.fact 76 (f := .free "super") rfl)) rfl (by decide +kernel) rfl (fun env => ⟨_, rfl⟩) (.cons .nil) (by decide) (by decide) rfl ⟨rfl, rfl, rfl, rfl, rfl, by decide +kernel, rfl⟩ (by decide +kernel) ?_ (fun _ _ _ _ _ _ _ us hl => match us, hl with | [_, _], _ => rfl)
  intro y hy
  have hy : y = "name" := by simpa using hy
  subst hy
  · exact noat_ok (cd.fact 117 (f := .noat "Unknown" "name") rfl)
theorem xo_BadPoint {K : PySem.W.Frag} {mg : Str → Option Value} {h : Heap} {w : World} (X : K.In h) (G : h.Ns mainGlobals mg) (c : SaysY fa fn [] tf exK fx w h K) : Exc (PySem.Challenge.rw_tintbridge_k05_whole_maps).prog K mg (tb K) 5 "BadPoint" ["place"] := by
  have cd := c.x.t.d
  have ex := (ba (ba c.x.more).2).1
  refine exc_of (T := tb K) (c := 5) (d := xd_BadPoint) (fs := ["place"]) (file := file) (c.y_at 3) (List.all_eq_true.mp ex xd_BadPoint (by simp [fx])) rfl rfl (He.glo_ok X G (cd.fact 82 (f := .glo "BadPoint") rfl)) (He.free_ok X G (cd.fact 76 (f := .free "super") rfl)) rfl (by decide +kernel) rfl (fun env => ⟨_, rfl⟩) (.cons .nil) (by decide) (by decide) rfl ⟨rfl, rfl, rfl, rfl, rfl, by decide +kernel, rfl⟩ (by decide +kernel) ?_ (fun _ _ _ _ _ _ _ us hl => match us, hl with | [_, _], _ => rfl)
  intro y hy
  have hy : y = "place" := by simpa using hy
  subst hy
  · exact noat_ok (cd.fact 118 (f := .noat "BadPoint" "place") rfl)
theorem xo_BadBytes {K : PySem.W.Frag} {mg : Str → Option Value} {h : Heap} {w : World} (X : K.In h) (G : h.Ns mainGlobals mg) (c : SaysY fa fn [] tf exK fx w h K) : Exc (PySem.Challenge.rw_tintbridge_k05_whole_maps).prog K mg (tb K) 6 "BadBytes" ["place"] := by
  have cd := c.x.t.d
  have ex := (ba (ba c.x.more).2).1
  refine exc_of (T := tb K) (c := 6) (d := xd_BadBytes) (fs := ["place"]) (file := file) (c.y_at 4) (List.all_eq_true.mp ex xd_BadBytes (by simp [fx])) rfl rfl (He.glo_ok X G (cd.fact 83 (f := .glo "BadBytes") rfl)) (He.free_ok X G (cd.fact 76 (f := .free "super") rfl)) rfl (by decide +kernel) rfl (fun env => ⟨_, rfl⟩) (.cons .nil) (by decide) (by decide) rfl ⟨rfl, rfl, rfl, rfl, rfl, by decide +kernel, rfl⟩ (by decide +kernel) ?_ (fun _ _ _ _ _ _ _ us hl => match us, hl with | [_, _], _ => rfl)
  intro y hy
  have hy : y = "place" := by simpa using hy
  subst hy
  · exact noat_ok (cd.fact 119 (f := .noat "BadBytes" "place") rfl)
theorem xo_BadGroup {K : PySem.W.Frag} {mg : Str → Option Value} {h : Heap} {w : World} (X : K.In h) (G : h.Ns mainGlobals mg) (c : SaysY fa fn [] tf exK fx w h K) : Exc (PySem.Challenge.rw_tintbridge_k05_whole_maps).prog K mg (tb K) 7 "BadGroup" ["place"] := by
  have cd := c.x.t.d
  have ex := (ba (ba c.x.more).2).1
  refine exc_of (T := tb K) (c := 7) (d := xd_BadGroup) (fs := ["place"]) (file := file) (c.y_at 5) (List.all_eq_true.mp ex xd_BadGroup (by simp [fx])) rfl rfl (He.glo_ok X G (cd.fact 84 (f := .glo "BadGroup") rfl)) (He.free_ok X G (cd.fact 76 (f := .free "super") rfl)) rfl (by decide +kernel) rfl (fun env => ⟨_, rfl⟩) (.cons .nil) (by decide) (by decide) rfl ⟨rfl, rfl, rfl, rfl, rfl, by decide +kernel, rfl⟩ (by decide +kernel) ?_ (fun _ _ _ _ _ _ _ us hl => match us, hl with | [_, _], _ => rfl)
  intro y hy
  have hy : y = "place" := by simpa using hy
  subst hy
  · exact noat_ok (cd.fact 120 (f := .noat "BadGroup" "place") rfl)
theorem xo_BadPicture {K : PySem.W.Frag} {mg : Str → Option Value} {h : Heap} {w : World} (X : K.In h) (G : h.Ns mainGlobals mg) (c : SaysY fa fn [] tf exK fx w h K) : Exc (PySem.Challenge.rw_tintbridge_k05_whole_maps).prog K mg (tb K) 8 "BadPicture" ["place"] := by
  have cd := c.x.t.d
  have ex := (ba (ba c.x.more).2).1
  refine exc_of (T := tb K) (c := 8) (d := xd_BadPicture) (fs := ["place"]) (file := file) (c.y_at 6) (List.all_eq_true.mp ex xd_BadPicture (by simp [fx])) rfl rfl (He.glo_ok X G (cd.fact 85 (f := .glo "BadPicture") rfl)) (He.free_ok X G (cd.fact 76 (f := .free "super") rfl)) rfl (by decide +kernel) rfl (fun env => ⟨_, rfl⟩) (.cons .nil) (by decide) (by decide) rfl ⟨rfl, rfl, rfl, rfl, rfl, by decide +kernel, rfl⟩ (by decide +kernel) ?_ (fun _ _ _ _ _ _ _ us hl => match us, hl with | [_, _], _ => rfl)
  intro y hy
  have hy : y = "place" := by simpa using hy
  subst hy
  · exact noat_ok (cd.fact 121 (f := .noat "BadPicture" "place") rfl)
theorem xo_BadChange {K : PySem.W.Frag} {mg : Str → Option Value} {h : Heap} {w : World} (X : K.In h) (G : h.Ns mainGlobals mg) (c : SaysY fa fn [] tf exK fx w h K) : Exc (PySem.Challenge.rw_tintbridge_k05_whole_maps).prog K mg (tb K) 9 "BadChange" ["place"] := by
  have cd := c.x.t.d
  have ex := (ba (ba c.x.more).2).1
  refine exc_of (T := tb K) (c := 9) (d := xd_BadChange) (fs := ["place"]) (file := file) (c.y_at 7) (List.all_eq_true.mp ex xd_BadChange (by simp [fx])) rfl rfl (He.glo_ok X G (cd.fact 86 (f := .glo "BadChange") rfl)) (He.free_ok X G (cd.fact 76 (f := .free "super") rfl)) rfl (by decide +kernel) rfl (fun env => ⟨_, rfl⟩) (.cons .nil) (by decide) (by decide) rfl ⟨rfl, rfl, rfl, rfl, rfl, by decide +kernel, rfl⟩ (by decide +kernel) ?_ (fun _ _ _ _ _ _ _ us hl => match us, hl with | [_, _], _ => rfl)
  intro y hy
  have hy : y = "place" := by simpa using hy
  subst hy
  · exact noat_ok (cd.fact 122 (f := .noat "BadChange" "place") rfl)
theorem xo_TooMany {K : PySem.W.Frag} {mg : Str → Option Value} {h : Heap} {w : World} (X : K.In h) (G : h.Ns mainGlobals mg) (c : SaysY fa fn [] tf exK fx w h K) : Exc (PySem.Challenge.rw_tintbridge_k05_whole_maps).prog K mg (tb K) 10 "TooMany" ["limit"] := by
  have cd := c.x.t.d
  have ex := (ba (ba c.x.more).2).1
  refine exc_of (T := tb K) (c := 10) (d := xd_TooMany) (fs := ["limit"]) (file := file) (c.y_at 8) (List.all_eq_true.mp ex xd_TooMany (by simp [fx])) rfl rfl (He.glo_ok X G (cd.fact 87 (f := .glo "TooMany") rfl)) (He.free_ok X G (cd.fact 76 (f := .free "super") rfl)) rfl (by decide +kernel) rfl (fun env => ⟨_, rfl⟩) (.cons .nil) (by decide) (by decide) rfl ⟨rfl, rfl, rfl, rfl, rfl, by decide +kernel, rfl⟩ (by decide +kernel) ?_ (fun _ _ _ _ _ _ _ us hl => match us, hl with | [_, _], _ => rfl)
  intro y hy
  have hy : y = "limit" := by simpa using hy
  subst hy
  · exact noat_ok (cd.fact 123 (f := .noat "TooMany" "limit") rfl)
theorem xo_BadText {K : PySem.W.Frag} {mg : Str → Option Value} {h : Heap} {w : World} (X : K.In h) (G : h.Ns mainGlobals mg) (c : SaysY fa fn [] tf exK fx w h K) : Exc (PySem.Challenge.rw_tintbridge_k05_whole_maps).prog K mg (tb K) 11 "BadText" ["line"] := by
  have cd := c.x.t.d
  have ex := (ba (ba c.x.more).2).1
  refine exc_of (T := tb K) (c := 11) (d := xd_BadText) (fs := ["line"]) (file := file) (c.y_at 9) (List.all_eq_true.mp ex xd_BadText (by simp [fx])) rfl rfl (He.glo_ok X G (cd.fact 88 (f := .glo "BadText") rfl)) (He.free_ok X G (cd.fact 76 (f := .free "super") rfl)) rfl (by decide +kernel) rfl (fun env => ⟨_, rfl⟩) (.cons .nil) (by decide) (by decide) rfl ⟨rfl, rfl, rfl, rfl, rfl, by decide +kernel, rfl⟩ (by decide +kernel) ?_ (fun _ _ _ _ _ _ _ us hl => match us, hl with | [_, _], _ => rfl)
  intro y hy
  have hy : y = "line" := by simpa using hy
  subst hy
  · exact noat_ok (cd.fact 124 (f := .noat "BadText" "line") rfl)
theorem xo_BadLine {K : PySem.W.Frag} {mg : Str → Option Value} {h : Heap} {w : World} (X : K.In h) (G : h.Ns mainGlobals mg) (c : SaysY fa fn [] tf exK fx w h K) : Exc (PySem.Challenge.rw_tintbridge_k05_whole_maps).prog K mg (tb K) 12 "BadLine" ["line"] := by
  have cd := c.x.t.d
  have ex := (ba (ba c.x.more).2).1
  refine exc_of (T := tb K) (c := 12) (d := xd_BadLine) (fs := ["line"]) (file := file) (c.y_at 10) (List.all_eq_true.mp ex xd_BadLine (by simp [fx])) rfl rfl (He.glo_ok X G (cd.fact 89 (f := .glo "BadLine") rfl)) (He.free_ok X G (cd.fact 76 (f := .free "super") rfl)) rfl (by decide +kernel) rfl (fun env => ⟨_, rfl⟩) (.cons .nil) (by decide) (by decide) rfl ⟨rfl, rfl, rfl, rfl, rfl, by decide +kernel, rfl⟩ (by decide +kernel) ?_ (fun _ _ _ _ _ _ _ us hl => match us, hl with | [_, _], _ => rfl)
  intro y hy
  have hy : y = "line" := by simpa using hy
  subst hy
  · exact noat_ok (cd.fact 125 (f := .noat "BadLine" "line") rfl)
theorem xo_NotTurned {K : PySem.W.Frag} {mg : Str → Option Value} {h : Heap} {w : World} (X : K.In h) (G : h.Ns mainGlobals mg) (c : SaysY fa fn [] tf exK fx w h K) : Exc (PySem.Challenge.rw_tintbridge_k05_whole_maps).prog K mg (tb K) 13 "NotTurned" [] := by
  have cd := c.x.t.d
  have ex := (ba (ba c.x.more).2).1
  refine exc_of (T := tb K) (c := 13) (d := xd_NotTurned) (fs := []) (file := file) (c.y_at 11) (List.all_eq_true.mp ex xd_NotTurned (by simp [fx])) rfl rfl (He.glo_ok X G (cd.fact 90 (f := .glo "NotTurned") rfl)) (He.free_ok X G (cd.fact 76 (f := .free "super") rfl)) rfl (by decide +kernel) rfl (fun env => ⟨_, rfl⟩) .nil (by decide) (by decide) rfl ⟨rfl, rfl, rfl, rfl, rfl, by decide +kernel, rfl⟩ (by decide +kernel) ?_ (fun _ _ _ _ _ _ _ us hl => match us, hl with | [_], _ => rfl)
  intro y hy
  cases hy
theorem xo_BadClaim {K : PySem.W.Frag} {mg : Str → Option Value} {h : Heap} {w : World} (X : K.In h) (G : h.Ns mainGlobals mg) (c : SaysY fa fn [] tf exK fx w h K) : Exc (PySem.Challenge.rw_tintbridge_k05_whole_maps).prog K mg (tb K) 14 "BadClaim" [] := by
  have cd := c.x.t.d
  have ex := (ba (ba c.x.more).2).1
  refine exc_of (T := tb K) (c := 14) (d := xd_BadClaim) (fs := []) (file := file) (c.y_at 12) (List.all_eq_true.mp ex xd_BadClaim (by simp [fx])) rfl rfl (He.glo_ok X G (cd.fact 91 (f := .glo "BadClaim") rfl)) (He.free_ok X G (cd.fact 76 (f := .free "super") rfl)) rfl (by decide +kernel) rfl (fun env => ⟨_, rfl⟩) .nil (by decide) (by decide) rfl ⟨rfl, rfl, rfl, rfl, rfl, by decide +kernel, rfl⟩ (by decide +kernel) ?_ (fun _ _ _ _ _ _ _ us hl => match us, hl with | [_], _ => rfl)
  intro y hy
  cases hy
theorem xo_NothingDone {K : PySem.W.Frag} {mg : Str → Option Value} {h : Heap} {w : World} (X : K.In h) (G : h.Ns mainGlobals mg) (c : SaysY fa fn [] tf exK fx w h K) : Exc (PySem.Challenge.rw_tintbridge_k05_whole_maps).prog K mg (tb K) 15 "NothingDone" [] := by
  have cd := c.x.t.d
  have ex := (ba (ba c.x.more).2).1
  refine exc_of (T := tb K) (c := 15) (d := xd_NothingDone) (fs := []) (file := file) (c.y_at 13) (List.all_eq_true.mp ex xd_NothingDone (by simp [fx])) rfl rfl (He.glo_ok X G (cd.fact 92 (f := .glo "NothingDone") rfl)) (He.free_ok X G (cd.fact 76 (f := .free "super") rfl)) rfl (by decide +kernel) rfl (fun env => ⟨_, rfl⟩) .nil (by decide) (by decide) rfl ⟨rfl, rfl, rfl, rfl, rfl, by decide +kernel, rfl⟩ (by decide +kernel) ?_ (fun _ _ _ _ _ _ _ us hl => match us, hl with | [_], _ => rfl)
  intro y hy
  cases hy
theorem cn_of {K : PySem.W.Frag} {h : Heap} {mg : Str → Option Value} {w : World} {base : Heap} (X : K.In h) (G : h.Ns mainGlobals mg) (c : SaysY fa fn [] tf exK fx w h K) (TB : ∀ p ∈ tf, LamX.TabB base mg (cT K p).1 (cT K p).2) : Cn (PySem.Challenge.rw_tintbridge_k05_whole_maps).prog w K mg base := by
  have cd := c.x.t.d
  have ex := (ba c.x.more).1
  have exc := (ba (ba (ba c.x.more).2).2).1
  obtain ⟨e1, e2⟩ := Bool.and_eq_true_iff.mp ex
  obtain ⟨e2, e3⟩ := Bool.and_eq_true_iff.mp e2
  have nd := of_decide_eq_true e1
  obtain ⟨f1, f2⟩ := ba exc
  have ndx := of_decide_eq_true f1
  refine {
    d__law_refusal := cd.def_ 0 (d := dd__law_refusal) rfl
    d_is_row := cd.def_ 1 (d := dd_is_row) rfl
    d_common := cd.def_ 2 (d := dd_common) rfl
    d_is_whole := cd.def_ 3 (d := dd_is_whole) rfl
    d_is_fraction := cd.def_ 4 (d := dd_is_fraction) rfl
    d_is_small := cd.def_ 5 (d := dd_is_small) rfl
    d_is_line := cd.def_ 6 (d := dd_is_line) rfl
    d_first_wrong := cd.def_ 7 (d := dd_first_wrong) rfl
    d_place_told := cd.def_ 8 (d := dd_place_told) rfl
    d_require_part := cd.def_ 9 (d := dd_require_part) rfl
    d_Map_init := cd.def_ 10 (d := dd_Map_init) rfl
    d__law_alike := cd.def_ 11 (d := dd__law_alike) rfl
    d__law_gcd := cd.def_ 12 (d := dd__law_gcd) rfl
    d__law_frac := cd.def_ 13 (d := dd__law_frac) rfl
    d__law_taken := cd.def_ 14 (d := dd__law_taken) rfl
    d__law_pick := cd.def_ 15 (d := dd__law_pick) rfl
    d__law_level := cd.def_ 16 (d := dd__law_level) rfl
    d__law_small := cd.def_ 17 (d := dd__law_small) rfl
    d__law_colour := cd.def_ 18 (d := dd__law_colour) rfl
    d__law_add := cd.def_ 19 (d := dd__law_add) rfl
    d__law_mul := cd.def_ 20 (d := dd__law_mul) rfl
    d__law_sub := cd.def_ 21 (d := dd__law_sub) rfl
    d__law_det := cd.def_ 22 (d := dd__law_det) rfl
    d__law_sum := cd.def_ 23 (d := dd__law_sum) rfl
    d__law_dot := cd.def_ 24 (d := dd__law_dot) rfl
    d__law_is_frac := cd.def_ 25 (d := dd__law_is_frac) rfl
    d__law_map := cd.def_ 26 (d := dd__law_map) rfl
    d__law_same := cd.def_ 27 (d := dd__law_same) rfl
    d__law_through := cd.def_ 28 (d := dd__law_through) rfl
    d_fraction := cd.def_ 29 (d := dd_fraction) rfl
    d_times := cd.def_ 30 (d := dd_times) rfl
    d_plus := cd.def_ 31 (d := dd_plus) rfl
    d_total := cd.def_ 32 (d := dd_total) rfl
    d_line_times := cd.def_ 33 (d := dd_line_times) rfl
    d_require_colour := cd.def_ 34 (d := dd_require_colour) rfl
    d_mapped := cd.def_ 35 (d := dd_mapped) rfl
    d_apart := cd.def_ 36 (d := dd_apart) rfl
    d_are_alike := cd.def_ 37 (d := dd_are_alike) rfl
    d_Wide_init := cd.def_ 38 (d := dd_Wide_init) rfl
    d_column := cd.def_ 39 (d := dd_column) rfl
    d_squares_times := cd.def_ 40 (d := dd_squares_times) rfl
    d_behind := cd.def_ 41 (d := dd_behind) rfl
    d_minus := cd.def_ 42 (d := dd_minus) rfl
    d_minor := cd.def_ 43 (d := dd_minor) rfl
    d_determinant := cd.def_ 44 (d := dd_determinant) rfl
    d_can_turn := cd.def_ 45 (d := dd_can_turn) rfl
    d_difference := cd.def_ 46 (d := dd_difference) rfl
    d_is_colour := cd.def_ 47 (d := dd_is_colour) rfl
    d_is_lost_way := cd.def_ 48 (d := dd_is_lost_way) rfl
    d_keeps_greys := cd.def_ 49 (d := dd_keeps_greys) rfl
    d_across := cd.def_ 50 (d := dd_across) rfl
    d_lost_way := cd.def_ 51 (d := dd_lost_way) rfl
    d_same_for := cd.def_ 52 (d := dd_same_for) rfl
    d_by := cd.def_ 53 (d := dd_by) rfl
    d_turned := cd.def_ 54 (d := dd_turned) rfl
    d_white_map := cd.def_ 55 (d := dd_white_map) rfl
    d_wide := cd.def_ 56 (d := dd_wide) rfl
    d_law := cd.def_ 57 (d := dd_law) rfl
    d__law_told := cd.def_ 58 (d := dd__law_told) rfl
    g__law_refusal := He.glo_ok X G (cd.fact 0 (f := .glo "_law_refusal") rfl)
    g_is_row := He.glo_ok X G (cd.fact 1 (f := .glo "is_row") rfl)
    g_common := He.glo_ok X G (cd.fact 2 (f := .glo "common") rfl)
    g_is_whole := He.glo_ok X G (cd.fact 3 (f := .glo "is_whole") rfl)
    g_is_fraction := He.glo_ok X G (cd.fact 4 (f := .glo "is_fraction") rfl)
    g_is_small := He.glo_ok X G (cd.fact 5 (f := .glo "is_small") rfl)
    g_is_line := He.glo_ok X G (cd.fact 6 (f := .glo "is_line") rfl)
    g_first_wrong := He.glo_ok X G (cd.fact 7 (f := .glo "first_wrong") rfl)
    g_place_told := He.glo_ok X G (cd.fact 8 (f := .glo "place_told") rfl)
    g_require_part := He.glo_ok X G (cd.fact 9 (f := .glo "require_part") rfl)
    m_Map_init := He.mkr_ok (cd.fact 10 (f := .mkr "Map") rfl)
    g__law_alike := He.glo_ok X G (cd.fact 11 (f := .glo "_law_alike") rfl)
    g__law_gcd := He.glo_ok X G (cd.fact 12 (f := .glo "_law_gcd") rfl)
    g__law_frac := He.glo_ok X G (cd.fact 13 (f := .glo "_law_frac") rfl)
    g__law_taken := He.glo_ok X G (cd.fact 14 (f := .glo "_law_taken") rfl)
    g__law_pick := He.glo_ok X G (cd.fact 15 (f := .glo "_law_pick") rfl)
    g__law_level := He.glo_ok X G (cd.fact 16 (f := .glo "_law_level") rfl)
    g__law_small := He.glo_ok X G (cd.fact 17 (f := .glo "_law_small") rfl)
    g__law_colour := He.glo_ok X G (cd.fact 18 (f := .glo "_law_colour") rfl)
    g__law_add := He.glo_ok X G (cd.fact 19 (f := .glo "_law_add") rfl)
    g__law_mul := He.glo_ok X G (cd.fact 20 (f := .glo "_law_mul") rfl)
    g__law_sub := He.glo_ok X G (cd.fact 21 (f := .glo "_law_sub") rfl)
    g__law_det := He.glo_ok X G (cd.fact 22 (f := .glo "_law_det") rfl)
    g__law_sum := He.glo_ok X G (cd.fact 23 (f := .glo "_law_sum") rfl)
    g__law_dot := He.glo_ok X G (cd.fact 24 (f := .glo "_law_dot") rfl)
    g__law_is_frac := He.glo_ok X G (cd.fact 25 (f := .glo "_law_is_frac") rfl)
    g__law_map := He.glo_ok X G (cd.fact 26 (f := .glo "_law_map") rfl)
    g__law_same := He.glo_ok X G (cd.fact 27 (f := .glo "_law_same") rfl)
    g__law_through := He.glo_ok X G (cd.fact 28 (f := .glo "_law_through") rfl)
    g_fraction := He.glo_ok X G (cd.fact 29 (f := .glo "fraction") rfl)
    g_times := He.glo_ok X G (cd.fact 30 (f := .glo "times") rfl)
    g_plus := He.glo_ok X G (cd.fact 31 (f := .glo "plus") rfl)
    g_total := He.glo_ok X G (cd.fact 32 (f := .glo "total") rfl)
    g_line_times := He.glo_ok X G (cd.fact 33 (f := .glo "line_times") rfl)
    g_require_colour := He.glo_ok X G (cd.fact 34 (f := .glo "require_colour") rfl)
    g_mapped := He.glo_ok X G (cd.fact 35 (f := .glo "mapped") rfl)
    g_apart := He.glo_ok X G (cd.fact 36 (f := .glo "apart") rfl)
    g_are_alike := He.glo_ok X G (cd.fact 37 (f := .glo "are_alike") rfl)
    m_Wide_init := He.mkr_ok (cd.fact 38 (f := .mkr "Wide") rfl)
    g_column := He.glo_ok X G (cd.fact 39 (f := .glo "column") rfl)
    g_squares_times := He.glo_ok X G (cd.fact 40 (f := .glo "squares_times") rfl)
    g_behind := He.glo_ok X G (cd.fact 41 (f := .glo "behind") rfl)
    g_minus := He.glo_ok X G (cd.fact 42 (f := .glo "minus") rfl)
    g_minor := He.glo_ok X G (cd.fact 43 (f := .glo "minor") rfl)
    g_determinant := He.glo_ok X G (cd.fact 44 (f := .glo "determinant") rfl)
    g_can_turn := He.glo_ok X G (cd.fact 45 (f := .glo "can_turn") rfl)
    g_difference := He.glo_ok X G (cd.fact 46 (f := .glo "difference") rfl)
    g_is_colour := He.glo_ok X G (cd.fact 47 (f := .glo "is_colour") rfl)
    g_is_lost_way := He.glo_ok X G (cd.fact 48 (f := .glo "is_lost_way") rfl)
    g_keeps_greys := He.glo_ok X G (cd.fact 49 (f := .glo "keeps_greys") rfl)
    g_across := He.glo_ok X G (cd.fact 50 (f := .glo "across") rfl)
    g_lost_way := He.glo_ok X G (cd.fact 51 (f := .glo "lost_way") rfl)
    g_same_for := He.glo_ok X G (cd.fact 52 (f := .glo "same_for") rfl)
    g_by := He.glo_ok X G (cd.fact 53 (f := .glo "by") rfl)
    g_turned := He.glo_ok X G (cd.fact 54 (f := .glo "turned") rfl)
    g_white_map := He.glo_ok X G (cd.fact 55 (f := .glo "white_map") rfl)
    g_wide := He.glo_ok X G (cd.fact 56 (f := .glo "wide") rfl)
    g_law := He.glo_ok X G (cd.fact 57 (f := .glo "law") rfl)
    g__law_told := He.glo_ok X G (cd.fact 58 (f := .glo "_law_told") rfl)
    c_Map := He.glo_ok X G (cd.fact 59 (f := .glo "Map") rfl)
    c_Wide := He.glo_ok X G (cd.fact 60 (f := .glo "Wide") rfl)
    n_int := He.free_ok X G (cd.fact 61 (f := .free "int") rfl)
    n_isinstance := He.free_ok X G (cd.fact 62 (f := .free "isinstance") rfl)
    n_bool := He.free_ok X G (cd.fact 63 (f := .free "bool") rfl)
    n_tuple := He.free_ok X G (cd.fact 64 (f := .free "tuple") rfl)
    n_len := He.free_ok X G (cd.fact 65 (f := .free "len") rfl)
    n_enumerate := He.free_ok X G (cd.fact 66 (f := .free "enumerate") rfl)
    n_abs := He.free_ok X G (cd.fact 67 (f := .free "abs") rfl)
    n_all := He.free_ok X G (cd.fact 68 (f := .free "all") rfl)
    n_zip := He.free_ok X G (cd.fact 69 (f := .free "zip") rfl)
    n_range := He.free_ok X G (cd.fact 70 (f := .free "range") rfl)
    n_any := He.free_ok X G (cd.fact 71 (f := .free "any") rfl)
    n_list := He.free_ok X G (cd.fact 72 (f := .free "list") rfl)
    n_str := He.free_ok X G (cd.fact 73 (f := .free "str") rfl)
    n_repr := He.free_ok X G (cd.fact 74 (f := .free "repr") rfl)
    n_ValueError := He.free_ok X G (cd.fact 75 (f := .free "ValueError") rfl)
    n_super := He.free_ok X G (cd.fact 76 (f := .free "super") rfl)
    i_MOST := He.int_ok X G (cd.fact 77 (f := .int "MOST" 10000) rfl)
    i_SIZE := He.int_ok X G (cd.fact 78 (f := .int "SIZE" 3) rfl)
    gx_BadPart := He.glo_ok X G (cd.fact 79 (f := .glo "BadPart") rfl)
    gx_BadNumber := He.glo_ok X G (cd.fact 80 (f := .glo "BadNumber") rfl)
    gx_Unknown := He.glo_ok X G (cd.fact 81 (f := .glo "Unknown") rfl)
    gx_BadPoint := He.glo_ok X G (cd.fact 82 (f := .glo "BadPoint") rfl)
    gx_BadBytes := He.glo_ok X G (cd.fact 83 (f := .glo "BadBytes") rfl)
    gx_BadGroup := He.glo_ok X G (cd.fact 84 (f := .glo "BadGroup") rfl)
    gx_BadPicture := He.glo_ok X G (cd.fact 85 (f := .glo "BadPicture") rfl)
    gx_BadChange := He.glo_ok X G (cd.fact 86 (f := .glo "BadChange") rfl)
    gx_TooMany := He.glo_ok X G (cd.fact 87 (f := .glo "TooMany") rfl)
    gx_BadText := He.glo_ok X G (cd.fact 88 (f := .glo "BadText") rfl)
    gx_BadLine := He.glo_ok X G (cd.fact 89 (f := .glo "BadLine") rfl)
    gx_NotTurned := He.glo_ok X G (cd.fact 90 (f := .glo "NotTurned") rfl)
    gx_BadClaim := He.glo_ok X G (cd.fact 91 (f := .glo "BadClaim") rfl)
    gx_NothingDone := He.glo_ok X G (cd.fact 92 (f := .glo "NothingDone") rfl)
    gx_TintError := He.glo_ok X G (cd.fact 93 (f := .glo "TintError") rfl)
    xm_BadPart := He.exm_ok (cd.fact 94 (f := .exm "BadPart" "TintError" true) rfl)
    xm_BadNumber := He.exm_ok (cd.fact 95 (f := .exm "BadNumber" "TintError" true) rfl)
    xm_Unknown := He.exm_ok (cd.fact 96 (f := .exm "Unknown" "TintError" true) rfl)
    xm_BadPoint := He.exm_ok (cd.fact 97 (f := .exm "BadPoint" "TintError" true) rfl)
    xm_BadBytes := He.exm_ok (cd.fact 98 (f := .exm "BadBytes" "TintError" true) rfl)
    xm_BadGroup := He.exm_ok (cd.fact 99 (f := .exm "BadGroup" "TintError" true) rfl)
    xm_BadPicture := He.exm_ok (cd.fact 100 (f := .exm "BadPicture" "TintError" true) rfl)
    xm_BadChange := He.exm_ok (cd.fact 101 (f := .exm "BadChange" "TintError" true) rfl)
    xm_TooMany := He.exm_ok (cd.fact 102 (f := .exm "TooMany" "TintError" true) rfl)
    xm_BadText := He.exm_ok (cd.fact 103 (f := .exm "BadText" "TintError" true) rfl)
    xm_BadLine := He.exm_ok (cd.fact 104 (f := .exm "BadLine" "TintError" true) rfl)
    xm_NotTurned := He.exm_ok (cd.fact 105 (f := .exm "NotTurned" "TintError" true) rfl)
    xm_BadClaim := He.exm_ok (cd.fact 106 (f := .exm "BadClaim" "TintError" true) rfl)
    xm_NothingDone := He.exm_ok (cd.fact 107 (f := .exm "NothingDone" "TintError" true) rfl)
    x_BadPart := xo_BadPart X G c
    x_BadNumber := xo_BadNumber X G c
    x_Unknown := xo_Unknown X G c
    x_BadPoint := xo_BadPoint X G c
    x_BadBytes := xo_BadBytes X G c
    x_BadGroup := xo_BadGroup X G c
    x_BadPicture := xo_BadPicture X G c
    x_BadChange := xo_BadChange X G c
    x_TooMany := xo_TooMany X G c
    x_BadText := xo_BadText X G c
    x_BadLine := xo_BadLine X G c
    x_NotTurned := xo_NotTurned X G c
    x_BadClaim := xo_BadClaim X G c
    x_NothingDone := xo_NothingDone X G c
    isx := ⟨f2, fun c hc d hd e => ?_, fun c hc f hf => ?_⟩
    t_law := TB ("law", none) (by simp [tf])
    t_Map_init := TB ("Map", some "__init__") (by simp [tf])
    isc := ⟨fun c hc => ?_, fun c hc => List.all_eq_true.mp e3 c hc, e2, fun c hc d hd e => ?_⟩ }
  · have hc : c = 0 ∨ c = 1 := by simpa [cs] using hc
    rcases hc with rfl | rfl
    · refine ⟨cls_ok (cd.fact 108 (f := .cls "Map") rfl), fun f hf => ?_⟩
      have hf : f = "rows" ∨ f = "added" := by simpa [tb] using hf
      rcases hf with rfl | rfl
      · exact noat_ok (cd.fact 109 (f := .noat "Map" "rows") rfl)
      · exact noat_ok (cd.fact 110 (f := .noat "Map" "added") rfl)
    · refine ⟨cls_ok (cd.fact 111 (f := .cls "Wide") rfl), fun f hf => ?_⟩
      have hf : f = "rows" ∨ f = "added" := by simpa [tb] using hf
      rcases hf with rfl | rfl
      · exact noat_ok (cd.fact 112 (f := .noat "Wide" "rows") rfl)
      · exact noat_ok (cd.fact 113 (f := .noat "Wide" "added") rfl)
  · exact inj_of nd hc hd e
  · exact inj_of ndx hc hd e
  · have hc : c = 2 ∨ c = 3 ∨ c = 4 ∨ c = 5 ∨ c = 6 ∨ c = 7 ∨ c = 8 ∨ c = 9 ∨ c = 10 ∨ c = 11 ∨ c = 12 ∨ c = 13 ∨ c = 14 ∨ c = 15 := by simpa [es] using hc
    rcases hc with rfl | rfl | rfl | rfl | rfl | rfl | rfl | rfl | rfl | rfl | rfl | rfl | rfl | rfl
    · have hf : f = "part" ∨ f = "place" := by simpa [tb] using hf
      rcases hf with rfl | rfl
      · exact noat_ok (cd.fact 114 (f := .noat "BadPart" "part") rfl)
      · exact noat_ok (cd.fact 115 (f := .noat "BadPart" "place") rfl)
    · have hf : f = "value" := by simpa [tb] using hf
      subst hf
      · exact noat_ok (cd.fact 116 (f := .noat "BadNumber" "value") rfl)
    · have hf : f = "name" := by simpa [tb] using hf
      subst hf
      · exact noat_ok (cd.fact 117 (f := .noat "Unknown" "name") rfl)
    · have hf : f = "place" := by simpa [tb] using hf
      subst hf
      · exact noat_ok (cd.fact 118 (f := .noat "BadPoint" "place") rfl)
    · have hf : f = "place" := by simpa [tb] using hf
      subst hf
      · exact noat_ok (cd.fact 119 (f := .noat "BadBytes" "place") rfl)
    · have hf : f = "place" := by simpa [tb] using hf
      subst hf
      · exact noat_ok (cd.fact 120 (f := .noat "BadGroup" "place") rfl)
    · have hf : f = "place" := by simpa [tb] using hf
      subst hf
      · exact noat_ok (cd.fact 121 (f := .noat "BadPicture" "place") rfl)
    · have hf : f = "place" := by simpa [tb] using hf
      subst hf
      · exact noat_ok (cd.fact 122 (f := .noat "BadChange" "place") rfl)
    · have hf : f = "limit" := by simpa [tb] using hf
      subst hf
      · exact noat_ok (cd.fact 123 (f := .noat "TooMany" "limit") rfl)
    · have hf : f = "line" := by simpa [tb] using hf
      subst hf
      · exact noat_ok (cd.fact 124 (f := .noat "BadText" "line") rfl)
    · have hf : f = "line" := by simpa [tb] using hf
      subst hf
      · exact noat_ok (cd.fact 125 (f := .noat "BadLine" "line") rfl)
    · cases hf
    · cases hf
    · cases hf
end K05

namespace K05
open PySem PySem.Spec L2 Tv
local macro_rules | `(tactic| get_elem_tactic_extensible) => `(tactic| simp only [v_var, v_varB, v_c, v_op, v_un, v_nil, v_cons, v_tup, v_lst, v_test, v_and, v_or, v_not, v_if, v_andV, v_orV, v_notV, v_chain, v_call, v_callF, v_callV, v_isi, v_slice, v_comp, unowned, List.all_cons, List.all_nil, wipeR, and_true, true_and, and_false, false_and, Int.cast_ofNat_Int, v_part, v_noPart, v_fld, v_yes, v_seqI, v_rng1, v_rng2, v_enumI, v_zipI, v_next, v_seq, v_set, v_setO, v_drop, v_ret, v_retN, v_brk, v_cnt, v_ifS, v_frz, v_while, v_for, v_meth, v_setIx, v_cell, v_aug, v_pt, v_par, v_setF, v_fun, v_raise, v_told, v_lamV, v_callL, v_newC, v_setIxE, w_setCell, w_tupC, w_isNotB, w_ix30, w_ix31, w_ix32, w_ixL30, w_ixL31, w_ixL32, w_ixL20, w_ixL21, v_ne_ok, v_loopF_nil, v_compF_nil,
  w_add, Tv.w_sub, w_lt, w_le, w_gt, w_ge, w_neg, w_eqI, w_neI, w_eqB, w_neB, w_is, w_isNot, w_ix20, w_ix21, w_lenT, w_lenL, w_lenZ, w_abs, w_int, w_min, w_max, w_tupT, w_tupL, w_tupZ, kT_int, kT_bl, kT_non, kT_str, kT_tup, kT_lst, k2, Tv.isNon, Pt.run, Pts.run, setM, ownL, baseOk, seqV,
  List.map_cons, List.map_nil, List.cons_append, List.nil_append, List.append_nil, List.replicate_zero, List.replicate_succ, List.length_cons, List.length_nil, List.getElem?_cons_zero, List.getElem?_cons_succ, List.getElem?_nil, List.set_cons_zero, List.set_cons_succ, List.set_nil, Option.some.injEq, ↓reduceIte, reduceCtorEq, decide_true, decide_false, decide_eq_true_eq, Bool.not_true, Bool.not_false, Bool.false_eq_true, Bool.and_true, Bool.true_and, Bool.or_false, Bool.false_or, Bool.or_true, Bool.true_or, Bool.and_false, Bool.false_and, if_true, if_false, String.reduceEq, or_false, or_true, false_or, true_or, Int.reduceLE, Int.reduceLT, Int.reduceNeg, Int.reduceToNat, Int.reduceAdd, Nat.reduceAdd, Nat.reduceLT, Int.reduceSub, Int.reduceMul, Int.reduceEq, Nat.reduceEqDiff, Int.zero_sub, BEq.rfl])
local macro_rules | `(tactic| decreasing_trivial) => `(tactic| simp only [v_var, v_varB, v_c, v_op, v_un, v_nil, v_cons, v_tup, v_lst, v_test, v_and, v_or, v_not, v_if, v_andV, v_orV, v_notV, v_chain, v_call, v_callF, v_callV, v_isi, v_slice, v_comp, unowned, List.all_cons, List.all_nil, wipeR, and_true, true_and, and_false, false_and, Int.cast_ofNat_Int, v_part, v_noPart, v_fld, v_yes, v_seqI, v_rng1, v_rng2, v_enumI, v_zipI, v_next, v_seq, v_set, v_setO, v_drop, v_ret, v_retN, v_brk, v_cnt, v_ifS, v_frz, v_while, v_for, v_meth, v_setIx, v_cell, v_aug, v_pt, v_par, v_setF, v_fun, v_raise, v_told, v_lamV, v_callL, v_newC, v_setIxE, w_setCell, w_tupC, w_isNotB, w_ix30, w_ix31, w_ix32, w_ixL30, w_ixL31, w_ixL32, w_ixL20, w_ixL21, v_ne_ok, v_loopF_nil, v_compF_nil,
  w_add, Tv.w_sub, w_lt, w_le, w_gt, w_ge, w_neg, w_eqI, w_neI, w_eqB, w_neB, w_is, w_isNot, w_ix20, w_ix21, w_lenT, w_lenL, w_lenZ, w_abs, w_int, w_min, w_max, w_tupT, w_tupL, w_tupZ, kT_int, kT_bl, kT_non, kT_str, kT_tup, kT_lst, k2, Tv.isNon, Pt.run, Pts.run, setM, ownL, baseOk, seqV,
  List.map_cons, List.map_nil, List.cons_append, List.nil_append, List.append_nil, List.replicate_zero, List.replicate_succ, List.length_cons, List.length_nil, List.getElem?_cons_zero, List.getElem?_cons_succ, List.getElem?_nil, List.set_cons_zero, List.set_cons_succ, List.set_nil, Option.some.injEq, ↓reduceIte, reduceCtorEq, decide_true, decide_false, decide_eq_true_eq, Bool.not_true, Bool.not_false, Bool.false_eq_true, Bool.and_true, Bool.true_and, Bool.or_false, Bool.false_or, Bool.or_true, Bool.true_or, Bool.and_false, Bool.false_and, if_true, if_false, String.reduceEq, or_false, or_true, false_or, true_or, Int.reduceLE, Int.reduceLT, Int.reduceNeg, Int.reduceToNat, Int.reduceAdd, Nat.reduceAdd, Nat.reduceLT, Int.reduceSub, Int.reduceMul, Int.reduceEq, Nat.reduceEqDiff, Int.zero_sub, BEq.rfl, *])

/-! ### sizes -/
def bd (n : Nat) (i : Int) : Prop := i.natAbs < 2 ^ n
theorem log_lt {m n : Nat} (h : m < 2 ^ n) (hn : 0 < n) : m.log2 < n := by
  by_cases h0 : m = 0
  · subst h0; simpa [Nat.log2_zero] using hn
  · exact (Nat.log2_lt h0).mpr h
theorem mulI {i j : Int} {a b : Nat} {s : S} (hi : bd a i) (hj : bd b j) (h : a + b ≤ 900000 := by omega) : gMul (.int i) (.int j) s = .ok (.int (i * j)) s := by
  have h1 : i.natAbs.log2 < a + 1 := log_lt (Nat.lt_of_lt_of_le hi (Nat.pow_le_pow_right (by omega) (by omega))) (by omega)
  have h2 : j.natAbs.log2 < b + 1 := log_lt (Nat.lt_of_lt_of_le hj (Nat.pow_le_pow_right (by omega) (by omega))) (by omega)
  show (if i.natAbs.log2 + j.natAbs.log2 < 1000000 then _ else _) = _
  rw [if_pos (by omega)]
theorem divI {i j : Int} {a : Nat} {s : S} (hj : bd a j) (h : 0 < j) (ha : a ≤ 8000 := by omega) : gDiv (.int i) (.int j) s = .ok (.int (i / j)) s := by
  have h2 : j.natAbs.log2 < a + 1 := log_lt (Nat.lt_of_lt_of_le hj (Nat.pow_le_pow_right (by omega) (by omega))) (by omega)
  show (if 0 < j ∧ j.natAbs.log2 < 9000 then _ else _) = _
  rw [if_pos ⟨h, by omega⟩]
theorem modI {i j : Int} {s : S} (h : 0 < j) : gMod (.int i) (.int j) s = .ok (.int (i % j)) s := by
  show (if 0 < j then _ else _) = _
  rw [if_pos h]
theorem bd_mul {i j : Int} {a b : Nat} (hi : bd a i) (hj : bd b j) : bd (a + b) (i * j) := by
  unfold bd at *
  rw [Int.natAbs_mul, Nat.pow_add]
  exact Nat.mul_lt_mul'' hi hj
theorem bd_add {i j : Int} {a : Nat} (hi : bd a i) (hj : bd a j) : bd (a + 1) (i + j) := by
  unfold bd at *
  have := Int.natAbs_add_le i j
  rw [Nat.pow_succ]
  omega
theorem bd_sub {i j : Int} {a : Nat} (hi : bd a i) (hj : bd a j) : bd (a + 1) (i - j) := by
  unfold bd at *
  have := Int.natAbs_sub_le i j
  rw [Nat.pow_succ]
  omega
theorem bd_neg {i : Int} {a : Nat} (hi : bd a i) : bd a (-i) := by
  unfold bd at *
  rw [Int.natAbs_neg]
  exact hi
theorem bd_mono {i : Int} {a b : Nat} (hi : bd a i) (h : a ≤ b := by omega) : bd b i := Nat.lt_of_lt_of_le hi (Nat.pow_le_pow_right (by omega) h)
theorem bd_small {i : Int} (h : i.natAbs < 1024 := by omega) : bd 10 i := h

/-! ### greatest common parts -/
theorem common_loop : ∀ (n a b : Nat) (s : S), b < n → loopW t_common_1 l_common_1 n [.v (.int a), .v (.int b)] s = .nx [.v (.int (Nat.gcd a b)), .v (.int 0)] s
  | 0, a, b, s, h => absurd h (Nat.not_lt_zero _)
  | n + 1, a, b, s, h => by
    rw [v_loopW]
    by_cases hb : b = 0
    · subst hb
      unfold t_common_1
      get_elem_tactic_extensible
      simp
    · have hb0 : (0 : Int) < (b : Int) := by omega
      have e0 := fun s => w_mod (i := (a : Int)) (s := s) hb0
      have e2 : (a : Int) % (b : Int) = ((a % b : Nat) : Int) := by simp
      have hm : a % b < b := Nat.mod_lt _ (by omega)
      have ih := common_loop n b (a % b) s (by omega)
      have eg : Nat.gcd b (a % b) = Nat.gcd a b := by rw [Nat.gcd_comm b, ← Nat.gcd_rec, Nat.gcd_comm]
      have u1 : t_common_1 = mTest (mOp gGt (mVar 1) (mC (.int 0))) := rfl
      have e3 : t_common_1 [.v (.int a), .v (.int b)] s = .ok true s := by
        rw [u1]
        decreasing_trivial
      have e4 : l_common_1 [.v (.int a), .v (.int b)] s = .nx [.v (.int b), .v (.int (a % b : Nat))] s := by
        unfold l_common_1
        decreasing_trivial
      rw [e3]
      dsimp only
      rw [e4]
      dsimp only
      rw [ih, eg]
theorem t_common (a b : Int) (s : S) : F_common [.int a, .int b] s = .ok (.int (Nat.gcd a.natAbs b.natAbs)) s := by
  unfold F_common b_common
  have h := common_loop (b.natAbs + 1) a.natAbs b.natAbs s (by omega)
  have e : fuel_common [.v (.int (a.natAbs : Nat)), .v (.int (b.natAbs : Nat))] s = b.natAbs + 1 := by
    unfold fuel_common
    simp
  decreasing_trivial
/-! ### fractions -/
def fr (q : Rat) : D := .tup [.int q.num, .int q.den]
/-- the numerator's and the denominator's bits -/
structure Bd (n d : Nat) (q : Rat) : Prop where
  num : bd n q.num
  den : q.den < 2 ^ d
theorem Bd.mono {a b c e : Nat} {q : Rat} (h : Bd a c q) (e1 : a ≤ b := by omega) (e2 : c ≤ e := by omega) : Bd b e q := ⟨bd_mono h.num e1, Nat.lt_of_lt_of_le h.den (Nat.pow_le_pow_right (by omega) e2)⟩
theorem Bd.dn {n d : Nat} {q : Rat} (h : Bd n d q) : bd d (q.den : Int) := by
  unfold bd
  rw [Int.natAbs_natCast]
  exact h.den
theorem den_pos (q : Rat) : (0 : Int) < (q.den : Int) := by
  have := q.den_nz
  omega
/-- a reduced form -/
theorem mk_nd (n : Int) (d : Nat) (hd : d ≠ 0) : (mkRat n d).num = n / ((Nat.gcd n.natAbs d : Nat) : Int) ∧ ((mkRat n d).den : Int) = (d : Int) / ((Nat.gcd n.natAbs d : Nat) : Int) := by
  have h1 := Rat.num_mkRat n d
  have h2 := Rat.den_mkRat n d
  rw [if_neg hd] at h1 h2
  rw [h1, h2, Nat.gcd_comm d n.natAbs]
  exact ⟨rfl, by simp⟩
theorem bd_div {i : Int} {d : Int} {a : Nat} (h : bd a i) (hd : 0 < d) (hi : d ∣ i) : bd a (i / d) := by
  unfold bd at *
  obtain ⟨k, rfl⟩ := hi
  rw [Int.mul_ediv_cancel_left _ (by omega)]
  rw [Int.natAbs_mul] at h
  have : 1 ≤ d.natAbs := by omega
  exact Nat.lt_of_le_of_lt (Nat.le_mul_of_pos_left _ (by omega)) h
theorem Bd_mk {n : Int} {d : Nat} {a b : Nat} (hd : d ≠ 0) (h1 : bd a n) (h2 : bd b (d : Int)) : Bd a b (mkRat n d) := by
  obtain ⟨e1, e2⟩ := mk_nd n d hd
  have hg : (0 : Int) < ((Nat.gcd n.natAbs d : Nat) : Int) := by
    have := Nat.gcd_pos_of_pos_right n.natAbs (Nat.pos_of_ne_zero hd)
    omega
  refine ⟨?_, ?_⟩
  · rw [e1]
    exact bd_div h1 hg (Int.natAbs_dvd_natAbs.mp (by rw [Int.natAbs_natCast]; exact Nat.gcd_dvd_left _ _))
  · have := bd_div h2 hg (Int.natCast_dvd_natCast.mpr (Nat.gcd_dvd_right n.natAbs d))
    rw [← e2] at this
    unfold bd at this
    rw [Int.natAbs_natCast] at this
    exact this
theorem gcd_bd {n : Int} {d : Nat} {a : Nat} (hd : d ≠ 0) (h : bd a (d : Int)) : bd a ((Nat.gcd n.natAbs d : Nat) : Int) := by
  unfold bd at *
  rw [Int.natAbs_natCast] at *
  exact Nat.lt_of_le_of_lt (Nat.gcd_le_right _ (Nat.pos_of_ne_zero hd)) h
theorem t_frac0 {n : Int} {d : Nat} {a : Nat} {s : S} (hd : d ≠ 0) (h : bd a (d : Int)) (ha : a ≤ 8000 := by omega) : F_fraction [.int n, .int d] s = .ok (fr (mkRat n d)) s := by
  unfold F_fraction b_fraction
  have e1 : ¬ (d : Int) < 0 := by omega
  have hg : (0 : Int) < ((Nat.gcd n.natAbs d : Nat) : Int) := by
    have := Nat.gcd_pos_of_pos_right n.natAbs (Nat.pos_of_ne_zero hd)
    omega
  have e2 := fun (i : Int) s => divI (i := i) (s := s) (gcd_bd (n := n) hd h) hg
  have e3 := fun s => t_common n (d : Int) s
  rw [Int.natAbs_natCast] at e3
  decreasing_trivial
  obtain ⟨e1, e2⟩ := mk_nd n d hd
  unfold fr
  rw [e1, e2]
theorem t_fracN {n : Int} {d : Nat} {a : Nat} {s : S} (hd : d ≠ 0) (h : bd a (d : Int)) (ha : a ≤ 8000 := by omega) : F_fraction [.int n, .int (-d)] s = .ok (fr (mkRat (-n) d)) s := by
  unfold F_fraction b_fraction
  have e1 : -(d : Int) < 0 := by omega
  have e0 : - -(d : Int) = d := by omega
  have hg : (0 : Int) < ((Nat.gcd (-n).natAbs d : Nat) : Int) := by
    have := Nat.gcd_pos_of_pos_right (-n).natAbs (Nat.pos_of_ne_zero hd)
    omega
  have e2 := fun (i : Int) s => divI (i := i) (s := s) (gcd_bd (n := -n) hd h) hg
  have e3 := fun s => t_common (-n) (d : Int) s
  rw [Int.natAbs_natCast] at e3
  decreasing_trivial
  obtain ⟨e1, e2⟩ := mk_nd (-n) d hd
  unfold fr
  rw [e1, e2]
theorem mkR (n : Int) (d : Nat) : mkRat n d = (n : Rat) / (d : Rat) := by rw [Rat.mkRat_eq_div]
theorem nd (q : Rat) : q = (q.num : Rat) / (q.den : Rat) := by
  rw [← mkR]
  exact (Rat.mkRat_self q).symm
theorem dq (q : Rat) : (q.den : Rat) ≠ 0 := by
  intro h
  exact q.den_nz (by exact_mod_cast h)
theorem den2 (p q : Rat) : ((p.den : Int) * (q.den : Int)) = ((p.den * q.den : Nat) : Int) := by push_cast; rfl
theorem t_plus {p q : Rat} {a b c d : Nat} {s : S} (hp : Bd a b p) (hq : Bd c d q) (h : a + b + c + d ≤ 7900 := by omega) : F_plus [fr p, fr q] s = .ok (fr (p + q)) s := by
  unfold F_plus b_plus fr
  have m1 := fun s => mulI (s := s) hp.num hq.dn
  have m2 := fun s => mulI (s := s) hq.num hp.dn
  have m3 := fun s => mulI (s := s) hp.dn hq.dn
  have m4 := fun n s => t_frac0 (n := n) (s := s) (a := b + d) (Nat.mul_ne_zero p.den_nz q.den_nz) (by rw [← den2]; exact bd_mul hp.dn hq.dn)
  have dd := den2 p q
  decreasing_trivial
  rw [Rat.add_def' p q]
  rfl
theorem t_minus {p q : Rat} {a b c d : Nat} {s : S} (hp : Bd a b p) (hq : Bd c d q) (h : a + b + c + d ≤ 7900 := by omega) : F_minus [fr p, fr q] s = .ok (fr (p - q)) s := by
  unfold F_minus b_minus fr
  have m1 := fun s => mulI (s := s) hp.num hq.dn
  have m2 := fun s => mulI (s := s) hq.num hp.dn
  have m3 := fun s => mulI (s := s) hp.dn hq.dn
  have m4 := fun n s => t_frac0 (n := n) (s := s) (a := b + d) (Nat.mul_ne_zero p.den_nz q.den_nz) (by rw [← den2]; exact bd_mul hp.dn hq.dn)
  have dd := den2 p q
  decreasing_trivial
  rw [Rat.sub_def' p q]
  rfl
theorem t_times {p q : Rat} {a b c d : Nat} {s : S} (hp : Bd a b p) (hq : Bd c d q) (h : a + b + c + d ≤ 7900 := by omega) : F_times [fr p, fr q] s = .ok (fr (p * q)) s := by
  unfold F_times b_times fr
  have m1 := fun s => mulI (s := s) hp.num hq.num
  have m3 := fun s => mulI (s := s) hp.dn hq.dn
  have m4 := fun n s => t_frac0 (n := n) (s := s) (a := b + d) (Nat.mul_ne_zero p.den_nz q.den_nz) (by rw [← den2]; exact bd_mul hp.dn hq.dn)
  have dd := den2 p q
  decreasing_trivial
  rw [Rat.mul_def' p q]
  rfl
theorem numpos {q : Rat} (h : 0 < q) : 0 < q.num := by
  have h1 : 0 ≤ q.num := Rat.num_nonneg.mpr (Rat.le_of_lt h)
  have h2 : q.num ≠ 0 := fun e => by
    rw [Rat.num_eq_zero.mp e] at h
    exact absurd h (by decide)
  omega
theorem div_mk (p q : Rat) (hq : 0 < q) : p / q = mkRat (p.num * q.den) (p.den * q.num.toNat) := by
  have hn : 0 < q.num := numpos hq
  have h1 := nd p
  have h2 := nd q
  rw [mkR]
  push_cast
  have e : (((q.num.toNat : Nat) : Int) : Rat) = (q.num : Rat) := by
    congr 1
    omega
  have e' : ((q.num.toNat : Nat) : Rat) = (q.num : Rat) := by
    rw [← e]
    push_cast
    rfl
  rw [e']
  have hqn : (q.num : Rat) ≠ 0 := by
    intro z
    have : q.num = 0 := by exact_mod_cast z
    omega
  have d1 := dq p
  have d2 := dq q
  grind
theorem div_mkN (p q : Rat) (hq : q < 0) : p / q = mkRat (-(p.num * q.den)) (p.den * q.num.natAbs) := by
  have h0 : 0 < -q := by grind
  have e := div_mk p (-q) h0
  have hn : (-q).num = -q.num := rfl
  have hd : (-q).den = q.den := rfl
  have hpos := numpos h0
  rw [hn, hd] at e
  rw [hn] at hpos
  have e2 : (-q.num).toNat = q.num.natAbs := by omega
  rw [e2] at e
  have e3 : p / q = -(p / -q) := by grind
  rw [e3, e, ← Rat.neg_mkRat]
theorem t_by {p q : Rat} {a b c d : Nat} {s : S} (hp : Bd a b p) (hq : Bd c d q) (h0 : q ≠ 0) (h : a + b + c + d ≤ 7900 := by omega) : F_by [fr p, fr q] s = .ok (fr (p / q)) s := by
  have m1 := fun s => mulI (s := s) hp.num hq.dn
  have m3 := fun s => mulI (s := s) hp.dn hq.num
  have hq0 : q.num ≠ 0 := fun e => h0 (Rat.num_eq_zero.mp e)
  have hb : bd c ((q.num.natAbs : Nat) : Int) := by
    have := hq.num
    unfold bd at *
    rwa [Int.natAbs_natCast]
  have hd : bd (b + c) ((p.den * q.num.natAbs : Nat) : Int) := by
    push_cast
    have := bd_mul hp.dn hb
    push_cast at this
    exact this
  have hnz : p.den * q.num.natAbs ≠ 0 := Nat.mul_ne_zero p.den_nz (by omega)
  rcases Int.lt_or_gt_of_ne hq0 with hs | hs
  · have hq1 : q < 0 := by
      rw [Rat.lt_iff]
      simpa using hs
    have m5 : (p.den : Int) * q.num = -((p.den * q.num.natAbs : Nat) : Int) := by
      have : q.num = -(q.num.natAbs : Int) := by omega
      push_cast
      rw [← Int.mul_neg, ← this]
    have m4 := fun n s => t_fracN (n := n) (s := s) hnz hd
    rw [div_mkN p q hq1]
    unfold F_by b_by fr
    clear hd hb hq0 hs hq1 h0 hnz
    generalize (p.den * q.num.natAbs : Nat) = DD at *
    decreasing_trivial
    rfl
  · have hq1 : 0 < q := by
      rw [Rat.lt_iff]
      simpa using hs
    have en : q.num.toNat = q.num.natAbs := by omega
    have m5 : (p.den : Int) * q.num = ((p.den * q.num.natAbs : Nat) : Int) := by
      have : q.num = (q.num.natAbs : Int) := by omega
      push_cast
      rw [← this]
    have m4 := fun n s => t_frac0 (n := n) (s := s) hnz hd
    rw [div_mk p q hq1, en]
    unfold F_by b_by fr
    clear hd hb hq0 hs hq1 h0 hnz en
    generalize (p.den * q.num.natAbs : Nat) = DD at *
    decreasing_trivial
    rfl
/-! ### the sizes of what is reckoned -/
theorem bd_max1 {i : Int} {a b : Nat} (h : bd a i) : bd (max a b) i := bd_mono h (Nat.le_max_left _ _)
theorem bd_max2 {i : Int} {a b : Nat} (h : bd b i) : bd (max a b) i := bd_mono h (Nat.le_max_right _ _)
theorem Bd_add {p q : Rat} {a b c d : Nat} (hp : Bd a b p) (hq : Bd c d q) : Bd (max (a + d) (c + b) + 1) (b + d) (p + q) := by
  rw [Rat.add_def' p q]
  exact Bd_mk (Nat.mul_ne_zero p.den_nz q.den_nz) (bd_add (bd_max1 (bd_mul hp.num hq.dn)) (bd_max2 (bd_mul hq.num hp.dn))) (by rw [← den2]; exact bd_mul hp.dn hq.dn)
theorem Bd_sub {p q : Rat} {a b c d : Nat} (hp : Bd a b p) (hq : Bd c d q) : Bd (max (a + d) (c + b) + 1) (b + d) (p - q) := by
  rw [Rat.sub_def' p q]
  exact Bd_mk (Nat.mul_ne_zero p.den_nz q.den_nz) (bd_sub (bd_max1 (bd_mul hp.num hq.dn)) (bd_max2 (bd_mul hq.num hp.dn))) (by rw [← den2]; exact bd_mul hp.dn hq.dn)
theorem Bd_mul {p q : Rat} {a b c d : Nat} (hp : Bd a b p) (hq : Bd c d q) : Bd (a + c) (b + d) (p * q) := by
  rw [Rat.mul_def' p q]
  exact Bd_mk (Nat.mul_ne_zero p.den_nz q.den_nz) (bd_mul hp.num hq.num) (by rw [← den2]; exact bd_mul hp.dn hq.dn)
theorem Bd_neg {p : Rat} {a b : Nat} (hp : Bd a b p) : Bd a b (-p) := ⟨by rw [Rat.neg_num]; exact bd_neg hp.num, by rw [Rat.neg_den]; exact hp.den⟩
theorem Bd_div {p q : Rat} {a b c d : Nat} (hp : Bd a b p) (hq : Bd c d q) (h0 : q ≠ 0) : Bd (a + d) (b + c) (p / q) := by
  have pos : ∀ q : Rat, Bd c d q → 0 < q → Bd (a + d) (b + c) (p / q) := fun q hq h0 => by
    have hn : 0 < q.num := numpos h0
    have en : q.num = ((q.num.toNat : Nat) : Int) := by omega
    have hb : bd c ((q.num.toNat : Nat) : Int) := by rw [← en]; exact hq.num
    have d3 : ((p.den : Int) * ((q.num.toNat : Nat) : Int)) = ((p.den * q.num.toNat : Nat) : Int) := by push_cast; rfl
    rw [div_mk p q h0]
    exact Bd_mk (Nat.mul_ne_zero p.den_nz (by omega)) (bd_mul hp.num hq.dn) (by rw [← d3]; exact bd_mul hp.dn hb)
  have hor : q < 0 ∨ 0 < q := by grind
  rcases hor with hs | hs
  · have := Bd_neg (pos (-q) (Bd_neg hq) (by grind))
    rwa [show -(p / -q) = p / q by grind] at this
  · exact pos q hq hs
theorem Bd_int {i : Int} {n d : Nat} (h : bd n i) (hd : 1 ≤ d := by omega) : Bd n d (i : Rat) := ⟨by rw [Rat.num_intCast]; exact h, by rw [Rat.den_intCast]; exact Nat.one_lt_two_pow (by omega)⟩
theorem fr_int (i : Int) : fr (i : Rat) = .tup [.int i, .int 1] := by
  unfold fr
  rw [Rat.num_intCast, Rat.den_intCast]
  rfl
theorem fr_inj {p q : Rat} (h : fr p = fr q) : p = q := by
  unfold fr at h
  simp only [D.tup.injEq, List.cons.injEq, D.int.injEq, and_true] at h
  exact Rat.ext h.1 (by omega)
theorem fr_0 : D.tup [.int 0, .int 1] = fr 0 := rfl
theorem fr_1 : D.tup [.int 1, .int 1] = fr 1 := rfl
theorem fr_neg (q : Rat) : D.tup [.int (-q.num), .int q.den] = fr (-q) := by
  unfold fr
  rw [Rat.neg_num, Rat.neg_den]

/-! ### the law's own fractions -/
theorem lgcd_loop : ∀ (l : List D) (n a b : Nat) (t : SD) (s : S), b < 2 ^ n → 2 * n + 1 ≤ l.length → ∃ t', loopF (.nm 2) l__law_gcd_1 l [.v (.int a), .v (.int b), t] s = .nx [.v (.int (Nat.gcd a b)), .v (.int 0), t'] s
  | [], n, a, b, t, s, h, hl => by simp at hl
  | d :: l, n, a, b, t, s, h, hl => by
    unfold loopF Pt.run
    dsimp only
    have es : ([.v (.int a), .v (.int b), t] : List SD).set 2 (.v d) = [.v (.int a), .v (.int b), .v d] := rfl
    rw [es]
    by_cases hb : b = 0
    · subst hb
      refine ⟨.v d, ?_⟩
      have : l__law_gcd_1 [.v (.int a), .v (.int (0 : Nat)), .v d] s = .bk [.v (.int a), .v (.int (0 : Nat)), .v d] s := by
        unfold l__law_gcd_1
        get_elem_tactic_extensible
        all_goals simp
      rw [this]
      simp
    · have hb0 : (0 : Int) < (b : Int) := by omega
      have : l__law_gcd_1 [.v (.int a), .v (.int b), .v d] s = .nx [.v (.int b), .v (.int (a % b : Nat)), .v d] s := by
        unfold l__law_gcd_1
        have e0 : ¬ ((b : Int) = 0) := by omega
        have e1 := fun s => w_mod (i := (a : Int)) (s := s) hb0
        decreasing_trivial
        simp
      rw [this]
      dsimp only
      -- two turns at once
      have hm : a % b < b := Nat.mod_lt _ (by omega)
      have g1 : Nat.gcd a b = Nat.gcd b (a % b) := by rw [Nat.gcd_comm a b, Nat.gcd_rec b a, Nat.gcd_comm]
      rw [g1]
      match l, hl with
      | [], hl =>
        have : n = 0 := by simp at hl; omega
        subst this
        simp at h
        omega
      | d2 :: l, hl =>
        unfold loopF Pt.run
        dsimp only
        have es : ([.v (.int b), .v (.int (a % b : Nat)), .v d] : List SD).set 2 (.v d2) = [.v (.int b), .v (.int (a % b : Nat)), .v d2] := rfl
        rw [es]
        by_cases hb2 : a % b = 0
        · rw [hb2]
          refine ⟨.v d2, ?_⟩
          have : l__law_gcd_1 [.v (.int b), .v (.int (0 : Nat)), .v d2] s = .bk [.v (.int b), .v (.int (0 : Nat)), .v d2] s := by
            unfold l__law_gcd_1
            get_elem_tactic_extensible
            all_goals simp
          rw [this]
          simp
        · have hb3 : (0 : Int) < ((a % b : Nat) : Int) := by omega
          have : l__law_gcd_1 [.v (.int b), .v (.int (a % b : Nat)), .v d2] s = .nx [.v (.int (a % b : Nat)), .v (.int (b % (a % b) : Nat)), .v d2] s := by
            unfold l__law_gcd_1
            have e0 : ¬ (((a % b : Nat) : Int) = 0) := by omega
            have e1 := fun s => w_mod (i := (b : Int)) (s := s) hb3
            clear g1 this
            decreasing_trivial
            simp
          rw [this]
          dsimp only
          have g2 : Nat.gcd b (a % b) = Nat.gcd (a % b) (b % (a % b)) := by rw [Nat.gcd_comm b (a % b), Nat.gcd_rec (a % b) b, Nat.gcd_comm]
          rw [g2]
          have half : 2 * (b % (a % b)) < b := by
            have h1 : b % (a % b) < a % b := Nat.mod_lt _ (by omega)
            have h2 := Nat.div_add_mod b (a % b)
            have h3 : 1 ≤ b / (a % b) := Nat.div_pos (by omega) (by omega)
            have h4 : a % b * 1 ≤ a % b * (b / (a % b)) := Nat.mul_le_mul_left _ h3
            omega
          cases n with
          | zero => simp at h; omega
          | succ n =>
            rw [Nat.pow_succ] at h
            exact lgcd_loop l n (a % b) (b % (a % b)) (.v d2) s (by omega) (by simp at hl; omega)
theorem t_lgcd {a b : Int} {s : S} (h : bd 199 b) : F__law_gcd [.int a, .int b] s = .ok (.int (Nat.gcd a.natAbs b.natAbs)) s := by
  unfold F__law_gcd b__law_gcd
  have er : rngOk 400 = true := by decide
  obtain ⟨t', e⟩ := lgcd_loop (rngD 0 400) 199 a.natAbs b.natAbs .un s h (by decide)
  decreasing_trivial
theorem t_lfrac {n : Int} {d : Nat} {s : S} (hd : d ≠ 0) (h : bd 199 (d : Int)) : F__law_frac [.int n, .int d] s = .ok (fr (mkRat n d)) s := by
  unfold F__law_frac b__law_frac
  have e1 : ¬ (d : Int) < 0 := by omega
  have e3 := fun s => t_lgcd (a := (n.natAbs : Int)) (b := (d : Int)) (s := s) h
  rw [Int.natAbs_natCast, Int.natAbs_natCast] at e3
  have hg : (0 : Int) < ((Nat.gcd n.natAbs d : Nat) : Int) := by
    have := Nat.gcd_pos_of_pos_right n.natAbs (Nat.pos_of_ne_zero hd)
    omega
  have m1 := fun (i : Int) s => divI (i := i) (s := s) (gcd_bd (n := n) hd h) hg
  decreasing_trivial
  obtain ⟨e1, e2⟩ := mk_nd n d hd
  unfold fr
  rw [e1, e2]
theorem t_ladd {p q : Rat} {a b c d : Nat} {s : S} (hp : Bd a b p) (hq : Bd c d q) (h : b + d ≤ 199 := by omega) (h2 : a + c ≤ 7000 := by omega) : F__law_add [fr p, fr q] s = .ok (fr (p + q)) s := by
  unfold F__law_add b__law_add fr
  have m1 := fun s => mulI (s := s) hp.num hq.dn
  have m2 := fun s => mulI (s := s) hq.num hp.dn
  have m3 := fun s => mulI (s := s) hp.dn hq.dn
  have m4 := fun n s => t_lfrac (n := n) (s := s) (Nat.mul_ne_zero p.den_nz q.den_nz) (by rw [← den2]; exact bd_mono (bd_mul hp.dn hq.dn))
  have dd := den2 p q
  decreasing_trivial
  rw [Rat.add_def' p q]
  rfl
theorem t_lsub {p q : Rat} {a b c d : Nat} {s : S} (hp : Bd a b p) (hq : Bd c d q) (h : b + d ≤ 199 := by omega) (h2 : a + c ≤ 7000 := by omega) : F__law_sub [fr p, fr q] s = .ok (fr (p - q)) s := by
  unfold F__law_sub b__law_sub fr
  have m1 := fun s => mulI (s := s) hp.num hq.dn
  have m2 := fun s => mulI (s := s) hq.num hp.dn
  have m3 := fun s => mulI (s := s) hp.dn hq.dn
  have m4 := fun n s => t_lfrac (n := n) (s := s) (Nat.mul_ne_zero p.den_nz q.den_nz) (by rw [← den2]; exact bd_mono (bd_mul hp.dn hq.dn))
  have dd := den2 p q
  decreasing_trivial
  rw [Rat.sub_def' p q]
  rfl
theorem t_lmul {p q : Rat} {a b c d : Nat} {s : S} (hp : Bd a b p) (hq : Bd c d q) (h : b + d ≤ 199 := by omega) (h2 : a + c ≤ 7000 := by omega) : F__law_mul [fr p, fr q] s = .ok (fr (p * q)) s := by
  unfold F__law_mul b__law_mul fr
  have m1 := fun s => mulI (s := s) hp.num hq.num
  have m3 := fun s => mulI (s := s) hp.dn hq.dn
  have m4 := fun n s => t_lfrac (n := n) (s := s) (Nat.mul_ne_zero p.den_nz q.den_nz) (by rw [← den2]; exact bd_mono (bd_mul hp.dn hq.dn))
  have dd := den2 p q
  decreasing_trivial
  rw [Rat.mul_def' p q]
  rfl
end K05

namespace K05
open PySem PySem.Spec L2 Tv
local macro_rules | `(tactic| get_elem_tactic_extensible) => `(tactic| simp only [v_var, v_varB, v_c, v_op, v_un, v_nil, v_cons, v_tup, v_lst, v_test, v_and, v_or, v_not, v_if, v_andV, v_orV, v_notV, v_chain, v_call, v_callF, v_callV, v_isi, v_slice, v_comp, unowned, List.all_cons, List.all_nil, wipeR, and_true, true_and, and_false, false_and, Int.cast_ofNat_Int, v_part, v_noPart, v_fld, v_yes, v_seqI, v_rng1, v_rng2, v_enumI, v_zipI, v_next, v_seq, v_set, v_setO, v_drop, v_ret, v_retN, v_brk, v_cnt, v_ifS, v_frz, v_while, v_for, v_meth, v_setIx, v_cell, v_aug, v_pt, v_par, v_setF, v_fun, v_raise, v_told, v_lamV, v_callL, v_newC, v_setIxE, w_setCell, w_tupC, w_isNotB, w_ix30, w_ix31, w_ix32, w_ixL30, w_ixL31, w_ixL32, w_ixL20, w_ixL21, v_ne_ok, v_loopF_nil, v_compF_nil,
  w_add, Tv.w_sub, w_lt, w_le, w_gt, w_ge, w_neg, w_eqI, w_neI, w_eqB, w_neB, w_is, w_isNot, w_ix20, w_ix21, w_lenT, w_lenL, w_lenZ, w_abs, w_int, w_min, w_max, w_tupT, w_tupL, w_tupZ, kT_int, kT_bl, kT_non, kT_str, kT_tup, kT_lst, k2, Tv.isNon, Pt.run, Pts.run, setM, ownL, baseOk, seqV,
  List.map_cons, List.map_nil, List.cons_append, List.nil_append, List.append_nil, List.replicate_zero, List.replicate_succ, List.length_cons, List.length_nil, List.getElem?_cons_zero, List.getElem?_cons_succ, List.getElem?_nil, List.set_cons_zero, List.set_cons_succ, List.set_nil, Option.some.injEq, ↓reduceIte, reduceCtorEq, decide_true, decide_false, decide_eq_true_eq, Bool.not_true, Bool.not_false, Bool.false_eq_true, Bool.and_true, Bool.true_and, Bool.or_false, Bool.false_or, Bool.or_true, Bool.true_or, Bool.and_false, Bool.false_and, if_true, if_false, String.reduceEq, or_false, or_true, false_or, true_or, Int.reduceLE, Int.reduceLT, Int.reduceNeg, Int.reduceToNat, Int.reduceAdd, Nat.reduceAdd, Nat.reduceLT, Int.reduceSub, Int.reduceMul, Int.reduceEq, Nat.reduceEqDiff, Int.zero_sub, BEq.rfl])
local macro_rules | `(tactic| decreasing_trivial) => `(tactic| simp only [v_var, v_varB, v_c, v_op, v_un, v_nil, v_cons, v_tup, v_lst, v_test, v_and, v_or, v_not, v_if, v_andV, v_orV, v_notV, v_chain, v_call, v_callF, v_callV, v_isi, v_slice, v_comp, unowned, List.all_cons, List.all_nil, wipeR, and_true, true_and, and_false, false_and, Int.cast_ofNat_Int, v_part, v_noPart, v_fld, v_yes, v_seqI, v_rng1, v_rng2, v_enumI, v_zipI, v_next, v_seq, v_set, v_setO, v_drop, v_ret, v_retN, v_brk, v_cnt, v_ifS, v_frz, v_while, v_for, v_meth, v_setIx, v_cell, v_aug, v_pt, v_par, v_setF, v_fun, v_raise, v_told, v_lamV, v_callL, v_newC, v_setIxE, w_setCell, w_tupC, w_isNotB, w_ix30, w_ix31, w_ix32, w_ixL30, w_ixL31, w_ixL32, w_ixL20, w_ixL21, v_ne_ok, v_loopF_nil, v_compF_nil,
  w_add, Tv.w_sub, w_lt, w_le, w_gt, w_ge, w_neg, w_eqI, w_neI, w_eqB, w_neB, w_is, w_isNot, w_ix20, w_ix21, w_lenT, w_lenL, w_lenZ, w_abs, w_int, w_min, w_max, w_tupT, w_tupL, w_tupZ, kT_int, kT_bl, kT_non, kT_str, kT_tup, kT_lst, k2, Tv.isNon, Pt.run, Pts.run, setM, ownL, baseOk, seqV,
  List.map_cons, List.map_nil, List.cons_append, List.nil_append, List.append_nil, List.replicate_zero, List.replicate_succ, List.length_cons, List.length_nil, List.getElem?_cons_zero, List.getElem?_cons_succ, List.getElem?_nil, List.set_cons_zero, List.set_cons_succ, List.set_nil, Option.some.injEq, ↓reduceIte, reduceCtorEq, decide_true, decide_false, decide_eq_true_eq, Bool.not_true, Bool.not_false, Bool.false_eq_true, Bool.and_true, Bool.true_and, Bool.or_false, Bool.false_or, Bool.or_true, Bool.true_or, Bool.and_false, Bool.false_and, if_true, if_false, String.reduceEq, or_false, or_true, false_or, true_or, Int.reduceLE, Int.reduceLT, Int.reduceNeg, Int.reduceToNat, Int.reduceAdd, Nat.reduceAdd, Nat.reduceLT, Int.reduceSub, Int.reduceMul, Int.reduceEq, Nat.reduceEqDiff, Int.zero_sub, BEq.rfl, *])

/-! ### draws -/
abbrev rowD (ns : List Int) (i : Nat) (a b : Int) : D := .lst [scr ns, .int i, .int a, .int b]
abbrev stD (ns : List Int) (i : Nat) (a b : Int) (r : S) : S := .tab 0 :: .tab 1 :: rowD ns i a b :: r
/-- the store while the law draws -/
def Rw (ns : List Int) (s : S) : Prop := ∃ (i : Nat) (a b : Int) (r : S), s = stD ns i a b r ∧ bd 40 a
theorem ixF {ns : List Int} {i : Int} {z : Int} {s : S} (h : atI (ns.map D.int) i = some (.int z)) : gIx (scr ns) (.int i) s = .ok (.int z) s := by
  show (match atI (ns.map D.int) i with | some d => R.ok d s | none => R.no) = _
  rw [h]
theorem t_taken {ns : List Int} {s : S} {m : Int} {k : Nat} (h : Rw ns s) (hm : 0 < m) (hb : bd k m) (hk : k ≤ 8000 := by omega) : ∃ (v : Int) (s' : S), F__law_taken [.cell 2, .int m] s = .ok (.int v) s' ∧ 0 ≤ v ∧ v < m ∧ Rw ns s' := by
  obtain ⟨i, a, b, r, rfl, ha⟩ := h
  have g0 : ∀ (i a b : Int), gIx (.cell 2) (.int 0) (.tab 0 :: .tab 1 :: .lst [scr ns, .int i, .int a, .int b] :: r) = .ok (scr ns) (.tab 0 :: .tab 1 :: .lst [scr ns, .int i, .int a, .int b] :: r) := fun _ _ _ => rfl
  have g1 : ∀ (i a b : Int), gIx (.cell 2) (.int 1) (.tab 0 :: .tab 1 :: .lst [scr ns, .int i, .int a, .int b] :: r) = .ok (.int i) (.tab 0 :: .tab 1 :: .lst [scr ns, .int i, .int a, .int b] :: r) := fun _ _ _ => rfl
  have g2 : ∀ (i a b : Int), gIx (.cell 2) (.int 2) (.tab 0 :: .tab 1 :: .lst [scr ns, .int i, .int a, .int b] :: r) = .ok (.int a) (.tab 0 :: .tab 1 :: .lst [scr ns, .int i, .int a, .int b] :: r) := fun _ _ _ => rfl
  have g3 : ∀ (i a b : Int), gIx (.cell 2) (.int 3) (.tab 0 :: .tab 1 :: .lst [scr ns, .int i, .int a, .int b] :: r) = .ok (.int b) (.tab 0 :: .tab 1 :: .lst [scr ns, .int i, .int a, .int b] :: r) := fun _ _ _ => rfl
  have p1 : ∀ (x y i a b : Int) (t u : SD), setIx 0 1 (.int x) [.v (.cell 2), .v (.int y), t, u] (.tab 0 :: .tab 1 :: .lst [scr ns, .int i, .int a, .int b] :: r) = .nx [.v (.cell 2), .v (.int y), t, u] (.tab 0 :: .tab 1 :: .lst [scr ns, .int x, .int a, .int b] :: r) := fun _ _ _ _ _ _ _ => rfl
  have p2 : ∀ (x y i a b : Int) (t u : SD), setIx 0 2 (.int x) [.v (.cell 2), .v (.int y), t, u] (.tab 0 :: .tab 1 :: .lst [scr ns, .int i, .int a, .int b] :: r) = .nx [.v (.cell 2), .v (.int y), t, u] (.tab 0 :: .tab 1 :: .lst [scr ns, .int i, .int x, .int b] :: r) := fun _ _ _ _ _ _ _ => rfl
  have p3 : ∀ (x y i a b : Int) (t u : SD), setIx 0 3 (.int x) [.v (.cell 2), .v (.int y), t, u] (.tab 0 :: .tab 1 :: .lst [scr ns, .int i, .int a, .int b] :: r) = .nx [.v (.cell 2), .v (.int y), t, u] (.tab 0 :: .tab 1 :: .lst [scr ns, .int i, .int a, .int x] :: r) := fun _ _ _ _ _ _ _ => rfl
  have dv : ∀ (x : Int) (s : S), gDiv (.int x) (.int m) s = .ok (.int (x / m)) s := fun x s => divI hb hm
  have md : ∀ (x : Int) (s : S), gMod (.int x) (.int m) s = .ok (.int (x % m)) s := fun x s => w_mod hm
  have mM : ∀ (x : Int) (s : S), gMod (.int x) (.int 2147483647) s = .ok (.int (x % 2147483647)) s := fun x s => w_mod (by omega)
  have mT : ∀ (x : Int) (s : S), gMod (.int x) (.int 1000003) s = .ok (.int (x % 1000003)) s := fun x s => w_mod (by omega)
  have d7 : ∀ (x : Int) (s : S), gDiv (.int x) (.int 7) s = .ok (.int (x / 7)) s := fun x s => divI (a := 10) bd_small (by omega)
  have d11 : ∀ (x : Int) (s : S), gDiv (.int x) (.int 11) s = .ok (.int (x / 11)) s := fun x s => divI (a := 10) bd_small (by omega)
  have lo : ∀ x : Int, 0 ≤ x % m := fun x => Int.emod_nonneg x (by omega)
  have hi : ∀ x : Int, x % m < m := fun x => Int.emod_lt_of_pos x hm
  have mu : ∀ s : S, gMul (.int a) (.int 48271) s = .ok (.int (a * 48271)) s := fun s => mulI ha (b := 20) (show (48271 : Int).natAbs < 2 ^ 20 by decide)
  have m31 : ∀ (x : Int) (s : S), gMul (.int (x % 1000003)) (.int 31) s = .ok (.int (x % 1000003 * 31)) s := fun x s => mulI (a := 20) (b := 10) (by
    have h1 : 0 ≤ x % 1000003 := Int.emod_nonneg x (by omega)
    have h2 : x % 1000003 < 1000003 := Int.emod_lt_of_pos x (by omega)
    show (x % 1000003).natAbs < 2 ^ 20
    have e : (2 : Nat) ^ 20 = 1048576 := by decide
    omega) bd_small
  have pw : ∀ s : S, gPow (.int 10) (.int 18) s = .ok (.int 1000000000000000000) s := fun s => by
    show (if (0 : Int) ≤ 18 ∧ (18 : Int) ≤ 1000000 ∧ (10 : Int).natAbs < 2 ^ 64 then R.ok (D.int (10 ^ (18 : Int).toNat)) s else R.no) = _
    rw [if_pos (by decide)]
    rfl
  have newa : ∀ x : Int, bd 40 (x % 2147483647) := fun x => by
    have h1 : 0 ≤ x % 2147483647 := Int.emod_nonneg x (by omega)
    have h2 : x % 2147483647 < 2147483647 := Int.emod_lt_of_pos x (by omega)
    show (x % 2147483647).natAbs < 2 ^ 40
    have e : (2 : Nat) ^ 40 = 1099511627776 := by decide
    omega
  have fl : gLen [scr ns] = fun s => .ok (.int (ns.length : Nat)) s := by
    funext s
    show R.ok (D.int ((ns.map D.int).length : Nat)) s = _
    rw [List.length_map]
  have fl' : ∀ s : S, gLen [scr ns] s = .ok (.int (ns.length : Nat)) s := fun s => by rw [fl]
  clear fl
  by_cases h3 : 0 < b
  · refine ⟨b % m, (.tab 0 :: .tab 1 :: .lst [scr ns, .int i, .int a, .int (b / m)] :: r), ?_, lo _, hi _, i, a, b / m, r, rfl, ha⟩
    unfold F__law_taken b__law_taken
    clear newa lo hi
    decreasing_trivial
  · by_cases h4 : (ns.length : Int) < (i : Int) + 1
    · refine ⟨(a * 48271 + 11) % 2147483647 / 7 % m, (.tab 0 :: .tab 1 :: .lst [scr ns, .int (i + 1 : Nat), .int ((a * 48271 + 11) % 2147483647), .int b] :: r), ?_, lo _, hi _, i + 1, _, b, r, rfl, newa _⟩
      unfold F__law_taken b__law_taken
      clear newa lo hi
      decreasing_trivial
      rfl
    · have hlt : i < ns.length := by omega
      have hz : atI (ns.map D.int) ((i : Int) + 1 - 1) = some (.int ns[i]) := by
        have e : (i : Int) + 1 - 1 = (i : Int) := by omega
        rw [e, Tv.atI_nat, List.getElem?_map, List.getElem?_eq_getElem hlt]
        rfl
      have gz : ∀ s : S, gIx (scr ns) (.int ((i : Int) + 1 - 1)) s = .ok (.int ns[i]) s := fun s => ixF hz
      generalize ns[i] = z at *
      by_cases h5 : (1000000000000000000 : Int) ≤ z
      · refine ⟨z % m, (.tab 0 :: .tab 1 :: .lst [scr ns, .int (i + 1 : Nat), .int ((a * 48271 + z + 11) % 2147483647), .int (z / m)] :: r), ?_, lo _, hi _, i + 1, _, _, r, rfl, newa _⟩
        unfold F__law_taken b__law_taken
        clear newa lo hi hz
        decreasing_trivial
        rfl
      · refine ⟨(z % 1000003 * 31 + (a * 48271 + z + 11) % 2147483647 / 11) % m, (.tab 0 :: .tab 1 :: .lst [scr ns, .int (i + 1 : Nat), .int ((a * 48271 + z + 11) % 2147483647), .int b] :: r), ?_, lo _, hi _, i + 1, _, b, r, rfl, newa _⟩
        unfold F__law_taken b__law_taken
        clear newa lo hi hz
        decreasing_trivial
        rfl
theorem t_pick {ns : List Int} {s : S} {ds : List D} (h : Rw ns s) (h0 : ds ≠ []) (hl : ds.length ≤ 1000) : ∃ (d : D) (s' : S), F__law_pick [.cell 2, .lst ds] s = .ok d s' ∧ d ∈ ds ∧ Rw ns s' := by
  have hp : 0 < ds.length := List.length_pos_iff.mpr h0
  obtain ⟨v, s', e, v0, v1, r⟩ := t_taken (m := (ds.length : Nat)) (k := 10) h (by omega) (by show ((ds.length : Nat) : Int).natAbs < 2 ^ 10; rw [Int.natAbs_natCast]; omega)
  obtain ⟨j, rfl⟩ : ∃ j : Nat, v = (j : Int) := ⟨v.toNat, by omega⟩
  have hj : j < ds.length := by omega
  refine ⟨ds[j], s', ?_, List.getElem_mem hj, r⟩
  have gz : ∀ s : S, gIx (.lst ds) (.int (j : Int)) s = .ok ds[j] s := fun s => ixL (by rw [Tv.atI_nat, List.getElem?_eq_getElem hj])
  unfold F__law_pick b__law_pick
  clear h v0 v1 r hp hl
  decreasing_trivial
end K05

namespace K05
open PySem PySem.Spec L2 Tv
local macro_rules | `(tactic| get_elem_tactic_extensible) => `(tactic| simp only [v_var, v_varB, v_c, v_op, v_un, v_nil, v_cons, v_tup, v_lst, v_test, v_and, v_or, v_not, v_if, v_andV, v_orV, v_notV, v_chain, v_call, v_callF, v_callV, v_isi, v_slice, v_comp, unowned, List.all_cons, List.all_nil, wipeR, and_true, true_and, and_false, false_and, Int.cast_ofNat_Int, v_part, v_noPart, v_fld, v_yes, v_seqI, v_rng1, v_rng2, v_enumI, v_zipI, v_next, v_seq, v_set, v_setO, v_drop, v_ret, v_retN, v_brk, v_cnt, v_ifS, v_frz, v_while, v_for, v_meth, v_setIx, v_cell, v_aug, v_pt, v_par, v_setF, v_fun, v_raise, v_told, v_lamV, v_callL, v_newC, v_setIxE, w_setCell, w_tupC, w_isNotB, w_ix30, w_ix31, w_ix32, w_ixL30, w_ixL31, w_ixL32, w_ixL20, w_ixL21, v_ne_ok, v_loopF_nil, v_compF_nil,
  w_add, Tv.w_sub, w_lt, w_le, w_gt, w_ge, w_neg, w_eqI, w_neI, w_eqB, w_neB, w_is, w_isNot, w_ix20, w_ix21, w_lenT, w_lenL, w_lenZ, w_abs, w_int, w_min, w_max, w_tupT, w_tupL, w_tupZ, kT_int, kT_bl, kT_non, kT_str, kT_tup, kT_lst, k2, Tv.isNon, Pt.run, Pts.run, setM, ownL, baseOk, seqV,
  List.map_cons, List.map_nil, List.cons_append, List.nil_append, List.append_nil, List.replicate_zero, List.replicate_succ, List.length_cons, List.length_nil, List.getElem?_cons_zero, List.getElem?_cons_succ, List.getElem?_nil, List.set_cons_zero, List.set_cons_succ, List.set_nil, Option.some.injEq, ↓reduceIte, reduceCtorEq, decide_true, decide_false, decide_eq_true_eq, Bool.not_true, Bool.not_false, Bool.false_eq_true, Bool.and_true, Bool.true_and, Bool.or_false, Bool.false_or, Bool.or_true, Bool.true_or, Bool.and_false, Bool.false_and, if_true, if_false, String.reduceEq, or_false, or_true, false_or, true_or, Int.reduceLE, Int.reduceLT, Int.reduceNeg, Int.reduceToNat, Int.reduceAdd, Nat.reduceAdd, Nat.reduceLT, Int.reduceSub, Int.reduceMul, Int.reduceEq, Nat.reduceEqDiff, Int.zero_sub, BEq.rfl])
local macro_rules | `(tactic| decreasing_trivial) => `(tactic| simp only [v_var, v_varB, v_c, v_op, v_un, v_nil, v_cons, v_tup, v_lst, v_test, v_and, v_or, v_not, v_if, v_andV, v_orV, v_notV, v_chain, v_call, v_callF, v_callV, v_isi, v_slice, v_comp, unowned, List.all_cons, List.all_nil, wipeR, and_true, true_and, and_false, false_and, Int.cast_ofNat_Int, v_part, v_noPart, v_fld, v_yes, v_seqI, v_rng1, v_rng2, v_enumI, v_zipI, v_next, v_seq, v_set, v_setO, v_drop, v_ret, v_retN, v_brk, v_cnt, v_ifS, v_frz, v_while, v_for, v_meth, v_setIx, v_cell, v_aug, v_pt, v_par, v_setF, v_fun, v_raise, v_told, v_lamV, v_callL, v_newC, v_setIxE, w_setCell, w_tupC, w_isNotB, w_ix30, w_ix31, w_ix32, w_ixL30, w_ixL31, w_ixL32, w_ixL20, w_ixL21, v_ne_ok, v_loopF_nil, v_compF_nil,
  w_add, Tv.w_sub, w_lt, w_le, w_gt, w_ge, w_neg, w_eqI, w_neI, w_eqB, w_neB, w_is, w_isNot, w_ix20, w_ix21, w_lenT, w_lenL, w_lenZ, w_abs, w_int, w_min, w_max, w_tupT, w_tupL, w_tupZ, kT_int, kT_bl, kT_non, kT_str, kT_tup, kT_lst, k2, Tv.isNon, Pt.run, Pts.run, setM, ownL, baseOk, seqV,
  List.map_cons, List.map_nil, List.cons_append, List.nil_append, List.append_nil, List.replicate_zero, List.replicate_succ, List.length_cons, List.length_nil, List.getElem?_cons_zero, List.getElem?_cons_succ, List.getElem?_nil, List.set_cons_zero, List.set_cons_succ, List.set_nil, Option.some.injEq, ↓reduceIte, reduceCtorEq, decide_true, decide_false, decide_eq_true_eq, Bool.not_true, Bool.not_false, Bool.false_eq_true, Bool.and_true, Bool.true_and, Bool.or_false, Bool.false_or, Bool.or_true, Bool.true_or, Bool.and_false, Bool.false_and, if_true, if_false, String.reduceEq, or_false, or_true, false_or, true_or, Int.reduceLE, Int.reduceLT, Int.reduceNeg, Int.reduceToNat, Int.reduceAdd, Nat.reduceAdd, Nat.reduceLT, Int.reduceSub, Int.reduceMul, Int.reduceEq, Nat.reduceEqDiff, Int.zero_sub, BEq.rfl, *])

/-! ### points and squares -/
structure V3 where
  x : Rat
  y : Rat
  z : Rat
  deriving DecidableEq
structure M3 where
  a : V3
  b : V3
  c : V3
  deriving DecidableEq
structure P3 where
  m : M3
  t : V3
def dV (v : V3) : D := .tup [fr v.x, fr v.y, fr v.z]
def dM (m : M3) : D := .tup [dV m.a, dV m.b, dV m.c]
def dP (p : P3) : D := .tup [dM p.m, dV p.t]
structure BdV (n d : Nat) (v : V3) : Prop where
  x : Bd n d v.x
  y : Bd n d v.y
  z : Bd n d v.z
structure BdM (n d : Nat) (m : M3) : Prop where
  a : BdV n d m.a
  b : BdV n d m.b
  c : BdV n d m.c
theorem BdV.mono {a b c e : Nat} {v : V3} (h : BdV a c v) (e1 : a ≤ b := by omega) (e2 : c ≤ e := by omega) : BdV b e v := ⟨h.x.mono e1 e2, h.y.mono e1 e2, h.z.mono e1 e2⟩
theorem BdM.mono {a b c e : Nat} {v : M3} (h : BdM a c v) (e1 : a ≤ b := by omega) (e2 : c ≤ e := by omega) : BdM b e v := ⟨h.a.mono e1 e2, h.b.mono e1 e2, h.c.mono e1 e2⟩
theorem Bd0 {n d : Nat} (hd : 1 ≤ d := by omega) : Bd n d 0 := ⟨by show (0 : Int).natAbs < 2 ^ n; exact Nat.two_pow_pos n, by show 1 < 2 ^ d; exact Nat.one_lt_two_pow (by omega)⟩
theorem Bd1 {n d : Nat} (hn : 1 ≤ n := by omega) (hd : 1 ≤ d := by omega) : Bd n d 1 := ⟨by show 1 < 2 ^ n; exact Nat.one_lt_two_pow (by omega), by show 1 < 2 ^ d; exact Nat.one_lt_two_pow (by omega)⟩
theorem rng3 : rngD 0 3 = [.int 0, .int 1, .int 2] := rfl
theorem rng4 : rngD 0 4 = [.int 0, .int 1, .int 2, .int 3] := rfl
theorem rok3 : rngOk 3 = true := by decide
theorem rok4 : rngOk 4 = true := by decide
/-! ### drawn fractions -/
theorem t_small {ns : List Int} {s : S} (h : Rw ns s) : ∃ (t : Rat) (s' : S), F__law_small [.cell 2] s = .ok (fr t) s' ∧ Bd 11 6 t ∧ Rw ns s' := by
  obtain ⟨d1, s1, e1, m1, r1⟩ := t_pick (ds := [.int 3, .int 9, .int 2001]) h (by simp) (by simp)
  obtain ⟨m, rfl, hm⟩ : ∃ m : Int, d1 = .int m ∧ 1 ≤ m ∧ m ≤ 2001 := by
    simp only [List.mem_cons, List.not_mem_nil, or_false] at m1
    rcases m1 with rfl | rfl | rfl
    · exact ⟨_, rfl, by omega⟩
    · exact ⟨_, rfl, by omega⟩
    · exact ⟨_, rfl, by omega⟩
  obtain ⟨v, s2, e2, v0, v1, r2⟩ := t_taken (m := m) (k := 11) r1 (by omega) (by show m.natAbs < 2 ^ 11; omega)
  obtain ⟨d2, s3, e3, m3, r3⟩ := t_pick (ds := [.int 0, .int 1, .int 4, .int 1000]) r2 (by simp) (by simp)
  obtain ⟨w, rfl, hw⟩ : ∃ m : Int, d2 = .int m ∧ 0 ≤ m ∧ m ≤ 1000 := by
    simp only [List.mem_cons, List.not_mem_nil, or_false] at m3
    rcases m3 with rfl | rfl | rfl | rfl
    · exact ⟨_, rfl, by omega⟩
    · exact ⟨_, rfl, by omega⟩
    · exact ⟨_, rfl, by omega⟩
    · exact ⟨_, rfl, by omega⟩
  obtain ⟨d3, s4, e4, m4, r4⟩ := t_pick (ds := [.int 1, .int 3, .int 50]) r3 (by simp) (by simp)
  obtain ⟨u, rfl, hu⟩ : ∃ m : Int, d3 = .int m ∧ 1 ≤ m ∧ m ≤ 50 := by
    simp only [List.mem_cons, List.not_mem_nil, or_false] at m4
    rcases m4 with rfl | rfl | rfl
    · exact ⟨_, rfl, by omega⟩
    · exact ⟨_, rfl, by omega⟩
    · exact ⟨_, rfl, by omega⟩
  obtain ⟨b, s5, e5, b0, b1, r5⟩ := t_taken (m := u) (k := 10) r4 (by omega) (bd_small (by omega))
  obtain ⟨n, hn⟩ : ∃ n : Nat, (n : Int) = 1 + b := ⟨(1 + b).toNat, by omega⟩
  have bn : bd 6 (n : Int) := by
    show Int.natAbs _ < 2 ^ 6
    omega
  have bt : bd 11 (v - w) := by
    show Int.natAbs _ < 2 ^ 11
    omega
  have e6 := fun s => t_lfrac (n := v - w) (d := n) (s := s) (by omega) (bd_mono bn)
  refine ⟨mkRat (v - w) n, s5, ?_, Bd_mk (by omega) bt bn, r5⟩
  have hn' := hn.symm
  clear hn
  unfold F__law_small b__law_small
  clear bn bt h m1 m3 m4 hm hw hu r1 r2 r3 r4 r5 v0 v1 b0 b1
  decreasing_trivial
theorem t_level {ns : List Int} {s : S} (h : Rw ns s) : ∃ (t : Rat) (s' : S), F__law_level [.cell 2] s = .ok (fr t) s' ∧ Bd 13 6 t ∧ Rw ns s' := by
  obtain ⟨d1, s1, e1, m1, r1⟩ := t_pick (ds := [.int 1, .int 4, .int 30]) h (by simp) (by simp)
  obtain ⟨m, rfl, hm⟩ : ∃ m : Int, d1 = .int m ∧ 1 ≤ m ∧ m ≤ 30 := by
    simp only [List.mem_cons, List.not_mem_nil, or_false] at m1
    rcases m1 with rfl | rfl | rfl
    · exact ⟨_, rfl, by omega⟩
    · exact ⟨_, rfl, by omega⟩
    · exact ⟨_, rfl, by omega⟩
  obtain ⟨v, s2, e2, v0, v1, r2⟩ := t_taken (m := m) (k := 10) r1 (by omega) (bd_small (by omega))
  obtain ⟨n, hn⟩ : ∃ n : Nat, (n : Int) = 1 + v := ⟨(1 + v).toNat, by omega⟩
  have c13 : (2 : Nat) ^ 13 = 8192 := by decide
  have b1 : bd 13 (255 * (n : Int) + 1) := by
    show Int.natAbs _ < 2 ^ 13
    omega
  obtain ⟨k1, s3, e3, k10, k11, r3⟩ := t_taken (m := 255 * (n : Int) + 1) (k := 13) r2 (by omega) b1
  obtain ⟨k2, s4, e4, k20, k21, r4⟩ := t_taken (m := 255 * (n : Int) + 1) (k := 13) r3 (by omega) b1
  have e5 : ∀ s, gMul (.int 255) (.int (n : Int)) s = .ok (.int (255 * (n : Int))) s := fun s => mulI (a := 10) (b := 10) bd_small (bd_small (by omega))
  have bn : bd 6 (n : Int) := by
    show Int.natAbs _ < 2 ^ 6
    omega
  have e6 := fun k s => t_lfrac (n := k) (d := n) (s := s) (by omega) (bd_mono bn)
  have lv : ∀ k : Int, 0 ≤ k → k < 255 * (n : Int) + 1 → Bd 13 6 (mkRat k n) := fun k g0 g1 => by
    refine Bd_mk (by omega) ?_ bn
    show Int.natAbs _ < 2 ^ 13
    omega
  obtain ⟨d, s5, e7, m7, r5⟩ := t_pick (ds := [.tup [.int 0, .int 1], .tup [.int 255, .int 1], fr (mkRat k1 n), fr (mkRat k2 n)]) r4 (by simp) (by simp)
  obtain ⟨t, rfl, ht⟩ : ∃ t : Rat, d = fr t ∧ Bd 13 6 t := by
    simp only [List.mem_cons, List.not_mem_nil, or_false] at m7
    rcases m7 with rfl | rfl | rfl | rfl
    · exact ⟨0, rfl, Bd0⟩
    · exact ⟨((255 : Int) : Rat), (fr_int 255).symm, Bd_int (by show 255 < 2 ^ 13; omega)⟩
    · exact ⟨_, rfl, lv k1 k10 k11⟩
    · exact ⟨_, rfl, lv k2 k20 k21⟩
  refine ⟨t, s5, ?_, ht, r5⟩
  have hn' := hn.symm
  clear hn
  unfold F__law_level b__law_level
  clear lv bn b1 c13 ht m7 m1 hm h r1 r2 r3 r4 r5 v0 v1 k10 k11 k20 k21
  decreasing_trivial
theorem t_colpart {ns : List Int} {s : S} {k : D} (h : Rw ns s) : ∃ (t : Rat) (s' : S), e__law_colour_1 [.v (.cell 2), .v k] s = .ok (fr t) s' ∧ Bd 13 6 t ∧ Rw ns s' := by
  obtain ⟨t1, s1, e1, b1, r1⟩ := t_small h
  obtain ⟨t2, s2, e2, b2, r2⟩ := t_level r1
  obtain ⟨d, s3, e3, m3, r3⟩ := t_pick (ds := [.tup [.int 0, .int 1], fr t1, fr t2]) r2 (by simp) (by simp)
  obtain ⟨t, rfl, ht⟩ : ∃ t : Rat, d = fr t ∧ Bd 13 6 t := by
    simp only [List.mem_cons, List.not_mem_nil, or_false] at m3
    rcases m3 with rfl | rfl | rfl
    · exact ⟨0, rfl, Bd0⟩
    · exact ⟨_, rfl, b1.mono⟩
    · exact ⟨_, rfl, b2⟩
  refine ⟨t, s3, ?_, ht, r3⟩
  unfold e__law_colour_1
  clear m3 ht b1 b2 r1 r2 r3 h
  decreasing_trivial
theorem t_colour {ns : List Int} {s : S} (h : Rw ns s) : ∃ (v : V3) (s' : S), F__law_colour [.cell 2] s = .ok (dV v) s' ∧ BdV 13 6 v ∧ Rw ns s' := by
  obtain ⟨t1, s1, e1, b1, r1⟩ := t_colpart (k := .int 0) h
  obtain ⟨t2, s2, e2, b2, r2⟩ := t_colpart (k := .int 1) r1
  obtain ⟨t3, s3, e3, b3, r3⟩ := t_colpart (k := .int 2) r2
  refine ⟨⟨t1, t2, t3⟩, s3, ?_, ⟨b1, b2, b3⟩, r3⟩
  unfold F__law_colour b__law_colour dV
  have g1 := rng3
  have g2 := rok3
  have hz : (3 ≤ sizeLine) = True := eq_true (size_ok (by omega))
  clear b1 b2 b3 r1 r2 r3 h
  decreasing_trivial
  simp only [v_compF]
  decreasing_trivial
end K05

namespace K05
open PySem PySem.Spec L2 Tv
local macro_rules | `(tactic| get_elem_tactic_extensible) => `(tactic| simp only [v_var, v_varB, v_c, v_op, v_un, v_nil, v_cons, v_tup, v_lst, v_test, v_and, v_or, v_not, v_if, v_andV, v_orV, v_notV, v_chain, v_call, v_callF, v_callV, v_isi, v_slice, v_comp, unowned, List.all_cons, List.all_nil, wipeR, and_true, true_and, and_false, false_and, Int.cast_ofNat_Int, v_part, v_noPart, v_fld, v_yes, v_seqI, v_rng1, v_rng2, v_enumI, v_zipI, v_next, v_seq, v_set, v_setO, v_drop, v_ret, v_retN, v_brk, v_cnt, v_ifS, v_frz, v_while, v_for, v_meth, v_setIx, v_cell, v_aug, v_pt, v_par, v_setF, v_fun, v_raise, v_told, v_lamV, v_callL, v_newC, v_setIxE, w_setCell, w_tupC, w_isNotB, w_ix30, w_ix31, w_ix32, w_ixL30, w_ixL31, w_ixL32, w_ixL20, w_ixL21, v_ne_ok, v_loopF_nil, v_compF_nil,
  w_add, Tv.w_sub, w_lt, w_le, w_gt, w_ge, w_neg, w_eqI, w_neI, w_eqB, w_neB, w_is, w_isNot, w_ix20, w_ix21, w_lenT, w_lenL, w_lenZ, w_abs, w_int, w_min, w_max, w_tupT, w_tupL, w_tupZ, kT_int, kT_bl, kT_non, kT_str, kT_tup, kT_lst, k2, Tv.isNon, Pt.run, Pts.run, setM, ownL, baseOk, seqV,
  List.map_cons, List.map_nil, List.cons_append, List.nil_append, List.append_nil, List.replicate_zero, List.replicate_succ, List.length_cons, List.length_nil, List.getElem?_cons_zero, List.getElem?_cons_succ, List.getElem?_nil, List.set_cons_zero, List.set_cons_succ, List.set_nil, Option.some.injEq, ↓reduceIte, reduceCtorEq, decide_true, decide_false, decide_eq_true_eq, Bool.not_true, Bool.not_false, Bool.false_eq_true, Bool.and_true, Bool.true_and, Bool.or_false, Bool.false_or, Bool.or_true, Bool.true_or, Bool.and_false, Bool.false_and, if_true, if_false, String.reduceEq, or_false, or_true, false_or, true_or, Int.reduceLE, Int.reduceLT, Int.reduceNeg, Int.reduceToNat, Int.reduceAdd, Nat.reduceAdd, Nat.reduceLT, Int.reduceSub, Int.reduceMul, Int.reduceEq, Nat.reduceEqDiff, Int.zero_sub, BEq.rfl])
local macro_rules | `(tactic| decreasing_trivial) => `(tactic| simp only [v_var, v_varB, v_c, v_op, v_un, v_nil, v_cons, v_tup, v_lst, v_test, v_and, v_or, v_not, v_if, v_andV, v_orV, v_notV, v_chain, v_call, v_callF, v_callV, v_isi, v_slice, v_comp, unowned, List.all_cons, List.all_nil, wipeR, and_true, true_and, and_false, false_and, Int.cast_ofNat_Int, v_part, v_noPart, v_fld, v_yes, v_seqI, v_rng1, v_rng2, v_enumI, v_zipI, v_next, v_seq, v_set, v_setO, v_drop, v_ret, v_retN, v_brk, v_cnt, v_ifS, v_frz, v_while, v_for, v_meth, v_setIx, v_cell, v_aug, v_pt, v_par, v_setF, v_fun, v_raise, v_told, v_lamV, v_callL, v_newC, v_setIxE, w_setCell, w_tupC, w_isNotB, w_ix30, w_ix31, w_ix32, w_ixL30, w_ixL31, w_ixL32, w_ixL20, w_ixL21, v_ne_ok, v_loopF_nil, v_compF_nil,
  w_add, Tv.w_sub, w_lt, w_le, w_gt, w_ge, w_neg, w_eqI, w_neI, w_eqB, w_neB, w_is, w_isNot, w_ix20, w_ix21, w_lenT, w_lenL, w_lenZ, w_abs, w_int, w_min, w_max, w_tupT, w_tupL, w_tupZ, kT_int, kT_bl, kT_non, kT_str, kT_tup, kT_lst, k2, Tv.isNon, Pt.run, Pts.run, setM, ownL, baseOk, seqV,
  List.map_cons, List.map_nil, List.cons_append, List.nil_append, List.append_nil, List.replicate_zero, List.replicate_succ, List.length_cons, List.length_nil, List.getElem?_cons_zero, List.getElem?_cons_succ, List.getElem?_nil, List.set_cons_zero, List.set_cons_succ, List.set_nil, Option.some.injEq, ↓reduceIte, reduceCtorEq, decide_true, decide_false, decide_eq_true_eq, Bool.not_true, Bool.not_false, Bool.false_eq_true, Bool.and_true, Bool.true_and, Bool.or_false, Bool.false_or, Bool.or_true, Bool.true_or, Bool.and_false, Bool.false_and, if_true, if_false, String.reduceEq, or_false, or_true, false_or, true_or, Int.reduceLE, Int.reduceLT, Int.reduceNeg, Int.reduceToNat, Int.reduceAdd, Nat.reduceAdd, Nat.reduceLT, Int.reduceSub, Int.reduceMul, Int.reduceEq, Nat.reduceEqDiff, Int.zero_sub, BEq.rfl, *])

/-! ### drawn maps -/
theorem t_row3 {ns : List Int} {s : S} {k : D} (h : Rw ns s) : ∃ (v : V3) (s' : S), e__law_map_2 [.v (.cell 2), .un, .un, .v k, .un, .un] s = .ok (dV v) s' ∧ BdV 11 6 v ∧ Rw ns s' := by
  obtain ⟨t1, s1, e1, b1, r1⟩ := t_small h
  obtain ⟨t2, s2, e2, b2, r2⟩ := t_small r1
  obtain ⟨t3, s3, e3, b3, r3⟩ := t_small r2
  refine ⟨⟨t1, t2, t3⟩, s3, ?_, ⟨b1, b2, b3⟩, r3⟩
  unfold e__law_map_2 e__law_map_1 dV
  have g1 := rng3
  have g2 := rok3
  have hz : (3 ≤ sizeLine) = True := eq_true (size_ok (by omega))
  clear b1 b2 b3 r1 r2 r3 h
  decreasing_trivial
  simp only [v_compF]
  decreasing_trivial
theorem t_half {ns : List Int} {s : S} {q : Rat} {a b c : SD} (hq : Bd 11 6 q) (h : Rw ns s) : ∃ (t : Rat) (s' : S), e__law_map_3 [.v (.cell 2), a, b, c, .un, .v (fr q)] s = .ok (fr t) s' ∧ Bd 13 8 t ∧ Rw ns s' := by
  obtain ⟨d, s3, e3, m3, r3⟩ := t_pick (ds := [.tup [.int 2, .int 1], .tup [.int 0, .int 1], .tup [.int (-1), .int 2]]) h (by simp) (by simp)
  obtain ⟨t, rfl, ht⟩ : ∃ t : Rat, d = fr t ∧ Bd 2 2 t := by
    simp only [List.mem_cons, List.not_mem_nil, or_false] at m3
    rcases m3 with rfl | rfl | rfl
    · exact ⟨((2 : Int) : Rat), (fr_int 2).symm, Bd_int (by show 2 < 2 ^ 2; omega)⟩
    · exact ⟨0, rfl, Bd0⟩
    · refine ⟨mkRat (-1) 2, ?_, Bd_mk (by omega) (by show 1 < 2 ^ 2; omega) (by show 2 < 2 ^ 2; omega)⟩
      rfl
  have e4 := fun s => t_lmul (s := s) hq ht
  refine ⟨q * t, s3, ?_, Bd_mul hq ht, r3⟩
  unfold e__law_map_3
  clear m3 ht hq r3 h
  decreasing_trivial
theorem t_none {ns : List Int} {s : S} {q : Rat} {a b c : SD} (hq : Bd 11 6 q) (h : Rw ns s) : ∃ (t : Rat) (s' : S), e__law_map_4 [.v (.cell 2), a, b, c, .un, .v (fr q)] s = .ok (fr t) s' ∧ Bd 13 8 t ∧ Rw ns s' := by
  obtain ⟨d, s3, e3, m3, r3⟩ := t_pick (ds := [.tup [.int 0, .int 1]]) h (by simp) (by simp)
  obtain rfl : d = fr 0 := by
    simp only [List.mem_cons, List.not_mem_nil, or_false] at m3
    exact m3
  have e4 := fun s => t_lmul (s := s) hq (Bd0 (n := 2) (d := 2))
  refine ⟨q * 0, s3, ?_, (Bd_mul hq (Bd0 (n := 2) (d := 2))), r3⟩
  unfold e__law_map_4
  clear m3 hq r3 h
  decreasing_trivial
theorem t_more {ns : List Int} {s : S} {a b c d k : SD} (h : Rw ns s) : ∃ (t : Rat) (s' : S), e__law_map_5 [.v (.cell 2), a, b, c, d, k] s = .ok (fr t) s' ∧ Bd 11 6 t ∧ Rw ns s' := by
  obtain ⟨t1, s1, e1, b1, r1⟩ := t_small h
  obtain ⟨d, s3, e3, m3, r3⟩ := t_pick (ds := [.tup [.int 0, .int 1], fr t1]) r1 (by simp) (by simp)
  obtain ⟨t, rfl, ht⟩ : ∃ t : Rat, d = fr t ∧ Bd 11 6 t := by
    simp only [List.mem_cons, List.not_mem_nil, or_false] at m3
    rcases m3 with rfl | rfl
    · exact ⟨0, rfl, Bd0⟩
    · exact ⟨_, rfl, b1⟩
  refine ⟨t, s3, ?_, ht, r3⟩
  unfold e__law_map_5
  clear m3 ht b1 r1 r3 h
  decreasing_trivial
/-- behind the drawn rows: the kind's changes, the added -/
theorem t_kind {ns : List Int} {s : S} {m : M3} {j : Int} (hm : BdM 11 6 m) (h : Rw ns s) : ∃ (m' : M3) (s' : S), (∀ K : SM,
    (mSeq (mIfS (mTest (mOp gEq (mVar 2) (mC (.int 0)))) (mSetIx 1 (mC (.int 2)) (mOp gIx (mVarB 1) (mC (.int 0)))) mNext)
    (mSeq (mIfS (mTest (mOp gEq (mVar 2) (mC (.int 1)))) (mSeq (mSetIx 1 (mC (.int 1)) (mCall gTuple (mCons (mComp [5] (mSeqI (mOp gIx (mVarB 1) (mC (.int 0)))) (.nm 5) mYes e__law_map_3) mNil)))
    (mSetIx 1 (mC (.int 2)) (mCall gTuple (mCons (mComp [5] (mSeqI (mOp gIx (mVarB 1) (mC (.int 0)))) (.nm 5) mYes e__law_map_4) mNil)))) mNext)
    (mSeq (mIfS (mTest (mOp gEq (mVar 2) (mC (.int 2)))) (mSetO 1 (mLst (mCons (mTup (mCons (mTup (mCons (mC (.int 1)) (mCons (mC (.int 1)) mNil))) (mCons (mTup (mCons (mC (.int 0)) (mCons (mC (.int 1)) mNil))) (mCons (mTup (mCons (mC (.int 0)) (mCons (mC (.int 1)) mNil))) mNil)))) (mCons (mTup (mCons (mTup (mCons (mC (.int 0)) (mCons (mC (.int 1)) mNil))) (mCons (mTup (mCons (mC (.int 1)) (mCons (mC (.int 1)) mNil))) (mCons (mTup (mCons (mC (.int 0)) (mCons (mC (.int 1)) mNil))) mNil)))) (mCons (mTup (mCons (mTup (mCons (mC (.int 0)) (mCons (mC (.int 1)) mNil))) (mCons (mTup (mCons (mC (.int 0)) (mCons (mC (.int 1)) mNil))) (mCons (mTup (mCons (mC (.int 1)) (mCons (mC (.int 1)) mNil))) mNil)))) mNil))))) mNext) K))) [.v (.cell 2), .own (.lst [dV m.a, dV m.b, dV m.c]), .v (.int j), .un, .un, .un] s = K [.v (.cell 2), .own (.lst [dV m'.a, dV m'.b, dV m'.c]), .v (.int j), .un, .un, .un] s') ∧ BdM 13 8 m' ∧ Rw ns s' := by
  have p1 : ∀ (i : Int) (u x y z : D) (s : S), setIx 1 2 u [.v (.cell 2), .own (.lst [x, y, z]), .v (.int i), .un, .un, .un] s = .nx [.v (.cell 2), .own (.lst [x, y, u]), .v (.int i), .un, .un, .un] s := fun _ _ _ _ _ _ => rfl
  have p2 : ∀ (i : Int) (u x y z : D) (s : S), setIx 1 1 u [.v (.cell 2), .own (.lst [x, y, z]), .v (.int i), .un, .un, .un] s = .nx [.v (.cell 2), .own (.lst [x, u, z]), .v (.int i), .un, .un, .un] s := fun _ _ _ _ _ _ => rfl
  have p3 : ∀ (i : Int) (x : D), baseOk 1 [.v (.cell 2), .own x, .v (.int i), .un, .un, .un] = true := fun _ _ => rfl
  by_cases j0 : j = 0
  · subst j0
    refine ⟨⟨m.a, m.b, m.a⟩, s, fun K => ?_, ⟨hm.a.mono, hm.b.mono, hm.a.mono⟩, h⟩
    clear hm h
    decreasing_trivial
  · by_cases j1 : j = 1
    · subst j1
      obtain ⟨u1, s1, e1, b1, r1⟩ := t_half (a := .own (.lst [dV m.a, dV m.b, dV m.c])) (b := .v (.int 1)) (c := .un) hm.a.x h
      obtain ⟨u2, s2, e2, b2, r2⟩ := t_half (a := .own (.lst [dV m.a, dV m.b, dV m.c])) (b := .v (.int 1)) (c := .un) hm.a.y r1
      obtain ⟨u3, s3, e3, b3, r3⟩ := t_half (a := .own (.lst [dV m.a, dV m.b, dV m.c])) (b := .v (.int 1)) (c := .un) hm.a.z r2
      obtain ⟨w1, s4, e4, b4, r4⟩ := t_none (a := .own (.lst [dV m.a, dV ⟨u1, u2, u3⟩, dV m.c])) (b := .v (.int 1)) (c := .un) hm.a.x r3
      obtain ⟨w2, s5, e5, b5, r5⟩ := t_none (a := .own (.lst [dV m.a, dV ⟨u1, u2, u3⟩, dV m.c])) (b := .v (.int 1)) (c := .un) hm.a.y r4
      obtain ⟨w3, s6, e6, b6, r6⟩ := t_none (a := .own (.lst [dV m.a, dV ⟨u1, u2, u3⟩, dV m.c])) (b := .v (.int 1)) (c := .un) hm.a.z r5
      refine ⟨⟨m.a, ⟨u1, u2, u3⟩, ⟨w1, w2, w3⟩⟩, s6, fun K => ?_, ⟨hm.a.mono, ⟨b1, b2, b3⟩, ⟨b4, b5, b6⟩⟩, r6⟩
      have hz : (3 ≤ sizeLine) = True := eq_true (size_ok (by omega))
      unfold dV at *
      clear hm h r1 r2 r3 r4 r5 r6 b1 b2 b3 b4 b5 b6
      decreasing_trivial
      simp only [v_compF]
      decreasing_trivial
      simp only [v_compF]
      decreasing_trivial
    · by_cases j2 : j = 2
      · subst j2
        refine ⟨⟨⟨1, 0, 0⟩, ⟨0, 1, 0⟩, ⟨0, 0, 1⟩⟩, s, fun K => ?_, ⟨⟨Bd1, Bd0, Bd0⟩, ⟨Bd0, Bd1, Bd0⟩, ⟨Bd0, Bd0, Bd1⟩⟩, h⟩
        clear hm h
        decreasing_trivial
        rfl
      · refine ⟨m, s, fun K => ?_, hm.mono, h⟩
        clear hm h
        decreasing_trivial
theorem t_map {ns : List Int} {s : S} (h : Rw ns s) : ∃ (p : P3) (s' : S), F__law_map [.cell 2] s = .ok (dP p) s' ∧ BdM 13 8 p.m ∧ BdV 11 6 p.t ∧ Rw ns s' := by
  obtain ⟨v1, s1, e1, b1, r1⟩ := t_row3 (k := .int 0) h
  obtain ⟨v2, s2, e2, b2, r2⟩ := t_row3 (k := .int 1) r1
  obtain ⟨v3, s3, e3, b3, r3⟩ := t_row3 (k := .int 2) r2
  obtain ⟨j, s4, e4, j0, j1, r4⟩ := t_taken (m := 6) (k := 10) r3 (by omega) (bd_small (by omega))
  obtain ⟨m', s5, e5, bm, r5⟩ := t_kind (m := ⟨v1, v2, v3⟩) (j := j) ⟨b1, b2, b3⟩ r4
  obtain ⟨t1, s6, e6, c1, r6⟩ := t_more (a := .own (.lst [dV m'.a, dV m'.b, dV m'.c])) (b := .v (.int j)) (c := .un) (d := .v (.int 0)) (k := .un) r5
  obtain ⟨t2, s7, e7, c2, r7⟩ := t_more (a := .own (.lst [dV m'.a, dV m'.b, dV m'.c])) (b := .v (.int j)) (c := .un) (d := .v (.int 1)) (k := .un) r6
  obtain ⟨t3, s8, e8, c3, r8⟩ := t_more (a := .own (.lst [dV m'.a, dV m'.b, dV m'.c])) (b := .v (.int j)) (c := .un) (d := .v (.int 2)) (k := .un) r7
  refine ⟨⟨m', ⟨t1, t2, t3⟩⟩, s8, ?_, bm, ⟨c1, c2, c3⟩, r8⟩
  have g1 := rng3
  have g2 := rok3
  have hz : (3 ≤ sizeLine) = True := eq_true (size_ok (by omega))
  have q1 : compF (.nm 3) mYes e__law_map_2 [.v (.cell 2), .un, .un, .un, .un, .un] [.int 0, .int 1, .int 2] s = .ok [dV v1, dV v2, dV v3] s3 := by
    clear e4 e5 e6 e7 e8 b1 b2 b3 r1 r2 r3 r4 r5 r6 r7 r8 h c1 c2 c3 bm j0 j1
    simp only [v_compF]
    decreasing_trivial
  have q2 : compF (.nm 4) mYes e__law_map_5 [.v (.cell 2), .own (.lst [dV m'.a, dV m'.b, dV m'.c]), .v (.int j), .un, .un, .un] [.int 0, .int 1, .int 2] s5 = .ok [fr t1, fr t2, fr t3] s8 := by
    clear e4 e5 e1 e2 e3 b1 b2 b3 r1 r2 r3 r4 r5 r6 r7 r8 h c1 c2 c3 bm j0 j1
    simp only [v_compF]
    decreasing_trivial
  unfold F__law_map b__law_map dP dM
  clear e1 e2 e3 e6 e7 e8 b1 b2 b3 r1 r2 r3 r4 r5 r6 r7 r8 h c1 c2 c3 bm j0 j1
  rw [v_fun, v_seq]
  have z1 : mSetO 1 (mComp [3] (mRng1 (mCons (mC (.int 3)) mNil)) (.nm 3) mYes e__law_map_2) (List.map SD.v [.cell 2] ++ List.replicate 5 SD.un) s = .nx [.v (.cell 2), .own (.lst [dV v1, dV v2, dV v3]), .un, .un, .un, .un] s3 := by
    clear e5
    decreasing_trivial
  rw [z1]
  dsimp only
  rw [v_seq]
  have z2 : mSet 2 (mCallF F__law_taken (mCons (mVar 0) (mCons (mC (.int 6)) mNil))) [.v (.cell 2), .own (.lst [dV v1, dV v2, dV v3]), .un, .un, .un, .un] s3 = .nx [.v (.cell 2), .own (.lst [dV v1, dV v2, dV v3]), .v (.int j), .un, .un, .un] s4 := by
    clear e5
    decreasing_trivial
  rw [z2]
  dsimp only
  rw [e5]
  clear e5
  decreasing_trivial
  rfl
end K05

namespace K05
open PySem PySem.Spec L2 Tv
local macro_rules | `(tactic| get_elem_tactic_extensible) => `(tactic| simp only [v_var, v_varB, v_c, v_op, v_un, v_nil, v_cons, v_tup, v_lst, v_test, v_and, v_or, v_not, v_if, v_andV, v_orV, v_notV, v_chain, v_call, v_callF, v_callV, v_isi, v_slice, v_comp, unowned, List.all_cons, List.all_nil, wipeR, and_true, true_and, and_false, false_and, Int.cast_ofNat_Int, v_part, v_noPart, v_fld, v_yes, v_seqI, v_rng1, v_rng2, v_enumI, v_zipI, v_next, v_seq, v_set, v_setO, v_drop, v_ret, v_retN, v_brk, v_cnt, v_ifS, v_frz, v_while, v_for, v_meth, v_setIx, v_cell, v_aug, v_pt, v_par, v_setF, v_fun, v_raise, v_told, v_lamV, v_callL, v_newC, v_setIxE, w_setCell, w_tupC, w_isNotB, w_ix30, w_ix31, w_ix32, w_ixL30, w_ixL31, w_ixL32, w_ixL20, w_ixL21, v_ne_ok, v_loopF_nil, v_compF_nil,
  w_add, Tv.w_sub, w_lt, w_le, w_gt, w_ge, w_neg, w_eqI, w_neI, w_eqB, w_neB, w_is, w_isNot, w_ix20, w_ix21, w_lenT, w_lenL, w_lenZ, w_abs, w_int, w_min, w_max, w_tupT, w_tupL, w_tupZ, kT_int, kT_bl, kT_non, kT_str, kT_tup, kT_lst, k2, Tv.isNon, Pt.run, Pts.run, setM, ownL, baseOk, seqV,
  List.map_cons, List.map_nil, List.cons_append, List.nil_append, List.append_nil, List.replicate_zero, List.replicate_succ, List.length_cons, List.length_nil, List.getElem?_cons_zero, List.getElem?_cons_succ, List.getElem?_nil, List.set_cons_zero, List.set_cons_succ, List.set_nil, Option.some.injEq, ↓reduceIte, reduceCtorEq, decide_true, decide_false, decide_eq_true_eq, Bool.not_true, Bool.not_false, Bool.false_eq_true, Bool.and_true, Bool.true_and, Bool.or_false, Bool.false_or, Bool.or_true, Bool.true_or, Bool.and_false, Bool.false_and, if_true, if_false, String.reduceEq, or_false, or_true, false_or, true_or, Int.reduceLE, Int.reduceLT, Int.reduceNeg, Int.reduceToNat, Int.reduceAdd, Nat.reduceAdd, Nat.reduceLT, Int.reduceSub, Int.reduceMul, Int.reduceEq, Nat.reduceEqDiff, Int.zero_sub, BEq.rfl])
local macro_rules | `(tactic| decreasing_trivial) => `(tactic| simp only [v_var, v_varB, v_c, v_op, v_un, v_nil, v_cons, v_tup, v_lst, v_test, v_and, v_or, v_not, v_if, v_andV, v_orV, v_notV, v_chain, v_call, v_callF, v_callV, v_isi, v_slice, v_comp, unowned, List.all_cons, List.all_nil, wipeR, and_true, true_and, and_false, false_and, Int.cast_ofNat_Int, v_part, v_noPart, v_fld, v_yes, v_seqI, v_rng1, v_rng2, v_enumI, v_zipI, v_next, v_seq, v_set, v_setO, v_drop, v_ret, v_retN, v_brk, v_cnt, v_ifS, v_frz, v_while, v_for, v_meth, v_setIx, v_cell, v_aug, v_pt, v_par, v_setF, v_fun, v_raise, v_told, v_lamV, v_callL, v_newC, v_setIxE, w_setCell, w_tupC, w_isNotB, w_ix30, w_ix31, w_ix32, w_ixL30, w_ixL31, w_ixL32, w_ixL20, w_ixL21, v_ne_ok, v_loopF_nil, v_compF_nil,
  w_add, Tv.w_sub, w_lt, w_le, w_gt, w_ge, w_neg, w_eqI, w_neI, w_eqB, w_neB, w_is, w_isNot, w_ix20, w_ix21, w_lenT, w_lenL, w_lenZ, w_abs, w_int, w_min, w_max, w_tupT, w_tupL, w_tupZ, kT_int, kT_bl, kT_non, kT_str, kT_tup, kT_lst, k2, Tv.isNon, Pt.run, Pts.run, setM, ownL, baseOk, seqV,
  List.map_cons, List.map_nil, List.cons_append, List.nil_append, List.append_nil, List.replicate_zero, List.replicate_succ, List.length_cons, List.length_nil, List.getElem?_cons_zero, List.getElem?_cons_succ, List.getElem?_nil, List.set_cons_zero, List.set_cons_succ, List.set_nil, Option.some.injEq, ↓reduceIte, reduceCtorEq, decide_true, decide_false, decide_eq_true_eq, Bool.not_true, Bool.not_false, Bool.false_eq_true, Bool.and_true, Bool.true_and, Bool.or_false, Bool.false_or, Bool.or_true, Bool.true_or, Bool.and_false, Bool.false_and, if_true, if_false, String.reduceEq, or_false, or_true, false_or, true_or, Int.reduceLE, Int.reduceLT, Int.reduceNeg, Int.reduceToNat, Int.reduceAdd, Nat.reduceAdd, Nat.reduceLT, Int.reduceSub, Int.reduceMul, Int.reduceEq, Nat.reduceEqDiff, Int.zero_sub, BEq.rfl, *])

/-! ### the program's judgements -/
theorem mulT3 {x : D} {s : S} : gMul (.tup [x]) (.int 3) s = .ok (.tup [x, x, x]) s := by
  show (if ([x] : List D) ≠ [] ∧ (2 : Int) ≤ 3 ∧ (3 : Int) ≤ 1000 ∧ ([x] : List D).length ≤ 1000 then R.ok (D.tup (List.replicate (3 : Int).toNat [x]).flatten) s else R.no) = _
  rw [if_pos ⟨by simp, by decide, by decide, by simp⟩]
  rfl
theorem mulT2 {x : D} {s : S} : gMul (.tup [x]) (.int 2) s = .ok (.tup [x, x]) s := by
  show (if ([x] : List D) ≠ [] ∧ (2 : Int) ≤ 2 ∧ (2 : Int) ≤ 1000 ∧ ([x] : List D).length ≤ 1000 then R.ok (D.tup (List.replicate (2 : Int).toNat [x]).flatten) s else R.no) = _
  rw [if_pos ⟨by simp, by decide, by decide, by simp⟩]
  rfl
theorem all3 {a b c : Bool} {s : S} : gAll [.lst [.bl a, .bl b, .bl c]] s = .ok (.bl (a && (b && c))) s := by
  cases a <;> cases b <;> cases c <;> rfl
theorem any3 {a b c : Bool} {s : S} : gAny [.lst [.bl a, .bl b, .bl c]] s = .ok (.bl (a || (b || c))) s := by
  cases a <;> cases b <;> cases c <;> rfl
theorem enum3 {a b c : D} : enumD [a, b, c] = [.tup [.int 0, a], .tup [.int 1, b], .tup [.int 2, c]] := rfl
theorem enum2 {a b : D} : enumD [a, b] = [.tup [.int 0, a], .tup [.int 1, b]] := rfl
theorem zip3 {a b c d e f : D} : zipD [a, b, c] [d, e, f] = [.tup [a, d], .tup [b, e], .tup [c, f]] := rfl
theorem sz3 : (3 ≤ sizeLine) = True := eq_true (size_ok (by omega))
theorem sz2 : (2 ≤ sizeLine) = True := eq_true (size_ok (by omega))
theorem sz1 : (1 ≤ sizeLine) = True := eq_true (size_ok (by omega))
theorem t_row_2 {a b : D} {s : S} : F_is_row [.tup [a, b], .int 2] s = .ok (.bl true) s := by
  unfold F_is_row b_is_row
  get_elem_tactic_extensible
theorem t_row_3 {a b c : D} {s : S} : F_is_row [.tup [a, b, c], .int 3] s = .ok (.bl true) s := by
  unfold F_is_row b_is_row
  get_elem_tactic_extensible
theorem t_whole {i : Int} {s : S} : F_is_whole [.int i] s = .ok (.bl true) s := by
  unfold F_is_whole b_is_whole
  get_elem_tactic_extensible
theorem t_is_fraction {q : Rat} {s : S} : F_is_fraction [fr q] s = .ok (.bl true) s := by
  have e1 := fun s => t_common q.num q.den s
  rw [Int.natAbs_natCast, show Nat.gcd q.num.natAbs q.den = 1 from q.reduced] at e1
  have e2 : decide ((1 : Int) ≤ (q.den : Int)) = true := decide_eq_true (by have := den_pos q; omega)
  have e3 := fun s => t_row_2 (a := .int q.num) (b := .int q.den) (s := s)
  have e4 := fun i s => t_whole (i := i) (s := s)
  unfold F_is_fraction b_is_fraction fr
  decreasing_trivial
theorem t_is_small {q : Rat} {s : S} (h : Bd 13 8 q) : F_is_small [fr q] s = .ok (.bl true) s := by
  have e1 := fun s => t_is_fraction (q := q) (s := s)
  have h1 := h.num
  have h2 := h.den
  unfold bd at h1
  have c1 : (2 : Nat) ^ 13 = 8192 := by decide
  have c2 : (2 : Nat) ^ 8 = 256 := by decide
  have e2 : decide (((q.num.natAbs : Nat) : Int) ≤ 10000) = true := decide_eq_true (by omega)
  have e3 : decide ((q.den : Int) ≤ 10000) = true := decide_eq_true (by omega)
  unfold F_is_small b_is_small
  unfold fr at *
  clear h1 h2 c1 c2 h
  decreasing_trivial
theorem t_is_line {v : V3} {x : D} {s : S} (h : BdV 13 8 v) : F_is_line [dV v, x] s = .ok (.bl true) s := by
  have e1 := fun s => t_is_small (s := s) h.x
  have e2 := fun s => t_is_small (s := s) h.y
  have e3 := fun s => t_is_small (s := s) h.z
  have e4 := fun a b c s => t_row_3 (a := a) (b := b) (c := c) (s := s)
  have e5 := fun a b c s => all3 (a := a) (b := b) (c := c) (s := s)
  unfold F_is_line b_is_line e_is_line_1 dV
  have z := sz3
  clear h
  decreasing_trivial
  simp only [v_compF]
  decreasing_trivial
theorem sl (a b c : D) (s : S) (k : Int) (hk : k = 0 ∨ k = 1 ∨ k = 2) : ∃ d, gSliceA (.tup [a, b, c]) none (some k) s = .ok d s := by
  rcases hk with rfl | rfl | rfl <;> exact ⟨_, rfl⟩
theorem t_fw {a b c : D} {s : S} (ha : ∀ x s, F_is_line [a, x] s = .ok (.bl true) s) (hb : ∀ x s, F_is_line [b, x] s = .ok (.bl true) s) (hc : ∀ x s, F_is_line [c, x] s = .ok (.bl true) s) : F_first_wrong [.tup [a, b, c], .int 3, .int 3, .fn 0] s = .ok .non s := by
  obtain ⟨d0, e0⟩ := sl a b c s 0 (by simp)
  obtain ⟨d1, e1⟩ := sl a b c s 1 (by simp)
  obtain ⟨d2, e2⟩ := sl a b c s 2 (by simp)
  have e3 : ([(0, F_is_line)] : List (Nat × FM)).lookup 0 = some F_is_line := rfl
  have z := sz3
  have e4 := enum3 (a := a) (b := b) (c := c)
  unfold F_first_wrong b_first_wrong
  decreasing_trivial
  simp only [v_loopF]
  unfold l_first_wrong_1 tbl_first_wrong
  decreasing_trivial
theorem t_fwL {a b c : D} {s : S} (ha : ∀ s, F_is_small [a] s = .ok (.bl true) s) (hb : ∀ s, F_is_small [b] s = .ok (.bl true) s) (hc : ∀ s, F_is_small [c] s = .ok (.bl true) s) : F_first_wrong [.tup [a, b, c], .int 3, .int 3, .lam 0] s = .ok .non s := by
  obtain ⟨d0, e0⟩ := sl a b c s 0 (by simp)
  obtain ⟨d1, e1⟩ := sl a b c s 1 (by simp)
  obtain ⟨d2, e2⟩ := sl a b c s 2 (by simp)
  have e3 : ([(0, L_0)] : List (Nat × FM)).lookup 0 = some L_0 := rfl
  have l1 : ∀ x s, L_0 [a, x] s = .ok (.bl true) s := fun x s => by
    unfold L_0 lm_0
    decreasing_trivial
  have l2 : ∀ x s, L_0 [b, x] s = .ok (.bl true) s := fun x s => by
    unfold L_0 lm_0
    decreasing_trivial
  have l3 : ∀ x s, L_0 [c, x] s = .ok (.bl true) s := fun x s => by
    unfold L_0 lm_0
    decreasing_trivial
  have z := sz3
  have e4 := enum3 (a := a) (b := b) (c := c)
  unfold F_first_wrong b_first_wrong
  decreasing_trivial
  simp only [v_loopF]
  unfold l_first_wrong_1 tll_first_wrong
  decreasing_trivial
theorem t_req {x : Str} {s : S} : F_require_part [.str x, .non] s = .ok .non s := by
  unfold F_require_part b_require_part
  get_elem_tactic_extensible
def mD (m : M3) (t : V3) : D := .ins 0 [dM m, dV t]
def wD (m : M3) (t : V3) : D := .ins 1 [dM m, dV t]
theorem t_map_init {m : M3} {t : V3} {s : S} (hm : BdM 13 8 m) (ht : BdV 13 8 t) (hs : s[1]? = some (.tab 1)) : F_Map_init [dM m, dV t] s = .ok (mD m t) s := by
  have e1 : ∀ s, F_first_wrong [dM m, .int 3, .int 3, .fn 0] s = .ok .non s := fun s => t_fw (fun x s => t_is_line hm.a) (fun x s => t_is_line hm.b) (fun x s => t_is_line hm.c)
  have e2 : ∀ s, F_first_wrong [dV t, .int 3, .int 3, .lam 0] s = .ok .non s := fun s => t_fwL (fun s => t_is_small ht.x) (fun s => t_is_small ht.y) (fun s => t_is_small ht.z)
  have e3 := fun x s => t_req (x := x) (s := s)
  unfold F_Map_init b_Map_init mInit
  clear hm ht
  decreasing_trivial
  rfl
theorem t_wide_init {m : M3} {t : V3} {s : S} : F_Wide_init [dM m, dV t] s = .ok (wD m t) s := by
  unfold F_Wide_init b_Wide_init mInit
  decreasing_trivial
  rfl
theorem t_reqcol {v : V3} {s : S} : F_require_colour [dV v] s = .ok .non s := by
  have e1 := fun q s => t_is_fraction (q := q) (s := s)
  have e4 := fun a b c s => t_row_3 (a := a) (b := b) (c := c) (s := s)
  have e5 := enum3 (a := fr v.x) (b := fr v.y) (c := fr v.z)
  unfold F_require_colour b_require_colour dV
  decreasing_trivial
  simp only [v_loopF]
  unfold l_require_colour_1
  decreasing_trivial
theorem t_is_colour {v : V3} {s : S} : F_is_colour [dV v] s = .ok (.bl true) s := by
  have e1 := fun q s => t_is_fraction (q := q) (s := s)
  have e4 := fun a b c s => t_row_3 (a := a) (b := b) (c := c) (s := s)
  have e5 := fun a b c s => all3 (a := a) (b := b) (c := c) (s := s)
  have z := sz3
  unfold F_is_colour b_is_colour dV e_is_colour_1
  decreasing_trivial
  simp only [v_compF]
  decreasing_trivial
end K05

namespace K05
open PySem PySem.Spec L2 Tv
local macro_rules | `(tactic| get_elem_tactic_extensible) => `(tactic| simp only [v_var, v_varB, v_c, v_op, v_un, v_nil, v_cons, v_tup, v_lst, v_test, v_and, v_or, v_not, v_if, v_andV, v_orV, v_notV, v_chain, v_call, v_callF, v_callV, v_isi, v_slice, v_comp, unowned, List.all_cons, List.all_nil, wipeR, and_true, true_and, and_false, false_and, Int.cast_ofNat_Int, v_part, v_noPart, v_fld, v_yes, v_seqI, v_rng1, v_rng2, v_enumI, v_zipI, v_next, v_seq, v_set, v_setO, v_drop, v_ret, v_retN, v_brk, v_cnt, v_ifS, v_frz, v_while, v_for, v_meth, v_setIx, v_cell, v_aug, v_pt, v_par, v_setF, v_fun, v_raise, v_told, v_lamV, v_callL, v_newC, v_setIxE, w_setCell, w_tupC, w_isNotB, w_ix30, w_ix31, w_ix32, w_ixL30, w_ixL31, w_ixL32, w_ixL20, w_ixL21, v_ne_ok, v_loopF_nil, v_compF_nil,
  w_add, Tv.w_sub, w_lt, w_le, w_gt, w_ge, w_neg, w_eqI, w_neI, w_eqB, w_neB, w_is, w_isNot, w_ix20, w_ix21, w_lenT, w_lenL, w_lenZ, w_abs, w_int, w_min, w_max, w_tupT, w_tupL, w_tupZ, kT_int, kT_bl, kT_non, kT_str, kT_tup, kT_lst, k2, Tv.isNon, Pt.run, Pts.run, setM, ownL, baseOk, seqV,
  List.map_cons, List.map_nil, List.cons_append, List.nil_append, List.append_nil, List.replicate_zero, List.replicate_succ, List.length_cons, List.length_nil, List.getElem?_cons_zero, List.getElem?_cons_succ, List.getElem?_nil, List.set_cons_zero, List.set_cons_succ, List.set_nil, Option.some.injEq, ↓reduceIte, reduceCtorEq, decide_true, decide_false, decide_eq_true_eq, Bool.not_true, Bool.not_false, Bool.false_eq_true, Bool.and_true, Bool.true_and, Bool.or_false, Bool.false_or, Bool.or_true, Bool.true_or, Bool.and_false, Bool.false_and, if_true, if_false, String.reduceEq, or_false, or_true, false_or, true_or, Int.reduceLE, Int.reduceLT, Int.reduceNeg, Int.reduceToNat, Int.reduceAdd, Nat.reduceAdd, Nat.reduceLT, Int.reduceSub, Int.reduceMul, Int.reduceEq, Nat.reduceEqDiff, Int.zero_sub, BEq.rfl])
local macro_rules | `(tactic| decreasing_trivial) => `(tactic| simp only [v_var, v_varB, v_c, v_op, v_un, v_nil, v_cons, v_tup, v_lst, v_test, v_and, v_or, v_not, v_if, v_andV, v_orV, v_notV, v_chain, v_call, v_callF, v_callV, v_isi, v_slice, v_comp, unowned, List.all_cons, List.all_nil, wipeR, and_true, true_and, and_false, false_and, Int.cast_ofNat_Int, v_part, v_noPart, v_fld, v_yes, v_seqI, v_rng1, v_rng2, v_enumI, v_zipI, v_next, v_seq, v_set, v_setO, v_drop, v_ret, v_retN, v_brk, v_cnt, v_ifS, v_frz, v_while, v_for, v_meth, v_setIx, v_cell, v_aug, v_pt, v_par, v_setF, v_fun, v_raise, v_told, v_lamV, v_callL, v_newC, v_setIxE, w_setCell, w_tupC, w_isNotB, w_ix30, w_ix31, w_ix32, w_ixL30, w_ixL31, w_ixL32, w_ixL20, w_ixL21, v_ne_ok, v_loopF_nil, v_compF_nil,
  w_add, Tv.w_sub, w_lt, w_le, w_gt, w_ge, w_neg, w_eqI, w_neI, w_eqB, w_neB, w_is, w_isNot, w_ix20, w_ix21, w_lenT, w_lenL, w_lenZ, w_abs, w_int, w_min, w_max, w_tupT, w_tupL, w_tupZ, kT_int, kT_bl, kT_non, kT_str, kT_tup, kT_lst, k2, Tv.isNon, Pt.run, Pts.run, setM, ownL, baseOk, seqV,
  List.map_cons, List.map_nil, List.cons_append, List.nil_append, List.append_nil, List.replicate_zero, List.replicate_succ, List.length_cons, List.length_nil, List.getElem?_cons_zero, List.getElem?_cons_succ, List.getElem?_nil, List.set_cons_zero, List.set_cons_succ, List.set_nil, Option.some.injEq, ↓reduceIte, reduceCtorEq, decide_true, decide_false, decide_eq_true_eq, Bool.not_true, Bool.not_false, Bool.false_eq_true, Bool.and_true, Bool.true_and, Bool.or_false, Bool.false_or, Bool.or_true, Bool.true_or, Bool.and_false, Bool.false_and, if_true, if_false, String.reduceEq, or_false, or_true, false_or, true_or, Int.reduceLE, Int.reduceLT, Int.reduceNeg, Int.reduceToNat, Int.reduceAdd, Nat.reduceAdd, Nat.reduceLT, Int.reduceSub, Int.reduceMul, Int.reduceEq, Nat.reduceEqDiff, Int.zero_sub, BEq.rfl, *])

/-! ### sums, products of lines -/
def dot (u v : V3) : Rat := u.x * v.x + u.y * v.y + u.z * v.z
def mp (m : M3) (t v : V3) : V3 := ⟨dot m.a v + t.x, dot m.b v + t.y, dot m.c v + t.z⟩
theorem Bd_dot {u v : V3} {a b c d : Nat} (hu : BdV a b u) (hv : BdV c d v) : Bd (a + c + 2 * (b + d) + 2) (3 * (b + d)) (dot u v) := (Bd_add (Bd_add (Bd_mul hu.x hv.x) (Bd_mul hu.y hv.y)) (Bd_mul hu.z hv.z)).mono
theorem Bd_mp1 {u v : V3} {q : Rat} {a b c d e f : Nat} (hu : BdV a b u) (hv : BdV c d v) (hq : Bd e f q) : Bd (max (a + c + 2 * (b + d) + 2 + f) (e + 3 * (b + d)) + 1) (3 * (b + d) + f) (dot u v + q) := Bd_add (Bd_dot hu hv) hq
theorem Bd_mp {m : M3} {t v : V3} {a b c d e f : Nat} (hm : BdM a b m) (hv : BdV c d v) (ht : BdV e f t) : BdV (max (a + c + 2 * (b + d) + 2 + f) (e + 3 * (b + d)) + 1) (3 * (b + d) + f) (mp m t v) := ⟨Bd_mp1 hm.a hv ht.x, Bd_mp1 hm.b hv ht.y, Bd_mp1 hm.c hv ht.z⟩
theorem t_totL {p q r : Rat} {n d : Nat} {s : S} (hp : Bd n d p) (hq : Bd n d q) (hr : Bd n d r) (h : 2 * n + 4 * d ≤ 7800 := by omega) : F_total [.lst [fr p, fr q, fr r]] s = .ok (fr (p + q + r)) s := by
  have e1 := fun s => t_plus (s := s) (Bd0 (n := 1) (d := 1)) hp
  rw [Rat.zero_add] at e1
  have e2 := fun s => t_plus (s := s) hp hq
  have e3 := fun s => t_plus (s := s) (Bd_add hp hq) hr
  have e0 := fr_0
  unfold F_total b_total
  clear hp hq hr h
  decreasing_trivial
  simp only [v_loopF]
  unfold l_total_1
  decreasing_trivial
theorem t_totT {p q r : Rat} {n d : Nat} {s : S} (hp : Bd n d p) (hq : Bd n d q) (hr : Bd n d r) (h : 2 * n + 4 * d ≤ 7800 := by omega) : F_total [.tup [fr p, fr q, fr r]] s = .ok (fr (p + q + r)) s := by
  have e1 := fun s => t_plus (s := s) (Bd0 (n := 1) (d := 1)) hp
  rw [Rat.zero_add] at e1
  have e2 := fun s => t_plus (s := s) hp hq
  have e3 := fun s => t_plus (s := s) (Bd_add hp hq) hr
  have e0 := fr_0
  unfold F_total b_total
  clear hp hq hr h
  decreasing_trivial
  simp only [v_loopF]
  unfold l_total_1
  decreasing_trivial
theorem t_line {u v : V3} {a b c d : Nat} {s : S} (hu : BdV a b u) (hv : BdV c d v) (h : 2 * (a + c) + 4 * (b + d) ≤ 7800 := by omega) : F_line_times [dV u, dV v] s = .ok (fr (dot u v)) s := by
  have e1 := fun s => t_times (s := s) hu.x hv.x
  have e2 := fun s => t_times (s := s) hu.y hv.y
  have e3 := fun s => t_times (s := s) hu.z hv.z
  have e4 := fun s => t_totL (s := s) (Bd_mul hu.x hv.x) (Bd_mul hu.y hv.y) (Bd_mul hu.z hv.z)
  have e5 := zip3 (a := fr u.x) (b := fr u.y) (c := fr u.z) (d := fr v.x) (e := fr v.y) (f := fr v.z)
  have z := sz3
  unfold F_line_times b_line_times e_line_times_1 dV dot
  clear hu hv h
  decreasing_trivial
  simp only [v_compF]
  decreasing_trivial
theorem t_mapped0 {m : M3} {t v : V3} {o : D} {a b c d e f : Nat} {s : S} (ho : o = mD m t ∨ o = wD m t) (hm : BdM a b m) (hv : BdV c d v) (ht : BdV e f t) (h : 2 * (a + c) + 4 * (b + d) ≤ 7800 := by omega) (h2 : a + c + 5 * (b + d) + e + f ≤ 7800 := by omega) : F_mapped [o, dV v] s = .ok (dV (mp m t v)) s := by
  have e1 := fun s => t_line (s := s) hm.a hv
  have e2 := fun s => t_line (s := s) hm.b hv
  have e3 := fun s => t_line (s := s) hm.c hv
  have e4 := fun s => t_plus (s := s) (Bd_dot hm.a hv) ht.x
  have e5 := fun s => t_plus (s := s) (Bd_dot hm.b hv) ht.y
  have e6 := fun s => t_plus (s := s) (Bd_dot hm.c hv) ht.z
  have e7 := fun s => t_reqcol (v := v) (s := s)
  have e8 := zip3 (a := dV m.a) (b := dV m.b) (c := dV m.c) (d := fr t.x) (e := fr t.y) (f := fr t.z)
  have z := sz3
  have l0 : ([(0, 0), (1, 0)] : List (Nat × Nat)).lookup 0 = some 0 := rfl
  have l1 : ([(0, 1), (1, 1)] : List (Nat × Nat)).lookup 0 = some 1 := rfl
  have l2 : ([(0, 0), (1, 0)] : List (Nat × Nat)).lookup 1 = some 0 := rfl
  have l3 : ([(0, 1), (1, 1)] : List (Nat × Nat)).lookup 1 = some 1 := rfl
  clear hm hv ht h h2
  rcases ho with rfl | rfl
  · unfold F_mapped b_mapped e_mapped_1 mp mD
    rw [show dV t = .tup [fr t.x, fr t.y, fr t.z] from rfl]
    rw [show dM m = .tup [dV m.a, dV m.b, dV m.c] from rfl]
    decreasing_trivial
    simp only [v_compF]
    decreasing_trivial
    rfl
  · unfold F_mapped b_mapped e_mapped_1 mp wD
    rw [show dV t = .tup [fr t.x, fr t.y, fr t.z] from rfl]
    rw [show dM m = .tup [dV m.a, dV m.b, dV m.c] from rfl]
    decreasing_trivial
    simp only [v_compF]
    decreasing_trivial
    rfl
theorem t_lsum {p q r : Rat} {n d : Nat} {s : S} (hp : Bd n d p) (hq : Bd n d q) (hr : Bd n d r) (h : d ≤ 66 := by omega) (h2 : n ≤ 1000 := by omega) : F__law_sum [.lst [fr p, fr q, fr r]] s = .ok (fr (p + q + r)) s := by
  have e1 := fun s => t_ladd (s := s) (Bd0 (n := 1) (d := 1)) hp
  rw [Rat.zero_add] at e1
  have e2 := fun s => t_ladd (s := s) hp hq
  have e3 := fun s => t_ladd (s := s) (Bd_add hp hq) hr
  have e0 := fr_0
  unfold F__law_sum b__law_sum
  clear hp hq hr h
  decreasing_trivial
  simp only [v_loopF]
  unfold l__law_sum_1
  decreasing_trivial
theorem t_ldot {u v : V3} {a b c d : Nat} {s : S} (hu : BdV a b u) (hv : BdV c d v) (h : b + d ≤ 66 := by omega) (h2 : a + c ≤ 1000 := by omega) : F__law_dot [dV u, dV v] s = .ok (fr (dot u v)) s := by
  have e1 := fun s => t_lmul (s := s) hu.x hv.x
  have e2 := fun s => t_lmul (s := s) hu.y hv.y
  have e3 := fun s => t_lmul (s := s) hu.z hv.z
  have e4 := fun s => t_lsum (s := s) (Bd_mul hu.x hv.x) (Bd_mul hu.y hv.y) (Bd_mul hu.z hv.z)
  have g1 := rng3
  have g2 := rok3
  have z := sz3
  unfold F__law_dot b__law_dot e__law_dot_1 dV dot
  clear hu hv h
  decreasing_trivial
  simp only [v_compF]
  decreasing_trivial
theorem t_lthrough {p : P3} {v : V3} {a b c d e f : Nat} {s : S} (hm : BdM a b p.m) (hv : BdV c d v) (ht : BdV e f p.t) (h : b + d ≤ 66 := by omega) (h2 : a + c + e ≤ 1000 := by omega) (h3 : 3 * (b + d) + f ≤ 199 := by omega) : F__law_through [dP p, dV v] s = .ok (dV (mp p.m p.t v)) s := by
  have e1 := fun s => t_ldot (s := s) hm.a hv
  have e2 := fun s => t_ldot (s := s) hm.b hv
  have e3 := fun s => t_ldot (s := s) hm.c hv
  have e4 := fun s => t_ladd (s := s) (Bd_dot hm.a hv) ht.x
  have e5 := fun s => t_ladd (s := s) (Bd_dot hm.b hv) ht.y
  have e6 := fun s => t_ladd (s := s) (Bd_dot hm.c hv) ht.z
  have g1 := rng3
  have g2 := rok3
  have z := sz3
  unfold F__law_through b__law_through e__law_through_1 dP mp
  clear hm hv ht h h2 h3
  rw [show dV p.t = .tup [fr p.t.x, fr p.t.y, fr p.t.z] from rfl]
  rw [show dM p.m = .tup [dV p.m.a, dV p.m.b, dV p.m.c] from rfl]
  decreasing_trivial
  simp only [v_compF]
  decreasing_trivial
  rfl
end K05

namespace K05
open PySem PySem.Spec L2 Tv
local macro_rules | `(tactic| get_elem_tactic_extensible) => `(tactic| simp only [v_var, v_varB, v_c, v_op, v_un, v_nil, v_cons, v_tup, v_lst, v_test, v_and, v_or, v_not, v_if, v_andV, v_orV, v_notV, v_chain, v_call, v_callF, v_callV, v_isi, v_slice, v_comp, unowned, List.all_cons, List.all_nil, wipeR, and_true, true_and, and_false, false_and, Int.cast_ofNat_Int, v_part, v_noPart, v_fld, v_yes, v_seqI, v_rng1, v_rng2, v_enumI, v_zipI, v_next, v_seq, v_set, v_setO, v_drop, v_ret, v_retN, v_brk, v_cnt, v_ifS, v_frz, v_while, v_for, v_meth, v_setIx, v_cell, v_aug, v_pt, v_par, v_setF, v_fun, v_raise, v_told, v_lamV, v_callL, v_newC, v_setIxE, w_setCell, w_tupC, w_isNotB, w_ix30, w_ix31, w_ix32, w_ixL30, w_ixL31, w_ixL32, w_ixL20, w_ixL21, v_ne_ok, v_loopF_nil, v_compF_nil,
  w_add, Tv.w_sub, w_lt, w_le, w_gt, w_ge, w_neg, w_eqI, w_neI, w_eqB, w_neB, w_is, w_isNot, w_ix20, w_ix21, w_lenT, w_lenL, w_lenZ, w_abs, w_int, w_min, w_max, w_tupT, w_tupL, w_tupZ, kT_int, kT_bl, kT_non, kT_str, kT_tup, kT_lst, k2, Tv.isNon, Pt.run, Pts.run, setM, ownL, baseOk, seqV,
  List.map_cons, List.map_nil, List.cons_append, List.nil_append, List.append_nil, List.replicate_zero, List.replicate_succ, List.length_cons, List.length_nil, List.getElem?_cons_zero, List.getElem?_cons_succ, List.getElem?_nil, List.set_cons_zero, List.set_cons_succ, List.set_nil, Option.some.injEq, ↓reduceIte, reduceCtorEq, decide_true, decide_false, decide_eq_true_eq, Bool.not_true, Bool.not_false, Bool.false_eq_true, Bool.and_true, Bool.true_and, Bool.or_false, Bool.false_or, Bool.or_true, Bool.true_or, Bool.and_false, Bool.false_and, if_true, if_false, String.reduceEq, or_false, or_true, false_or, true_or, Int.reduceLE, Int.reduceLT, Int.reduceNeg, Int.reduceToNat, Int.reduceAdd, Nat.reduceAdd, Nat.reduceLT, Int.reduceSub, Int.reduceMul, Int.reduceEq, Nat.reduceEqDiff, Int.zero_sub, BEq.rfl])
local macro_rules | `(tactic| decreasing_trivial) => `(tactic| simp only [v_var, v_varB, v_c, v_op, v_un, v_nil, v_cons, v_tup, v_lst, v_test, v_and, v_or, v_not, v_if, v_andV, v_orV, v_notV, v_chain, v_call, v_callF, v_callV, v_isi, v_slice, v_comp, unowned, List.all_cons, List.all_nil, wipeR, and_true, true_and, and_false, false_and, Int.cast_ofNat_Int, v_part, v_noPart, v_fld, v_yes, v_seqI, v_rng1, v_rng2, v_enumI, v_zipI, v_next, v_seq, v_set, v_setO, v_drop, v_ret, v_retN, v_brk, v_cnt, v_ifS, v_frz, v_while, v_for, v_meth, v_setIx, v_cell, v_aug, v_pt, v_par, v_setF, v_fun, v_raise, v_told, v_lamV, v_callL, v_newC, v_setIxE, w_setCell, w_tupC, w_isNotB, w_ix30, w_ix31, w_ix32, w_ixL30, w_ixL31, w_ixL32, w_ixL20, w_ixL21, v_ne_ok, v_loopF_nil, v_compF_nil,
  w_add, Tv.w_sub, w_lt, w_le, w_gt, w_ge, w_neg, w_eqI, w_neI, w_eqB, w_neB, w_is, w_isNot, w_ix20, w_ix21, w_lenT, w_lenL, w_lenZ, w_abs, w_int, w_min, w_max, w_tupT, w_tupL, w_tupZ, kT_int, kT_bl, kT_non, kT_str, kT_tup, kT_lst, k2, Tv.isNon, Pt.run, Pts.run, setM, ownL, baseOk, seqV,
  List.map_cons, List.map_nil, List.cons_append, List.nil_append, List.append_nil, List.replicate_zero, List.replicate_succ, List.length_cons, List.length_nil, List.getElem?_cons_zero, List.getElem?_cons_succ, List.getElem?_nil, List.set_cons_zero, List.set_cons_succ, List.set_nil, Option.some.injEq, ↓reduceIte, reduceCtorEq, decide_true, decide_false, decide_eq_true_eq, Bool.not_true, Bool.not_false, Bool.false_eq_true, Bool.and_true, Bool.true_and, Bool.or_false, Bool.false_or, Bool.or_true, Bool.true_or, Bool.and_false, Bool.false_and, if_true, if_false, String.reduceEq, or_false, or_true, false_or, true_or, Int.reduceLE, Int.reduceLT, Int.reduceNeg, Int.reduceToNat, Int.reduceAdd, Nat.reduceAdd, Nat.reduceLT, Int.reduceSub, Int.reduceMul, Int.reduceEq, Nat.reduceEqDiff, Int.zero_sub, BEq.rfl, *])

/-! ### minors, determinants (printed by mk_g05.py) -/
theorem fr_ix0 {q : Rat} {s : S} : gIx (fr q) (.int 0) s = .ok (.int q.num) s := rfl
theorem fr_ix1 {q : Rat} {s : S} : gIx (fr q) (.int 1) s = .ok (.int q.den) s := rfl
theorem negD {q : Rat} : D.tup [.int (-q.num), .int q.den] = fr (-q) := fr_neg q

def cof00 (m : M3) : Rat := m.b.y * m.c.z - m.b.z * m.c.y
def cof01 (m : M3) : Rat := -(m.b.x * m.c.z - m.b.z * m.c.x)
def cof02 (m : M3) : Rat := m.b.x * m.c.y - m.b.y * m.c.x
def cof10 (m : M3) : Rat := -(m.a.y * m.c.z - m.a.z * m.c.y)
def cof11 (m : M3) : Rat := m.a.x * m.c.z - m.a.z * m.c.x
def cof12 (m : M3) : Rat := -(m.a.x * m.c.y - m.a.y * m.c.x)
def cof20 (m : M3) : Rat := m.a.y * m.b.z - m.a.z * m.b.y
def cof21 (m : M3) : Rat := -(m.a.x * m.b.z - m.a.z * m.b.x)
def cof22 (m : M3) : Rat := m.a.x * m.b.y - m.a.y * m.b.x
theorem Bd_cof00 {m : M3} (hm : BdM 13 8 m) : Bd 43 32 (cof00 m) := (Bd_sub (Bd_mul hm.b.y hm.c.z) (Bd_mul hm.b.z hm.c.y)).mono
theorem t_minor00 {m : M3} {s : S} (hm : BdM 13 8 m) : F_minor [dM m, .int 0, .int 0] s = .ok (fr (cof00 m)) s := by
  have e1 := fun s => t_times (s := s) hm.b.y hm.c.z
  have e2 := fun s => t_times (s := s) hm.b.z hm.c.y
  have e3 := fun s => t_minus (s := s) (Bd_mul hm.b.y hm.c.z) (Bd_mul hm.b.z hm.c.y)
  have n1 := enum3 (a := dV m.a) (b := dV m.b) (c := dV m.c)
  have n2 := fun a b c => enum3 (a := a) (b := b) (c := c)
  have z3 := sz3
  have z2 := sz2
  have md : ∀ s, gMod (.int 0) (.int 2) s = .ok (.int 0) s := fun s => w_mod (by omega)
  have f0 := fun q s => fr_ix0 (q := q) (s := s)
  have f1 := fun q s => fr_ix1 (q := q) (s := s)
  have nn := fun q => negD (q := q)
  unfold F_minor b_minor dM t_minor_1 e_minor_1 t_minor_2 cof00
  clear hm
  decreasing_trivial
  simp only [v_compF]
  decreasing_trivial
  simp only [v_compF, dV]
  decreasing_trivial
  simp only [v_compF]
  decreasing_trivial

theorem Bd_cof01 {m : M3} (hm : BdM 13 8 m) : Bd 43 32 (cof01 m) := Bd_neg ((Bd_sub (Bd_mul hm.b.x hm.c.z) (Bd_mul hm.b.z hm.c.x)).mono)
theorem t_minor01 {m : M3} {s : S} (hm : BdM 13 8 m) : F_minor [dM m, .int 0, .int 1] s = .ok (fr (cof01 m)) s := by
  have e1 := fun s => t_times (s := s) hm.b.x hm.c.z
  have e2 := fun s => t_times (s := s) hm.b.z hm.c.x
  have e3 := fun s => t_minus (s := s) (Bd_mul hm.b.x hm.c.z) (Bd_mul hm.b.z hm.c.x)
  have n1 := enum3 (a := dV m.a) (b := dV m.b) (c := dV m.c)
  have n2 := fun a b c => enum3 (a := a) (b := b) (c := c)
  have z3 := sz3
  have z2 := sz2
  have md : ∀ s, gMod (.int 1) (.int 2) s = .ok (.int 1) s := fun s => w_mod (by omega)
  have f0 := fun q s => fr_ix0 (q := q) (s := s)
  have f1 := fun q s => fr_ix1 (q := q) (s := s)
  have nn := fun q => negD (q := q)
  unfold F_minor b_minor dM t_minor_1 e_minor_1 t_minor_2 cof01
  clear hm
  decreasing_trivial
  simp only [v_compF]
  decreasing_trivial
  simp only [v_compF, dV]
  decreasing_trivial
  simp only [v_compF]
  decreasing_trivial

theorem Bd_cof02 {m : M3} (hm : BdM 13 8 m) : Bd 43 32 (cof02 m) := (Bd_sub (Bd_mul hm.b.x hm.c.y) (Bd_mul hm.b.y hm.c.x)).mono
theorem t_minor02 {m : M3} {s : S} (hm : BdM 13 8 m) : F_minor [dM m, .int 0, .int 2] s = .ok (fr (cof02 m)) s := by
  have e1 := fun s => t_times (s := s) hm.b.x hm.c.y
  have e2 := fun s => t_times (s := s) hm.b.y hm.c.x
  have e3 := fun s => t_minus (s := s) (Bd_mul hm.b.x hm.c.y) (Bd_mul hm.b.y hm.c.x)
  have n1 := enum3 (a := dV m.a) (b := dV m.b) (c := dV m.c)
  have n2 := fun a b c => enum3 (a := a) (b := b) (c := c)
  have z3 := sz3
  have z2 := sz2
  have md : ∀ s, gMod (.int 2) (.int 2) s = .ok (.int 0) s := fun s => w_mod (by omega)
  have f0 := fun q s => fr_ix0 (q := q) (s := s)
  have f1 := fun q s => fr_ix1 (q := q) (s := s)
  have nn := fun q => negD (q := q)
  unfold F_minor b_minor dM t_minor_1 e_minor_1 t_minor_2 cof02
  clear hm
  decreasing_trivial
  simp only [v_compF]
  decreasing_trivial
  simp only [v_compF, dV]
  decreasing_trivial
  simp only [v_compF]
  decreasing_trivial

theorem Bd_cof10 {m : M3} (hm : BdM 13 8 m) : Bd 43 32 (cof10 m) := Bd_neg ((Bd_sub (Bd_mul hm.a.y hm.c.z) (Bd_mul hm.a.z hm.c.y)).mono)
theorem t_minor10 {m : M3} {s : S} (hm : BdM 13 8 m) : F_minor [dM m, .int 1, .int 0] s = .ok (fr (cof10 m)) s := by
  have e1 := fun s => t_times (s := s) hm.a.y hm.c.z
  have e2 := fun s => t_times (s := s) hm.a.z hm.c.y
  have e3 := fun s => t_minus (s := s) (Bd_mul hm.a.y hm.c.z) (Bd_mul hm.a.z hm.c.y)
  have n1 := enum3 (a := dV m.a) (b := dV m.b) (c := dV m.c)
  have n2 := fun a b c => enum3 (a := a) (b := b) (c := c)
  have z3 := sz3
  have z2 := sz2
  have md : ∀ s, gMod (.int 1) (.int 2) s = .ok (.int 1) s := fun s => w_mod (by omega)
  have f0 := fun q s => fr_ix0 (q := q) (s := s)
  have f1 := fun q s => fr_ix1 (q := q) (s := s)
  have nn := fun q => negD (q := q)
  unfold F_minor b_minor dM t_minor_1 e_minor_1 t_minor_2 cof10
  clear hm
  decreasing_trivial
  simp only [v_compF]
  decreasing_trivial
  simp only [v_compF, dV]
  decreasing_trivial
  simp only [v_compF]
  decreasing_trivial

theorem Bd_cof11 {m : M3} (hm : BdM 13 8 m) : Bd 43 32 (cof11 m) := (Bd_sub (Bd_mul hm.a.x hm.c.z) (Bd_mul hm.a.z hm.c.x)).mono
theorem t_minor11 {m : M3} {s : S} (hm : BdM 13 8 m) : F_minor [dM m, .int 1, .int 1] s = .ok (fr (cof11 m)) s := by
  have e1 := fun s => t_times (s := s) hm.a.x hm.c.z
  have e2 := fun s => t_times (s := s) hm.a.z hm.c.x
  have e3 := fun s => t_minus (s := s) (Bd_mul hm.a.x hm.c.z) (Bd_mul hm.a.z hm.c.x)
  have n1 := enum3 (a := dV m.a) (b := dV m.b) (c := dV m.c)
  have n2 := fun a b c => enum3 (a := a) (b := b) (c := c)
  have z3 := sz3
  have z2 := sz2
  have md : ∀ s, gMod (.int 2) (.int 2) s = .ok (.int 0) s := fun s => w_mod (by omega)
  have f0 := fun q s => fr_ix0 (q := q) (s := s)
  have f1 := fun q s => fr_ix1 (q := q) (s := s)
  have nn := fun q => negD (q := q)
  unfold F_minor b_minor dM t_minor_1 e_minor_1 t_minor_2 cof11
  clear hm
  decreasing_trivial
  simp only [v_compF]
  decreasing_trivial
  simp only [v_compF, dV]
  decreasing_trivial
  simp only [v_compF]
  decreasing_trivial

theorem Bd_cof12 {m : M3} (hm : BdM 13 8 m) : Bd 43 32 (cof12 m) := Bd_neg ((Bd_sub (Bd_mul hm.a.x hm.c.y) (Bd_mul hm.a.y hm.c.x)).mono)
theorem t_minor12 {m : M3} {s : S} (hm : BdM 13 8 m) : F_minor [dM m, .int 1, .int 2] s = .ok (fr (cof12 m)) s := by
  have e1 := fun s => t_times (s := s) hm.a.x hm.c.y
  have e2 := fun s => t_times (s := s) hm.a.y hm.c.x
  have e3 := fun s => t_minus (s := s) (Bd_mul hm.a.x hm.c.y) (Bd_mul hm.a.y hm.c.x)
  have n1 := enum3 (a := dV m.a) (b := dV m.b) (c := dV m.c)
  have n2 := fun a b c => enum3 (a := a) (b := b) (c := c)
  have z3 := sz3
  have z2 := sz2
  have md : ∀ s, gMod (.int 3) (.int 2) s = .ok (.int 1) s := fun s => w_mod (by omega)
  have f0 := fun q s => fr_ix0 (q := q) (s := s)
  have f1 := fun q s => fr_ix1 (q := q) (s := s)
  have nn := fun q => negD (q := q)
  unfold F_minor b_minor dM t_minor_1 e_minor_1 t_minor_2 cof12
  clear hm
  decreasing_trivial
  simp only [v_compF]
  decreasing_trivial
  simp only [v_compF, dV]
  decreasing_trivial
  simp only [v_compF]
  decreasing_trivial

theorem Bd_cof20 {m : M3} (hm : BdM 13 8 m) : Bd 43 32 (cof20 m) := (Bd_sub (Bd_mul hm.a.y hm.b.z) (Bd_mul hm.a.z hm.b.y)).mono
theorem t_minor20 {m : M3} {s : S} (hm : BdM 13 8 m) : F_minor [dM m, .int 2, .int 0] s = .ok (fr (cof20 m)) s := by
  have e1 := fun s => t_times (s := s) hm.a.y hm.b.z
  have e2 := fun s => t_times (s := s) hm.a.z hm.b.y
  have e3 := fun s => t_minus (s := s) (Bd_mul hm.a.y hm.b.z) (Bd_mul hm.a.z hm.b.y)
  have n1 := enum3 (a := dV m.a) (b := dV m.b) (c := dV m.c)
  have n2 := fun a b c => enum3 (a := a) (b := b) (c := c)
  have z3 := sz3
  have z2 := sz2
  have md : ∀ s, gMod (.int 2) (.int 2) s = .ok (.int 0) s := fun s => w_mod (by omega)
  have f0 := fun q s => fr_ix0 (q := q) (s := s)
  have f1 := fun q s => fr_ix1 (q := q) (s := s)
  have nn := fun q => negD (q := q)
  unfold F_minor b_minor dM t_minor_1 e_minor_1 t_minor_2 cof20
  clear hm
  decreasing_trivial
  simp only [v_compF]
  decreasing_trivial
  simp only [v_compF, dV]
  decreasing_trivial
  simp only [v_compF]
  decreasing_trivial

theorem Bd_cof21 {m : M3} (hm : BdM 13 8 m) : Bd 43 32 (cof21 m) := Bd_neg ((Bd_sub (Bd_mul hm.a.x hm.b.z) (Bd_mul hm.a.z hm.b.x)).mono)
theorem t_minor21 {m : M3} {s : S} (hm : BdM 13 8 m) : F_minor [dM m, .int 2, .int 1] s = .ok (fr (cof21 m)) s := by
  have e1 := fun s => t_times (s := s) hm.a.x hm.b.z
  have e2 := fun s => t_times (s := s) hm.a.z hm.b.x
  have e3 := fun s => t_minus (s := s) (Bd_mul hm.a.x hm.b.z) (Bd_mul hm.a.z hm.b.x)
  have n1 := enum3 (a := dV m.a) (b := dV m.b) (c := dV m.c)
  have n2 := fun a b c => enum3 (a := a) (b := b) (c := c)
  have z3 := sz3
  have z2 := sz2
  have md : ∀ s, gMod (.int 3) (.int 2) s = .ok (.int 1) s := fun s => w_mod (by omega)
  have f0 := fun q s => fr_ix0 (q := q) (s := s)
  have f1 := fun q s => fr_ix1 (q := q) (s := s)
  have nn := fun q => negD (q := q)
  unfold F_minor b_minor dM t_minor_1 e_minor_1 t_minor_2 cof21
  clear hm
  decreasing_trivial
  simp only [v_compF]
  decreasing_trivial
  simp only [v_compF, dV]
  decreasing_trivial
  simp only [v_compF]
  decreasing_trivial

theorem Bd_cof22 {m : M3} (hm : BdM 13 8 m) : Bd 43 32 (cof22 m) := (Bd_sub (Bd_mul hm.a.x hm.b.y) (Bd_mul hm.a.y hm.b.x)).mono
theorem t_minor22 {m : M3} {s : S} (hm : BdM 13 8 m) : F_minor [dM m, .int 2, .int 2] s = .ok (fr (cof22 m)) s := by
  have e1 := fun s => t_times (s := s) hm.a.x hm.b.y
  have e2 := fun s => t_times (s := s) hm.a.y hm.b.x
  have e3 := fun s => t_minus (s := s) (Bd_mul hm.a.x hm.b.y) (Bd_mul hm.a.y hm.b.x)
  have n1 := enum3 (a := dV m.a) (b := dV m.b) (c := dV m.c)
  have n2 := fun a b c => enum3 (a := a) (b := b) (c := c)
  have z3 := sz3
  have z2 := sz2
  have md : ∀ s, gMod (.int 4) (.int 2) s = .ok (.int 0) s := fun s => w_mod (by omega)
  have f0 := fun q s => fr_ix0 (q := q) (s := s)
  have f1 := fun q s => fr_ix1 (q := q) (s := s)
  have nn := fun q => negD (q := q)
  unfold F_minor b_minor dM t_minor_1 e_minor_1 t_minor_2 cof22
  clear hm
  decreasing_trivial
  simp only [v_compF]
  decreasing_trivial
  simp only [v_compF, dV]
  decreasing_trivial
  simp only [v_compF]
  decreasing_trivial

end K05

namespace K05
open PySem PySem.Spec L2 Tv
local macro_rules | `(tactic| get_elem_tactic_extensible) => `(tactic| simp only [v_var, v_varB, v_c, v_op, v_un, v_nil, v_cons, v_tup, v_lst, v_test, v_and, v_or, v_not, v_if, v_andV, v_orV, v_notV, v_chain, v_call, v_callF, v_callV, v_isi, v_slice, v_comp, unowned, List.all_cons, List.all_nil, wipeR, and_true, true_and, and_false, false_and, Int.cast_ofNat_Int, v_part, v_noPart, v_fld, v_yes, v_seqI, v_rng1, v_rng2, v_enumI, v_zipI, v_next, v_seq, v_set, v_setO, v_drop, v_ret, v_retN, v_brk, v_cnt, v_ifS, v_frz, v_while, v_for, v_meth, v_setIx, v_cell, v_aug, v_pt, v_par, v_setF, v_fun, v_raise, v_told, v_lamV, v_callL, v_newC, v_setIxE, w_setCell, w_tupC, w_isNotB, w_ix30, w_ix31, w_ix32, w_ixL30, w_ixL31, w_ixL32, w_ixL20, w_ixL21, v_ne_ok, v_loopF_nil, v_compF_nil,
  w_add, Tv.w_sub, w_lt, w_le, w_gt, w_ge, w_neg, w_eqI, w_neI, w_eqB, w_neB, w_is, w_isNot, w_ix20, w_ix21, w_lenT, w_lenL, w_lenZ, w_abs, w_int, w_min, w_max, w_tupT, w_tupL, w_tupZ, kT_int, kT_bl, kT_non, kT_str, kT_tup, kT_lst, k2, Tv.isNon, Pt.run, Pts.run, setM, ownL, baseOk, seqV,
  List.map_cons, List.map_nil, List.cons_append, List.nil_append, List.append_nil, List.replicate_zero, List.replicate_succ, List.length_cons, List.length_nil, List.getElem?_cons_zero, List.getElem?_cons_succ, List.getElem?_nil, List.set_cons_zero, List.set_cons_succ, List.set_nil, Option.some.injEq, ↓reduceIte, reduceCtorEq, decide_true, decide_false, decide_eq_true_eq, Bool.not_true, Bool.not_false, Bool.false_eq_true, Bool.and_true, Bool.true_and, Bool.or_false, Bool.false_or, Bool.or_true, Bool.true_or, Bool.and_false, Bool.false_and, if_true, if_false, String.reduceEq, or_false, or_true, false_or, true_or, Int.reduceLE, Int.reduceLT, Int.reduceNeg, Int.reduceToNat, Int.reduceAdd, Nat.reduceAdd, Nat.reduceLT, Int.reduceSub, Int.reduceMul, Int.reduceEq, Nat.reduceEqDiff, Int.zero_sub, BEq.rfl])
local macro_rules | `(tactic| decreasing_trivial) => `(tactic| simp only [v_var, v_varB, v_c, v_op, v_un, v_nil, v_cons, v_tup, v_lst, v_test, v_and, v_or, v_not, v_if, v_andV, v_orV, v_notV, v_chain, v_call, v_callF, v_callV, v_isi, v_slice, v_comp, unowned, List.all_cons, List.all_nil, wipeR, and_true, true_and, and_false, false_and, Int.cast_ofNat_Int, v_part, v_noPart, v_fld, v_yes, v_seqI, v_rng1, v_rng2, v_enumI, v_zipI, v_next, v_seq, v_set, v_setO, v_drop, v_ret, v_retN, v_brk, v_cnt, v_ifS, v_frz, v_while, v_for, v_meth, v_setIx, v_cell, v_aug, v_pt, v_par, v_setF, v_fun, v_raise, v_told, v_lamV, v_callL, v_newC, v_setIxE, w_setCell, w_tupC, w_isNotB, w_ix30, w_ix31, w_ix32, w_ixL30, w_ixL31, w_ixL32, w_ixL20, w_ixL21, v_ne_ok, v_loopF_nil, v_compF_nil,
  w_add, Tv.w_sub, w_lt, w_le, w_gt, w_ge, w_neg, w_eqI, w_neI, w_eqB, w_neB, w_is, w_isNot, w_ix20, w_ix21, w_lenT, w_lenL, w_lenZ, w_abs, w_int, w_min, w_max, w_tupT, w_tupL, w_tupZ, kT_int, kT_bl, kT_non, kT_str, kT_tup, kT_lst, k2, Tv.isNon, Pt.run, Pts.run, setM, ownL, baseOk, seqV,
  List.map_cons, List.map_nil, List.cons_append, List.nil_append, List.append_nil, List.replicate_zero, List.replicate_succ, List.length_cons, List.length_nil, List.getElem?_cons_zero, List.getElem?_cons_succ, List.getElem?_nil, List.set_cons_zero, List.set_cons_succ, List.set_nil, Option.some.injEq, ↓reduceIte, reduceCtorEq, decide_true, decide_false, decide_eq_true_eq, Bool.not_true, Bool.not_false, Bool.false_eq_true, Bool.and_true, Bool.true_and, Bool.or_false, Bool.false_or, Bool.or_true, Bool.true_or, Bool.and_false, Bool.false_and, if_true, if_false, String.reduceEq, or_false, or_true, false_or, true_or, Int.reduceLE, Int.reduceLT, Int.reduceNeg, Int.reduceToNat, Int.reduceAdd, Nat.reduceAdd, Nat.reduceLT, Int.reduceSub, Int.reduceMul, Int.reduceEq, Nat.reduceEqDiff, Int.zero_sub, BEq.rfl, *])

/-! ### equality of points; determinants -/
theorem dV_inj {u v : V3} (h : dV u = dV v) : u = v := by
  unfold dV at h
  simp only [D.tup.injEq, List.cons.injEq, and_true] at h
  cases u
  cases v
  simp only [V3.mk.injEq]
  exact ⟨fr_inj h.1, fr_inj h.2.1, fr_inj h.2.2⟩
theorem pl_V {v : V3} : pl 8 (dV v) = true := rfl
theorem pl_M {m : M3} : pl 8 (dM m) = true := rfl
theorem eqV {u v : V3} : eqD (dV u) (dV v) = some (decide (u = v)) := eqD_pl (n := 8) pl_V pl_V (by omega) (by rw [decide_eq_true_eq]; exact ⟨fun h => by rw [h], dV_inj⟩)
theorem w_eqV {u v : V3} {s : S} : gEq (dV u) (dV v) s = .ok (.bl (decide (u = v))) s := w_eq eqV
theorem w_neV {u v : V3} {s : S} : gNe (dV u) (dV v) s = .ok (.bl (!decide (u = v))) s := w_ne eqV
def V0 : V3 := ⟨0, 0, 0⟩
theorem dV0 : D.tup [.tup [.int 0, .int 1], .tup [.int 0, .int 1], .tup [.int 0, .int 1]] = dV V0 := rfl
theorem num0 {q : Rat} : (q.num = 0) = (q = 0) := propext Rat.num_eq_zero
def det (m : M3) : Rat := m.a.x * cof00 m + m.a.y * cof01 m + m.a.z * cof02 m
theorem Bd_det {m : M3} (hm : BdM 13 8 m) : Bd 140 120 (det m) := (Bd_add (Bd_add (Bd_mul hm.a.x (Bd_cof00 hm)) (Bd_mul hm.a.y (Bd_cof01 hm))) (Bd_mul hm.a.z (Bd_cof02 hm))).mono
theorem fld0 : ([(0, 0), (1, 0)] : List (Nat × Nat)).lookup 0 = some 0 := rfl
theorem fld1 : ([(0, 1), (1, 1)] : List (Nat × Nat)).lookup 0 = some 1 := rfl
theorem fld2 : ([(0, 0), (1, 0)] : List (Nat × Nat)).lookup 1 = some 0 := rfl
theorem fld3 : ([(0, 1), (1, 1)] : List (Nat × Nat)).lookup 1 = some 1 := rfl
theorem ixM0 {m : M3} {s : S} : gIx (dM m) (.int 0) s = .ok (dV m.a) s := rfl
theorem ixM1 {m : M3} {s : S} : gIx (dM m) (.int 1) s = .ok (dV m.b) s := rfl
theorem ixM2 {m : M3} {s : S} : gIx (dM m) (.int 2) s = .ok (dV m.c) s := rfl
theorem ixV0 {v : V3} {s : S} : gIx (dV v) (.int 0) s = .ok (fr v.x) s := rfl
theorem ixV1 {v : V3} {s : S} : gIx (dV v) (.int 1) s = .ok (fr v.y) s := rfl
theorem ixV2 {v : V3} {s : S} : gIx (dV v) (.int 2) s = .ok (fr v.z) s := rfl
theorem t_det {m : M3} {t : V3} {s : S} (hm : BdM 13 8 m) : F_determinant [mD m t] s = .ok (fr (det m)) s := by
  have c0 := fun s => t_minor00 (s := s) hm
  have c1 := fun s => t_minor01 (s := s) hm
  have c2 := fun s => t_minor02 (s := s) hm
  have e1 := fun s => t_times (s := s) hm.a.x (Bd_cof00 hm)
  have e2 := fun s => t_times (s := s) hm.a.y (Bd_cof01 hm)
  have e3 := fun s => t_times (s := s) hm.a.z (Bd_cof02 hm)
  have p1 := fun s => t_plus (s := s) (Bd0 (n := 1) (d := 1)) (Bd_mul hm.a.x (Bd_cof00 hm))
  rw [Rat.zero_add] at p1
  have p2 := fun s => t_plus (s := s) (Bd_mul hm.a.x (Bd_cof00 hm)) (Bd_mul hm.a.y (Bd_cof01 hm))
  have p3 := fun s => t_plus (s := s) (Bd_add (Bd_mul hm.a.x (Bd_cof00 hm)) (Bd_mul hm.a.y (Bd_cof01 hm))) (Bd_mul hm.a.z (Bd_cof02 hm))
  have g1 := rng3
  have g2 := rok3
  have x0 := fun s => ixM0 (m := m) (s := s)
  have y0 := fun v s => ixV0 (v := v) (s := s)
  have y1 := fun v s => ixV1 (v := v) (s := s)
  have y2 := fun v s => ixV2 (v := v) (s := s)
  have l0 := fld0
  have e0 := fr_0
  unfold F_determinant b_determinant mD det
  clear hm
  decreasing_trivial
  simp only [v_loopF]
  unfold l_determinant_1
  decreasing_trivial
theorem t_can {m : M3} {t : V3} {s : S} (hm : BdM 13 8 m) : F_can_turn [mD m t] s = .ok (.bl (!decide (det m = 0))) s := by
  have e1 := fun s => t_det (t := t) (s := s) hm
  have f0 := fun q s => fr_ix0 (q := q) (s := s)
  have n0 := fun q => num0 (q := q)
  unfold F_can_turn b_can_turn
  clear hm
  decreasing_trivial
theorem t_ldet {m : M3} {s : S} (hm : BdM 13 8 m) : F__law_det [dM m] s = .ok (fr (det m)) s := by
  have i1 := fun {p q : Rat} (hp : Bd 13 8 p) (hq : Bd 13 8 q) s => t_lmul (s := s) hp hq
  have q1 := fun s => t_lmul (s := s) hm.b.y hm.c.z
  have q2 := fun s => t_lmul (s := s) hm.b.y hm.c.x
  have q3 := fun s => t_lmul (s := s) hm.b.z hm.c.x
  have q4 := fun s => t_lmul (s := s) hm.b.z hm.c.y
  have q5 := fun s => t_lmul (s := s) hm.b.x hm.c.y
  have q6 := fun s => t_lmul (s := s) hm.b.x hm.c.z
  have b1 := Bd_mul hm.a.x (Bd_mul hm.b.y hm.c.z)
  have b2 := Bd_mul hm.a.z (Bd_mul hm.b.y hm.c.x)
  have b3 := Bd_mul hm.a.y (Bd_mul hm.b.z hm.c.x)
  have b4 := Bd_mul hm.a.x (Bd_mul hm.b.z hm.c.y)
  have b5 := Bd_mul hm.a.z (Bd_mul hm.b.x hm.c.y)
  have b6 := Bd_mul hm.a.y (Bd_mul hm.b.x hm.c.z)
  have r1 := fun s => t_lmul (s := s) hm.a.x (Bd_mul hm.b.y hm.c.z)
  have r2 := fun s => t_lmul (s := s) hm.a.z (Bd_mul hm.b.y hm.c.x)
  have r3 := fun s => t_lmul (s := s) hm.a.y (Bd_mul hm.b.z hm.c.x)
  have r4 := fun s => t_lmul (s := s) hm.a.x (Bd_mul hm.b.z hm.c.y)
  have r5 := fun s => t_lmul (s := s) hm.a.z (Bd_mul hm.b.x hm.c.y)
  have r6 := fun s => t_lmul (s := s) hm.a.y (Bd_mul hm.b.x hm.c.z)
  have u1 := fun s => t_ladd (s := s) (Bd0 (n := 1) (d := 1)) b1
  rw [Rat.zero_add] at u1
  have u2 := fun s => t_lsub (s := s) b1 b2
  have u3 := fun s => t_ladd (s := s) (Bd_sub b1 b2) b3
  have u4 := fun s => t_lsub (s := s) (Bd_add (Bd_sub b1 b2) b3) b4
  have u5 := fun s => t_ladd (s := s) (Bd_sub (Bd_add (Bd_sub b1 b2) b3) b4) b5
  have u6 := fun s => t_lsub (s := s) (Bd_add (Bd_sub (Bd_add (Bd_sub b1 b2) b3) b4) b5) b6
  have x0 := fun s => ixM0 (m := m) (s := s)
  have x1 := fun s => ixM1 (m := m) (s := s)
  have x2 := fun s => ixM2 (m := m) (s := s)
  have y0 := fun v s => ixV0 (v := v) (s := s)
  have y1 := fun v s => ixV1 (v := v) (s := s)
  have y2 := fun v s => ixV2 (v := v) (s := s)
  have e0 := fr_0
  have ed : det m = m.a.x * (m.b.y * m.c.z) - m.a.z * (m.b.y * m.c.x) + m.a.y * (m.b.z * m.c.x) - m.a.x * (m.b.z * m.c.y) + m.a.z * (m.b.x * m.c.y) - m.a.y * (m.b.x * m.c.z) := by
    unfold det cof00 cof01 cof02
    grind
  rw [ed]
  unfold F__law_det b__law_det
  clear hm b1 b2 b3 b4 b5 b6 ed i1
  decreasing_trivial
  simp only [v_loopF]
  unfold l__law_det_1
  decreasing_trivial
end K05

namespace K05
open PySem PySem.Spec L2 Tv
local macro_rules | `(tactic| get_elem_tactic_extensible) => `(tactic| simp only [v_var, v_varB, v_c, v_op, v_un, v_nil, v_cons, v_tup, v_lst, v_test, v_and, v_or, v_not, v_if, v_andV, v_orV, v_notV, v_chain, v_call, v_callF, v_callV, v_isi, v_slice, v_comp, unowned, List.all_cons, List.all_nil, wipeR, and_true, true_and, and_false, false_and, Int.cast_ofNat_Int, v_part, v_noPart, v_fld, v_yes, v_seqI, v_rng1, v_rng2, v_enumI, v_zipI, v_next, v_seq, v_set, v_setO, v_drop, v_ret, v_retN, v_brk, v_cnt, v_ifS, v_frz, v_while, v_for, v_meth, v_setIx, v_cell, v_aug, v_pt, v_par, v_setF, v_fun, v_raise, v_told, v_lamV, v_callL, v_newC, v_setIxE, w_setCell, w_tupC, w_isNotB, w_ix30, w_ix31, w_ix32, w_ixL30, w_ixL31, w_ixL32, w_ixL20, w_ixL21, v_ne_ok, v_loopF_nil, v_compF_nil,
  w_add, Tv.w_sub, w_lt, w_le, w_gt, w_ge, w_neg, w_eqI, w_neI, w_eqB, w_neB, w_is, w_isNot, w_ix20, w_ix21, w_lenT, w_lenL, w_lenZ, w_abs, w_int, w_min, w_max, w_tupT, w_tupL, w_tupZ, kT_int, kT_bl, kT_non, kT_str, kT_tup, kT_lst, k2, Tv.isNon, Pt.run, Pts.run, setM, ownL, baseOk, seqV,
  List.map_cons, List.map_nil, List.cons_append, List.nil_append, List.append_nil, List.replicate_zero, List.replicate_succ, List.length_cons, List.length_nil, List.getElem?_cons_zero, List.getElem?_cons_succ, List.getElem?_nil, List.set_cons_zero, List.set_cons_succ, List.set_nil, Option.some.injEq, ↓reduceIte, reduceCtorEq, decide_true, decide_false, decide_eq_true_eq, Bool.not_true, Bool.not_false, Bool.false_eq_true, Bool.and_true, Bool.true_and, Bool.or_false, Bool.false_or, Bool.or_true, Bool.true_or, Bool.and_false, Bool.false_and, if_true, if_false, String.reduceEq, or_false, or_true, false_or, true_or, Int.reduceLE, Int.reduceLT, Int.reduceNeg, Int.reduceToNat, Int.reduceAdd, Nat.reduceAdd, Nat.reduceLT, Int.reduceSub, Int.reduceMul, Int.reduceEq, Nat.reduceEqDiff, Int.zero_sub, BEq.rfl])
local macro_rules | `(tactic| decreasing_trivial) => `(tactic| simp only [v_var, v_varB, v_c, v_op, v_un, v_nil, v_cons, v_tup, v_lst, v_test, v_and, v_or, v_not, v_if, v_andV, v_orV, v_notV, v_chain, v_call, v_callF, v_callV, v_isi, v_slice, v_comp, unowned, List.all_cons, List.all_nil, wipeR, and_true, true_and, and_false, false_and, Int.cast_ofNat_Int, v_part, v_noPart, v_fld, v_yes, v_seqI, v_rng1, v_rng2, v_enumI, v_zipI, v_next, v_seq, v_set, v_setO, v_drop, v_ret, v_retN, v_brk, v_cnt, v_ifS, v_frz, v_while, v_for, v_meth, v_setIx, v_cell, v_aug, v_pt, v_par, v_setF, v_fun, v_raise, v_told, v_lamV, v_callL, v_newC, v_setIxE, w_setCell, w_tupC, w_isNotB, w_ix30, w_ix31, w_ix32, w_ixL30, w_ixL31, w_ixL32, w_ixL20, w_ixL21, v_ne_ok, v_loopF_nil, v_compF_nil,
  w_add, Tv.w_sub, w_lt, w_le, w_gt, w_ge, w_neg, w_eqI, w_neI, w_eqB, w_neB, w_is, w_isNot, w_ix20, w_ix21, w_lenT, w_lenL, w_lenZ, w_abs, w_int, w_min, w_max, w_tupT, w_tupL, w_tupZ, kT_int, kT_bl, kT_non, kT_str, kT_tup, kT_lst, k2, Tv.isNon, Pt.run, Pts.run, setM, ownL, baseOk, seqV,
  List.map_cons, List.map_nil, List.cons_append, List.nil_append, List.append_nil, List.replicate_zero, List.replicate_succ, List.length_cons, List.length_nil, List.getElem?_cons_zero, List.getElem?_cons_succ, List.getElem?_nil, List.set_cons_zero, List.set_cons_succ, List.set_nil, Option.some.injEq, ↓reduceIte, reduceCtorEq, decide_true, decide_false, decide_eq_true_eq, Bool.not_true, Bool.not_false, Bool.false_eq_true, Bool.and_true, Bool.true_and, Bool.or_false, Bool.false_or, Bool.or_true, Bool.true_or, Bool.and_false, Bool.false_and, if_true, if_false, String.reduceEq, or_false, or_true, false_or, true_or, Int.reduceLE, Int.reduceLT, Int.reduceNeg, Int.reduceToNat, Int.reduceAdd, Nat.reduceAdd, Nat.reduceLT, Int.reduceSub, Int.reduceMul, Int.reduceEq, Nat.reduceEqDiff, Int.zero_sub, BEq.rfl, *])

/-! ### the way back -/
theorem app_ok {l : List D} {x : D} (h : l.length < 1000) : oAppend l [x] = some (.non, l ++ [x]) := by
  show (if l.length < sizeLine then some (D.non, l ++ [x]) else none) = _
  rw [if_pos (by have := size_ok (n := 1000) (by omega); omega)]
def inv (m : M3) : M3 := ⟨⟨cof00 m / det m, cof10 m / det m, cof20 m / det m⟩, ⟨cof01 m / det m, cof11 m / det m, cof21 m / det m⟩, ⟨cof02 m / det m, cof12 m / det m, cof22 m / det m⟩⟩
def tinv (m : M3) (t : V3) : V3 := ⟨-dot (inv m).a t, -dot (inv m).b t, -dot (inv m).c t⟩
theorem Bd_inv {m : M3} (hm : BdM 13 8 m) (h0 : det m ≠ 0) : BdM 163 172 (inv m) :=
  ⟨⟨Bd_div (Bd_cof00 hm) (Bd_det hm) h0, Bd_div (Bd_cof10 hm) (Bd_det hm) h0, Bd_div (Bd_cof20 hm) (Bd_det hm) h0⟩, ⟨Bd_div (Bd_cof01 hm) (Bd_det hm) h0, Bd_div (Bd_cof11 hm) (Bd_det hm) h0, Bd_div (Bd_cof21 hm) (Bd_det hm) h0⟩, ⟨Bd_div (Bd_cof02 hm) (Bd_det hm) h0, Bd_div (Bd_cof12 hm) (Bd_det hm) h0, Bd_div (Bd_cof22 hm) (Bd_det hm) h0⟩⟩
theorem Bd_tinv {m : M3} {t : V3} (hm : BdM 13 8 m) (ht : BdV 11 6 t) (h0 : det m ≠ 0) : BdV 532 534 (tinv m t) :=
  ⟨Bd_neg (Bd_dot (Bd_inv hm h0).a ht), Bd_neg (Bd_dot (Bd_inv hm h0).b ht), Bd_neg (Bd_dot (Bd_inv hm h0).c ht)⟩
theorem t_turned_no {m : M3} {t : V3} {s : S} (hm : BdM 13 8 m) (h : det m = 0) : F_turned [mD m t] s = .er 13 [] s := by
  have e1 := fun s => t_det (t := t) (s := s) hm
  have f0 := fun q s => fr_ix0 (q := q) (s := s)
  have n0 := fun q => num0 (q := q)
  unfold F_turned b_turned
  clear hm
  decreasing_trivial
theorem t_turned {m : M3} {t : V3} {s : S} (hm : BdM 13 8 m) (ht : BdV 11 6 t) (h0 : det m ≠ 0) : F_turned [mD m t] s = .ok (wD (inv m) (tinv m t)) s := by
  have e1 := fun s => t_det (t := t) (s := s) hm
  have f0 := fun q s => fr_ix0 (q := q) (s := s)
  have f1 := fun q s => fr_ix1 (q := q) (s := s)
  have n0 := fun q => num0 (q := q)
  have nn := fun q => negD (q := q)
  have bD := Bd_det hm
  have c00 := fun s => t_minor00 (s := s) hm
  have c01 := fun s => t_minor01 (s := s) hm
  have c02 := fun s => t_minor02 (s := s) hm
  have c10 := fun s => t_minor10 (s := s) hm
  have c11 := fun s => t_minor11 (s := s) hm
  have c12 := fun s => t_minor12 (s := s) hm
  have c20 := fun s => t_minor20 (s := s) hm
  have c21 := fun s => t_minor21 (s := s) hm
  have c22 := fun s => t_minor22 (s := s) hm
  have d00 := fun s => t_by (s := s) (Bd_cof00 hm) bD h0
  have d01 := fun s => t_by (s := s) (Bd_cof01 hm) bD h0
  have d02 := fun s => t_by (s := s) (Bd_cof02 hm) bD h0
  have d10 := fun s => t_by (s := s) (Bd_cof10 hm) bD h0
  have d11 := fun s => t_by (s := s) (Bd_cof11 hm) bD h0
  have d12 := fun s => t_by (s := s) (Bd_cof12 hm) bD h0
  have d20 := fun s => t_by (s := s) (Bd_cof20 hm) bD h0
  have d21 := fun s => t_by (s := s) (Bd_cof21 hm) bD h0
  have d22 := fun s => t_by (s := s) (Bd_cof22 hm) bD h0
  have ra := fun s => t_line (s := s) (Bd_inv hm h0).a ht
  have rb := fun s => t_line (s := s) (Bd_inv hm h0).b ht
  have rc := fun s => t_line (s := s) (Bd_inv hm h0).c ht
  have v0 : D.tup [fr (cof00 m / det m), fr (cof10 m / det m), fr (cof20 m / det m)] = dV (inv m).a := rfl
  have v1 : D.tup [fr (cof01 m / det m), fr (cof11 m / det m), fr (cof21 m / det m)] = dV (inv m).b := rfl
  have v2 : D.tup [fr (cof02 m / det m), fr (cof12 m / det m), fr (cof22 m / det m)] = dV (inv m).c := rfl
  have a1 : ∀ x, oAppend [] [x] = some (.non, [x]) := fun x => app_ok (by simp)
  have a2 : ∀ y x, oAppend [y] [x] = some (.non, [y, x]) := fun y x => app_ok (by simp)
  have a3 : ∀ z y x, oAppend [z, y] [x] = some (.non, [z, y, x]) := fun z y x => app_ok (by simp)
  have w1 : D.tup [fr (-dot (inv m).a t), fr (-dot (inv m).b t), fr (-dot (inv m).c t)] = dV (tinv m t) := rfl
  have w2 : D.tup [dV (inv m).a, dV (inv m).b, dV (inv m).c] = dM (inv m) := rfl
  have wi := fun s => t_wide_init (m := inv m) (t := tinv m t) (s := s)
  have g1 := rng3
  have g2 := rok3
  have z := sz3
  have l0 := fld0
  have l1 := fld1
  generalize inv m = im at *
  generalize tinv m t = it at *
  unfold F_turned b_turned mD
  unfold mD at e1
  clear hm ht bD
  decreasing_trivial
  simp only [v_loopF]
  unfold l_turned_1 e_turned_1 e_turned_2 e_turned_3
  decreasing_trivial
  simp only [v_compF, frz]
  decreasing_trivial
  simp only [v_compF, frz]
  decreasing_trivial
  simp only [v_compF]
  decreasing_trivial
/-! ### lost ways -/
def e1V : V3 := ⟨1, 0, 0⟩
def acr1 (l : V3) : V3 := if l.x = 0 then ⟨1, 0, 0⟩ else if l.y = 0 then ⟨0, 1, 0⟩ else ⟨-l.y, l.x, 0⟩
def acr (m : M3) : V3 := if m.a = V0 then (if m.b = V0 then (if m.c = V0 then ⟨1, 0, 0⟩ else acr1 m.c) else acr1 m.b) else acr1 m.a
def cofr0 (m : M3) : V3 := ⟨cof00 m, cof01 m, cof02 m⟩
def cofr1 (m : M3) : V3 := ⟨cof10 m, cof11 m, cof12 m⟩
def cofr2 (m : M3) : V3 := ⟨cof20 m, cof21 m, cof22 m⟩
def gone (m : M3) : V3 := if cofr0 m = V0 then (if cofr1 m = V0 then (if cofr2 m = V0 then acr m else cofr2 m) else cofr1 m) else cofr0 m
theorem eqLs {l : List V3} {s : S} : gEq (.lst (l.map dV)) (.lst []) s = .ok (.bl (decide (l = []))) s := w_eq (eqD_pl (n := 8) (by
    unfold pl
    rw [List.all_eq_true]
    intro d hd
    obtain ⟨v, _, rfl⟩ := List.mem_map.mp hd
    rfl) rfl (by omega) (by cases l <;> simp))
theorem t_across {m : M3} {s : S} : F_across [dM m] s = .ok (dV (acr m)) s := by
  have nv := fun u v s => w_neV (u := u) (v := v) (s := s)
  have m3 := fun x s => mulT3 (x := x) (s := s)
  have z0 := dV0
  have q0 : ∀ s, gEq (.lst []) (.lst []) s = .ok (.bl true) s := fun s => eqLs (l := []) (s := s)
  have q1 : ∀ a s, gEq (.lst [dV a]) (.lst []) s = .ok (.bl false) s := fun a s => eqLs (l := [a]) (s := s)
  have q2 : ∀ a b s, gEq (.lst [dV a, dV b]) (.lst []) s = .ok (.bl false) s := fun a b s => eqLs (l := [a, b]) (s := s)
  have q3 : ∀ a b c s, gEq (.lst [dV a, dV b, dV c]) (.lst []) s = .ok (.bl false) s := fun a b c s => eqLs (l := [a, b, c]) (s := s)
  have i1 : ∀ a s, gIx (.lst [dV a]) (.int 0) s = .ok (dV a) s := fun a s => rfl
  have i2 : ∀ a b s, gIx (.lst [dV a, dV b]) (.int 0) s = .ok (dV a) s := fun a b s => rfl
  have i3 : ∀ a b c s, gIx (.lst [dV a, dV b, dV c]) (.int 0) s = .ok (dV a) s := fun a b c s => rfl
  have z := sz3
  have z1 := sz2
  have z2 := sz1
  have z4 : (0 ≤ sizeLine) = True := eq_true (size_ok (by omega))
  have f0 := fun q s => fr_ix0 (q := q) (s := s)
  have f1 := fun q s => fr_ix1 (q := q) (s := s)
  have n0 := fun q => num0 (q := q)
  have nn := fun q => negD (q := q)
  have ca : compF (.nm 5) t_across_1 (mVar 5) [.v (dM m), .un, .un, .un, .un, .un] [dV m.a, dV m.b, dV m.c] s = .ok (([m.a, m.b, m.c].filter fun v => !decide (v = V0)).map dV) s := by
    refine compF_filL dV (fun v => !decide (v = V0)) dV [m.a, m.b, m.c] (fun v _ => ⟨_, rfl, ?_, fun _ => ?_⟩)
    · unfold t_across_1
      decreasing_trivial
    · decreasing_trivial
  have fin : ∀ (l : V3) (ls : D), (∀ s, gIx ls (.int 0) s = .ok (dV l) s) →
    (mSeq (mPt (.tp (.cons (.nm 2) (.cons (.nm 3) (.cons (.nm 4) .nil)))) (mOp gIx (mVar 1) (mC (.int 0))))
    (mSeq (mIfS (mTest (mOp gEq (mOp gIx (mVar 2) (mC (.int 0))) (mC (.int 0)))) (mRet (mTup (mCons (mTup (mCons (mC (.int 1)) (mCons (mC (.int 1)) mNil))) (mCons (mTup (mCons (mC (.int 0)) (mCons (mC (.int 1)) mNil))) (mCons (mTup (mCons (mC (.int 0)) (mCons (mC (.int 1)) mNil))) mNil))))) mNext)
    (mRet (mIf (mTest (mOp gNe (mOp gIx (mVar 3) (mC (.int 0))) (mC (.int 0)))) (mTup (mCons (mTup (mCons (mOp gSub (mC (.int 0)) (mOp gIx (mVar 3) (mC (.int 0)))) (mCons (mOp gIx (mVar 3) (mC (.int 1))) mNil))) (mCons (mVar 2) (mCons (mTup (mCons (mC (.int 0)) (mCons (mC (.int 1)) mNil))) mNil)))) (mTup (mCons (mTup (mCons (mC (.int 0)) (mCons (mC (.int 1)) mNil))) (mCons (mTup (mCons (mC (.int 1)) (mCons (mC (.int 1)) mNil))) (mCons (mTup (mCons (mC (.int 0)) (mCons (mC (.int 1)) mNil))) mNil)))))))) [.v (dM m), .v ls, .un, .un, .un, .un] s = .rt (dV (acr1 l)) s := by
    intro l ls hl
    have el : dV l = .tup [fr l.x, fr l.y, fr l.z] := rfl
    by_cases h1 : l.x = 0
    · unfold acr1
      clear ca nv z0
      decreasing_trivial
      rfl
    · by_cases h2 : l.y = 0
      · unfold acr1
        clear ca nv z0
        decreasing_trivial
        rfl
      · unfold acr1
        clear ca nv z0
        decreasing_trivial
        rfl
  unfold F_across b_across
  rw [v_fun, v_seq]
  have s1 : mSet 1 (mComp [5] (mSeqI (mVar 0)) (.nm 5) t_across_1 (mVar 5)) (List.map SD.v [dM m] ++ List.replicate 5 SD.un) s = .nx [.v (dM m), .v (.lst (([m.a, m.b, m.c].filter fun v => !decide (v = V0)).map dV)), .un, .un, .un, .un] s := by
    have ed : dM m = .tup [dV m.a, dV m.b, dV m.c] := rfl
    have ln : ((([m.a, m.b, m.c].filter fun v => !decide (v = V0)).map dV).length ≤ sizeLine) = True := eq_true (size_ok (by
      rw [List.length_map]
      exact Nat.le_trans (List.length_filter_le _ _) (by simp)))
    unfold dM at *
    clear fin
    decreasing_trivial
  rw [s1]
  dsimp only
  rw [v_seq]
  have ea : acr m = match ([m.a, m.b, m.c].filter fun v => !decide (v = V0)) with | [] => ⟨1, 0, 0⟩ | l :: _ => acr1 l := by
    unfold acr
    by_cases h1 : m.a = V0 <;> by_cases h2 : m.b = V0 <;> by_cases h3 : m.c = V0 <;> simp [h1, h2, h3]
  generalize ([m.a, m.b, m.c].filter fun v => !decide (v = V0)) = fl at *
  rw [ea]
  cases fl with
  | nil =>
    have hq : mIfS (mTest (mOp gEq (mVar 1) (mLst mNil))) (mRet (mTup (mCons (mTup (mCons (mC (.int 1)) (mCons (mC (.int 1)) mNil))) (mCons (mTup (mCons (mC (.int 0)) (mCons (mC (.int 1)) mNil))) (mCons (mTup (mCons (mC (.int 0)) (mCons (mC (.int 1)) mNil))) mNil))))) mNext [.v (dM m), .v (.lst (([] : List V3).map dV)), .un, .un, .un, .un] s = .rt (dV ⟨1, 0, 0⟩) s := by
      clear fin ca s1
      decreasing_trivial
      rfl
    rw [hq]
  | cons l r =>
    have q4 : ∀ s, gEq (.lst (dV l :: r.map dV)) (.lst []) s = .ok (.bl false) s := fun s => by
      have := eqLs (l := l :: r) (s := s)
      simpa using this
    have hq : mIfS (mTest (mOp gEq (mVar 1) (mLst mNil))) (mRet (mTup (mCons (mTup (mCons (mC (.int 1)) (mCons (mC (.int 1)) mNil))) (mCons (mTup (mCons (mC (.int 0)) (mCons (mC (.int 1)) mNil))) (mCons (mTup (mCons (mC (.int 0)) (mCons (mC (.int 1)) mNil))) mNil))))) mNext [.v (dM m), .v (.lst ((l :: r).map dV)), .un, .un, .un, .un] s = .nx [.v (dM m), .v (.lst ((l :: r).map dV)), .un, .un, .un, .un] s := by
      clear fin ca s1 ea
      decreasing_trivial
    rw [hq]
    dsimp only
    rw [fin l _ (fun s => ixL (atI_get (i := 0) (by rfl)))]
theorem t_lost {m : M3} {t : V3} {s : S} (hm : BdM 13 8 m) : F_lost_way [mD m t] s = .ok (if det m = 0 then dV (gone m) else .non) s := by
  have e1 := fun s => t_can (t := t) (s := s) hm
  have nv := fun u v s => w_neV (u := u) (v := v) (s := s)
  have m3 := fun x s => mulT3 (x := x) (s := s)
  have z0 := dV0
  have c00 := fun s => t_minor00 (s := s) hm
  have c01 := fun s => t_minor01 (s := s) hm
  have c02 := fun s => t_minor02 (s := s) hm
  have c10 := fun s => t_minor10 (s := s) hm
  have c11 := fun s => t_minor11 (s := s) hm
  have c12 := fun s => t_minor12 (s := s) hm
  have c20 := fun s => t_minor20 (s := s) hm
  have c21 := fun s => t_minor21 (s := s) hm
  have c22 := fun s => t_minor22 (s := s) hm
  have v0 : D.tup [fr (cof00 m), fr (cof01 m), fr (cof02 m)] = dV (cofr0 m) := rfl
  have v1 : D.tup [fr (cof10 m), fr (cof11 m), fr (cof12 m)] = dV (cofr1 m) := rfl
  have v2 : D.tup [fr (cof20 m), fr (cof21 m), fr (cof22 m)] = dV (cofr2 m) := rfl
  have ac := fun s => t_across (m := m) (s := s)
  have g1 := rng3
  have g2 := rok3
  have z := sz3
  have l0 := fld0
  unfold F_lost_way b_lost_way
  unfold mD at *
  clear hm
  by_cases hd : det m = 0
  · rw [if_pos hd]
    unfold gone
    by_cases h0 : cofr0 m = V0
    · by_cases h1 : cofr1 m = V0
      · by_cases h2 : cofr2 m = V0
        · decreasing_trivial
          simp only [v_loopF]
          unfold l_lost_way_1 e_lost_way_1
          decreasing_trivial
          simp only [v_compF]
          decreasing_trivial
        · decreasing_trivial
          simp only [v_loopF]
          unfold l_lost_way_1 e_lost_way_1
          decreasing_trivial
          simp only [v_compF]
          decreasing_trivial
      · decreasing_trivial
        simp only [v_loopF]
        unfold l_lost_way_1 e_lost_way_1
        decreasing_trivial
        simp only [v_compF]
        decreasing_trivial
    · decreasing_trivial
      simp only [v_loopF]
      unfold l_lost_way_1 e_lost_way_1
      decreasing_trivial
      simp only [v_compF]
      decreasing_trivial
  · rw [if_neg hd]
    decreasing_trivial
def lostB (m : M3) (v : V3) : Bool := !decide (v = V0) && (decide (dot m.a v = 0) && (decide (dot m.b v = 0) && decide (dot m.c v = 0)))
theorem t_islost {m : M3} {t v : V3} {a b : Nat} {s : S} (hm : BdM 13 8 m) (hv : BdV a b v) (h : a + b ≤ 500 := by omega) : F_is_lost_way [mD m t, dV v] s = .ok (.bl (lostB m v)) s := by
  have e1 := fun s => t_line (s := s) hm.a hv
  have e2 := fun s => t_line (s := s) hm.b hv
  have e3 := fun s => t_line (s := s) hm.c hv
  have e4 := fun v s => t_is_colour (v := v) (s := s)
  have nv := fun u v s => w_eqV (u := u) (v := v) (s := s)
  have m3 := fun x s => mulT3 (x := x) (s := s)
  have z0 := dV0
  have f0 := fun q s => fr_ix0 (q := q) (s := s)
  have n0 := fun q => num0 (q := q)
  have e5 := fun a b c s => all3 (a := a) (b := b) (c := c) (s := s)
  have l0 := fld0
  have z := sz3
  have ed : dM m = .tup [dV m.a, dV m.b, dV m.c] := rfl
  unfold F_is_lost_way b_is_lost_way e_is_lost_way_1 lostB mD
  clear hm hv h
  by_cases hz : v = V0
  · decreasing_trivial
  · decreasing_trivial
    simp only [v_compF]
    decreasing_trivial
end K05

namespace K05
open PySem PySem.Spec L2 Tv
local macro_rules | `(tactic| get_elem_tactic_extensible) => `(tactic| simp only [v_var, v_varB, v_c, v_op, v_un, v_nil, v_cons, v_tup, v_lst, v_test, v_and, v_or, v_not, v_if, v_andV, v_orV, v_notV, v_chain, v_call, v_callF, v_callV, v_isi, v_slice, v_comp, unowned, List.all_cons, List.all_nil, wipeR, and_true, true_and, and_false, false_and, Int.cast_ofNat_Int, v_part, v_noPart, v_fld, v_yes, v_seqI, v_rng1, v_rng2, v_enumI, v_zipI, v_next, v_seq, v_set, v_setO, v_drop, v_ret, v_retN, v_brk, v_cnt, v_ifS, v_frz, v_while, v_for, v_meth, v_setIx, v_cell, v_aug, v_pt, v_par, v_setF, v_fun, v_raise, v_told, v_lamV, v_callL, v_newC, v_setIxE, w_setCell, w_tupC, w_isNotB, w_ix30, w_ix31, w_ix32, w_ixL30, w_ixL31, w_ixL32, w_ixL20, w_ixL21, v_ne_ok, v_loopF_nil, v_compF_nil,
  w_add, Tv.w_sub, w_lt, w_le, w_gt, w_ge, w_neg, w_eqI, w_neI, w_eqB, w_neB, w_is, w_isNot, w_ix20, w_ix21, w_lenT, w_lenL, w_lenZ, w_abs, w_int, w_min, w_max, w_tupT, w_tupL, w_tupZ, kT_int, kT_bl, kT_non, kT_str, kT_tup, kT_lst, k2, Tv.isNon, Pt.run, Pts.run, setM, ownL, baseOk, seqV,
  List.map_cons, List.map_nil, List.cons_append, List.nil_append, List.append_nil, List.replicate_zero, List.replicate_succ, List.length_cons, List.length_nil, List.getElem?_cons_zero, List.getElem?_cons_succ, List.getElem?_nil, List.set_cons_zero, List.set_cons_succ, List.set_nil, Option.some.injEq, ↓reduceIte, reduceCtorEq, decide_true, decide_false, decide_eq_true_eq, Bool.not_true, Bool.not_false, Bool.false_eq_true, Bool.and_true, Bool.true_and, Bool.or_false, Bool.false_or, Bool.or_true, Bool.true_or, Bool.and_false, Bool.false_and, if_true, if_false, String.reduceEq, or_false, or_true, false_or, true_or, Int.reduceLE, Int.reduceLT, Int.reduceNeg, Int.reduceToNat, Int.reduceAdd, Nat.reduceAdd, Nat.reduceLT, Int.reduceSub, Int.reduceMul, Int.reduceEq, Nat.reduceEqDiff, Int.zero_sub, BEq.rfl])
local macro_rules | `(tactic| decreasing_trivial) => `(tactic| simp only [v_var, v_varB, v_c, v_op, v_un, v_nil, v_cons, v_tup, v_lst, v_test, v_and, v_or, v_not, v_if, v_andV, v_orV, v_notV, v_chain, v_call, v_callF, v_callV, v_isi, v_slice, v_comp, unowned, List.all_cons, List.all_nil, wipeR, and_true, true_and, and_false, false_and, Int.cast_ofNat_Int, v_part, v_noPart, v_fld, v_yes, v_seqI, v_rng1, v_rng2, v_enumI, v_zipI, v_next, v_seq, v_set, v_setO, v_drop, v_ret, v_retN, v_brk, v_cnt, v_ifS, v_frz, v_while, v_for, v_meth, v_setIx, v_cell, v_aug, v_pt, v_par, v_setF, v_fun, v_raise, v_told, v_lamV, v_callL, v_newC, v_setIxE, w_setCell, w_tupC, w_isNotB, w_ix30, w_ix31, w_ix32, w_ixL30, w_ixL31, w_ixL32, w_ixL20, w_ixL21, v_ne_ok, v_loopF_nil, v_compF_nil,
  w_add, Tv.w_sub, w_lt, w_le, w_gt, w_ge, w_neg, w_eqI, w_neI, w_eqB, w_neB, w_is, w_isNot, w_ix20, w_ix21, w_lenT, w_lenL, w_lenZ, w_abs, w_int, w_min, w_max, w_tupT, w_tupL, w_tupZ, kT_int, kT_bl, kT_non, kT_str, kT_tup, kT_lst, k2, Tv.isNon, Pt.run, Pts.run, setM, ownL, baseOk, seqV,
  List.map_cons, List.map_nil, List.cons_append, List.nil_append, List.append_nil, List.replicate_zero, List.replicate_succ, List.length_cons, List.length_nil, List.getElem?_cons_zero, List.getElem?_cons_succ, List.getElem?_nil, List.set_cons_zero, List.set_cons_succ, List.set_nil, Option.some.injEq, ↓reduceIte, reduceCtorEq, decide_true, decide_false, decide_eq_true_eq, Bool.not_true, Bool.not_false, Bool.false_eq_true, Bool.and_true, Bool.true_and, Bool.or_false, Bool.false_or, Bool.or_true, Bool.true_or, Bool.and_false, Bool.false_and, if_true, if_false, String.reduceEq, or_false, or_true, false_or, true_or, Int.reduceLE, Int.reduceLT, Int.reduceNeg, Int.reduceToNat, Int.reduceAdd, Nat.reduceAdd, Nat.reduceLT, Int.reduceSub, Int.reduceMul, Int.reduceEq, Nat.reduceEqDiff, Int.zero_sub, BEq.rfl, *])

/-! ### what the law compares -/
def sh : Nat → D → Bool
  | _, .int _ => true
  | _, .bl _ => true
  | _, .non => true
  | n + 1, .tup ds => decide (ds.length ≤ 1000) && ds.all (sh n)
  | _, _ => false
theorem alike_leaf {x : D} {n : Nat} {s : S} (h : (∃ i, x = .int i) ∨ (∃ b, x = .bl b) ∨ x = .non) : F__law_alike (n + 1) [x, x] s = .ok (.bl true) s := by
  have q1 : ∀ s, gEq .non .non s = .ok (.bl true) s := fun s => w_eq eqD_non
  show mFun 1 (b__law_alike (F__law_alike n)) [x, x] s = _
  generalize F__law_alike n = F
  unfold b__law_alike
  rcases h with ⟨i, rfl⟩ | ⟨b, rfl⟩ | rfl
  · clear q1
    decreasing_trivial
  · clear q1
    decreasing_trivial
  · decreasing_trivial
theorem alike_refl : ∀ (n : Nat) (x : D) (s : S), sh n x = true → F__law_alike (n + 1) [x, x] s = .ok (.bl true) s
  | n, .int i, s, _ => alike_leaf (.inl ⟨i, rfl⟩)
  | n, .bl b, s, _ => alike_leaf (.inr (.inl ⟨b, rfl⟩))
  | n, .non, s, _ => alike_leaf (.inr (.inr rfl))
  | n, .str _, s, h => by cases n <;> simp [sh] at h
  | n, .lst _, s, h => by cases n <;> simp [sh] at h
  | n, .frz _, s, h => by cases n <;> simp [sh] at h
  | n, .ins _ _, s, h => by cases n <;> simp [sh] at h
  | n, .cell _, s, h => by cases n <;> simp [sh] at h
  | n, .fn _, s, h => by cases n <;> simp [sh] at h
  | n, .dic _ _, s, h => by cases n <;> simp [sh] at h
  | n, .exc _ _, s, h => by cases n <;> simp [sh] at h
  | n, .sf _ _, s, h => by cases n <;> simp [sh] at h
  | n, .lam _, s, h => by cases n <;> simp [sh] at h
  | n, .tab _, s, h => by cases n <;> simp [sh] at h
  | 0, .tup _, s, h => by simp [sh] at h
  | n + 1, .tup ds, s, h => by
    unfold sh at h
    obtain ⟨h1, h2⟩ := Bool.and_eq_true_iff.mp h
    have h1 := of_decide_eq_true h1
    have ih : ∀ (d : D) (s : S), d ∈ ds → F__law_alike (n + 1) [d, d] s = .ok (.bl true) s := fun d s hd => alike_refl n d s (List.all_eq_true.mp h2 d hd)
    show mFun 1 (b__law_alike (F__law_alike (n + 1))) [.tup ds, .tup ds] s = _
    generalize F__law_alike (n + 1) = F at *
    have e1 : compF (.nm 2) (t__law_alike_1 F) (mVar 2) [.v (.tup ds), .v (.tup ds), .un] (rngD 0 ds.length) s = .ok [] s := compF_none fun d hd => by
      rw [rngD_map] at hd
      obtain ⟨j, hj, rfl⟩ := List.mem_map.mp hd
      have hj := List.mem_range.mp hj
      refine ⟨_, rfl, ?_⟩
      have gz : ∀ s : S, gIx (.tup ds) (.int (0 + (j : Int))) s = .ok ds[j] s := fun s => ixT (by rw [Int.zero_add, Tv.atI_nat, List.getElem?_eq_getElem hj])
      have q := fun s => ih ds[j] s (List.getElem_mem hj)
      generalize ds[j] = x at *
      unfold t__law_alike_1
      clear ih h h1 h2 hj
      decreasing_trivial
    have e2 : rngOk (ds.length : Int) = true := rng_ok (by omega) (by omega)
    have e3 : ∀ s, gEq (.lst []) (.lst []) s = .ok (.bl true) s := fun s => w_eq eqD_nil
    have e4 : (((ds.length : Nat) : Int).toNat) = ds.length := Int.toNat_natCast _
    have e5 : (rngD 0 ds.length).length ≤ sizeLine := size_ok (by rw [rngD_map, List.length_map, List.length_range]; omega)
    unfold b__law_alike
    clear ih h h1 h2
    decreasing_trivial
theorem eqD_str {x : Str} (h : SeqAt.shaped (.str x) = true) : eqD (.str x) (.str x) = some true := by
  unfold eqD D.py
  dsimp only
  rw [if_pos ⟨h, h⟩]
  simp [PyData.eqv]
def ntP : PyData := .tuple [.str "NotTurned"]
theorem same_NT {s : S} : F__law_same [.tup [.str "NotTurned"], .tup [.str "NotTurned"]] s = .ok (.bl true) s := by
  have hx : ∀ s, gRepr [.tup [.str "NotTurned"]] s = .ok (.str ntP.shown) s := fun s => by
    unfold gRepr
    have : D.py (.tup [.str "NotTurned"]) = some ntP := rfl
    dsimp only
    rw [this]
    dsimp only
    rw [if_pos ⟨rfl, by decide +kernel, by decide +kernel, by decide +kernel, size_ok (by decide +kernel)⟩]
  have e2 : ∀ s, gEq (.str ntP.shown) (.str ntP.shown) s = .ok (.bl true) s := fun s => w_eq (eqD_str (by decide +kernel))
  generalize ntP.shown = x at *
  unfold F__law_same b__law_same
  decreasing_trivial
theorem told_told {s : S} : gNe (.str "told") (.str "told") s = .ok (.bl false) s := w_ne (eqD_str (by decide +kernel))
theorem t_lis_frac {q : Rat} {s : S} (h : bd 199 (q.den : Int)) : F__law_is_frac [fr q] s = .ok (.bl true) s := by
  have e1 : ∀ s, F__law_gcd [.int (q.num.natAbs : Nat), .int (q.den : Int)] s = .ok (.int 1) s := fun s => by
    have := t_lgcd (a := (q.num.natAbs : Nat)) (s := s) h
    rw [Int.natAbs_natCast, Int.natAbs_natCast] at this
    rw [this]
    have := q.reduced
    unfold Nat.Coprime at this
    rw [this]
    rfl
  have e2 : decide ((1 : Int) ≤ (q.den : Int)) = true := decide_eq_true (by have := den_pos q; omega)
  have e3 : compF (.nm 1) t__law_is_frac_1 (mVar 1) [.v (.tup [.int q.num, .int (q.den : Int)]), .un] [.int q.num, .int (q.den : Int)] s = .ok [] s := compF_none fun d hd => by
    rcases List.mem_cons.mp hd with rfl | hd
    · refine ⟨_, rfl, ?_⟩
      unfold t__law_is_frac_1
      get_elem_tactic_extensible
    · rcases List.mem_cons.mp hd with rfl | hd
      · refine ⟨_, rfl, ?_⟩
        unfold t__law_is_frac_1
        get_elem_tactic_extensible
      · cases hd
  have hz : (2 ≤ sizeLine) = True := eq_true (size_ok (by omega))
  have e4 := fun s => w_ne (s := s) eqD_nil
  unfold F__law_is_frac b__law_is_frac fr
  clear h
  decreasing_trivial
end K05

namespace K05
open PySem PySem.Spec L2 Tv
local macro_rules | `(tactic| get_elem_tactic_extensible) => `(tactic| simp only [v_var, v_varB, v_c, v_op, v_un, v_nil, v_cons, v_tup, v_lst, v_test, v_and, v_or, v_not, v_if, v_andV, v_orV, v_notV, v_chain, v_call, v_callF, v_callV, v_isi, v_slice, v_comp, unowned, List.all_cons, List.all_nil, wipeR, and_true, true_and, and_false, false_and, Int.cast_ofNat_Int, v_part, v_noPart, v_fld, v_yes, v_seqI, v_rng1, v_rng2, v_enumI, v_zipI, v_next, v_seq, v_set, v_setO, v_drop, v_ret, v_retN, v_brk, v_cnt, v_ifS, v_frz, v_while, v_for, v_meth, v_setIx, v_cell, v_aug, v_pt, v_par, v_setF, v_fun, v_raise, v_told, v_lamV, v_callL, v_newC, v_setIxE, w_setCell, w_tupC, w_isNotB, w_ix30, w_ix31, w_ix32, w_ixL30, w_ixL31, w_ixL32, w_ixL20, w_ixL21, v_ne_ok, v_loopF_nil, v_compF_nil,
  w_add, Tv.w_sub, w_lt, w_le, w_gt, w_ge, w_neg, w_eqI, w_neI, w_eqB, w_neB, w_is, w_isNot, w_ix20, w_ix21, w_lenT, w_lenL, w_lenZ, w_abs, w_int, w_min, w_max, w_tupT, w_tupL, w_tupZ, kT_int, kT_bl, kT_non, kT_str, kT_tup, kT_lst, k2, Tv.isNon, Pt.run, Pts.run, setM, ownL, baseOk, seqV,
  List.map_cons, List.map_nil, List.cons_append, List.nil_append, List.append_nil, List.replicate_zero, List.replicate_succ, List.length_cons, List.length_nil, List.getElem?_cons_zero, List.getElem?_cons_succ, List.getElem?_nil, List.set_cons_zero, List.set_cons_succ, List.set_nil, Option.some.injEq, ↓reduceIte, reduceCtorEq, decide_true, decide_false, decide_eq_true_eq, Bool.not_true, Bool.not_false, Bool.false_eq_true, Bool.and_true, Bool.true_and, Bool.or_false, Bool.false_or, Bool.or_true, Bool.true_or, Bool.and_false, Bool.false_and, if_true, if_false, String.reduceEq, or_false, or_true, false_or, true_or, Int.reduceLE, Int.reduceLT, Int.reduceNeg, Int.reduceToNat, Int.reduceAdd, Nat.reduceAdd, Nat.reduceLT, Int.reduceSub, Int.reduceMul, Int.reduceEq, Nat.reduceEqDiff, Int.zero_sub, BEq.rfl])
local macro_rules | `(tactic| decreasing_trivial) => `(tactic| simp only [v_var, v_varB, v_c, v_op, v_un, v_nil, v_cons, v_tup, v_lst, v_test, v_and, v_or, v_not, v_if, v_andV, v_orV, v_notV, v_chain, v_call, v_callF, v_callV, v_isi, v_slice, v_comp, unowned, List.all_cons, List.all_nil, wipeR, and_true, true_and, and_false, false_and, Int.cast_ofNat_Int, v_part, v_noPart, v_fld, v_yes, v_seqI, v_rng1, v_rng2, v_enumI, v_zipI, v_next, v_seq, v_set, v_setO, v_drop, v_ret, v_retN, v_brk, v_cnt, v_ifS, v_frz, v_while, v_for, v_meth, v_setIx, v_cell, v_aug, v_pt, v_par, v_setF, v_fun, v_raise, v_told, v_lamV, v_callL, v_newC, v_setIxE, w_setCell, w_tupC, w_isNotB, w_ix30, w_ix31, w_ix32, w_ixL30, w_ixL31, w_ixL32, w_ixL20, w_ixL21, v_ne_ok, v_loopF_nil, v_compF_nil,
  w_add, Tv.w_sub, w_lt, w_le, w_gt, w_ge, w_neg, w_eqI, w_neI, w_eqB, w_neB, w_is, w_isNot, w_ix20, w_ix21, w_lenT, w_lenL, w_lenZ, w_abs, w_int, w_min, w_max, w_tupT, w_tupL, w_tupZ, kT_int, kT_bl, kT_non, kT_str, kT_tup, kT_lst, k2, Tv.isNon, Pt.run, Pts.run, setM, ownL, baseOk, seqV,
  List.map_cons, List.map_nil, List.cons_append, List.nil_append, List.append_nil, List.replicate_zero, List.replicate_succ, List.length_cons, List.length_nil, List.getElem?_cons_zero, List.getElem?_cons_succ, List.getElem?_nil, List.set_cons_zero, List.set_cons_succ, List.set_nil, Option.some.injEq, ↓reduceIte, reduceCtorEq, decide_true, decide_false, decide_eq_true_eq, Bool.not_true, Bool.not_false, Bool.false_eq_true, Bool.and_true, Bool.true_and, Bool.or_false, Bool.false_or, Bool.or_true, Bool.true_or, Bool.and_false, Bool.false_and, if_true, if_false, String.reduceEq, or_false, or_true, false_or, true_or, Int.reduceLE, Int.reduceLT, Int.reduceNeg, Int.reduceToNat, Int.reduceAdd, Nat.reduceAdd, Nat.reduceLT, Int.reduceSub, Int.reduceMul, Int.reduceEq, Nat.reduceEqDiff, Int.zero_sub, BEq.rfl, *])

/-! ### maps behind maps -/
def colx (m : M3) : V3 := ⟨m.a.x, m.b.x, m.c.x⟩
def coly (m : M3) : V3 := ⟨m.a.y, m.b.y, m.c.y⟩
def colz (m : M3) : V3 := ⟨m.a.z, m.b.z, m.c.z⟩
def rowM (r : V3) (m : M3) : V3 := ⟨dot r (colx m), dot r (coly m), dot r (colz m)⟩
def mulM (n m : M3) : M3 := ⟨rowM n.a m, rowM n.b m, rowM n.c m⟩
theorem Bd_colx {a b : Nat} {m : M3} (h : BdM a b m) : BdV a b (colx m) := ⟨h.a.x, h.b.x, h.c.x⟩
theorem Bd_coly {a b : Nat} {m : M3} (h : BdM a b m) : BdV a b (coly m) := ⟨h.a.y, h.b.y, h.c.y⟩
theorem Bd_colz {a b : Nat} {m : M3} (h : BdM a b m) : BdV a b (colz m) := ⟨h.a.z, h.b.z, h.c.z⟩
theorem Bd_rowM {r : V3} {m : M3} (hr : BdV 13 8 r) (h : BdM 13 8 m) : BdV 60 48 (rowM r m) := ⟨Bd_dot hr (Bd_colx h), Bd_dot hr (Bd_coly h), Bd_dot hr (Bd_colz h)⟩
theorem Bd_mulM {n m : M3} (hn : BdM 13 8 n) (h : BdM 13 8 m) : BdM 60 48 (mulM n m) := ⟨Bd_rowM hn.a h, Bd_rowM hn.b h, Bd_rowM hn.c h⟩
theorem t_column0 {m : M3} {s : S} : F_column [dM m, .int 0] s = .ok (dV (colx m)) s := by
  have y := fun v s => ixV0 (v := v) (s := s)
  have z := sz3
  unfold F_column b_column dM
  decreasing_trivial
  simp only [v_compF]
  decreasing_trivial
  rfl
theorem t_column1 {m : M3} {s : S} : F_column [dM m, .int 1] s = .ok (dV (coly m)) s := by
  have y := fun v s => ixV1 (v := v) (s := s)
  have z := sz3
  unfold F_column b_column dM
  decreasing_trivial
  simp only [v_compF]
  decreasing_trivial
  rfl
theorem t_column2 {m : M3} {s : S} : F_column [dM m, .int 2] s = .ok (dV (colz m)) s := by
  have y := fun v s => ixV2 (v := v) (s := s)
  have z := sz3
  unfold F_column b_column dM
  decreasing_trivial
  simp only [v_compF]
  decreasing_trivial
  rfl
theorem t_rowsq {r : V3} {n m : M3} {s : S} (hr : BdV 13 8 r) (h : BdM 13 8 m) : e_squares_times_2 [.v (dM n), .v (dM m), .v (dV r), .un] s = .ok (dV (rowM r m)) s := by
  have c0 := fun s => t_column0 (m := m) (s := s)
  have c1 := fun s => t_column1 (m := m) (s := s)
  have c2 := fun s => t_column2 (m := m) (s := s)
  have l0 := fun s => t_line (s := s) hr (Bd_colx h)
  have l1 := fun s => t_line (s := s) hr (Bd_coly h)
  have l2 := fun s => t_line (s := s) hr (Bd_colz h)
  have e0 : dV (rowM r m) = .tup [fr (dot r (colx m)), fr (dot r (coly m)), fr (dot r (colz m))] := rfl
  have g1 := rng3
  have g2 := rok3
  have z := sz3
  unfold e_squares_times_2 e_squares_times_1
  clear hr h
  decreasing_trivial
  simp only [v_compF]
  decreasing_trivial
theorem t_squares {n m : M3} {s : S} (hn : BdM 13 8 n) (h : BdM 13 8 m) : F_squares_times [dM n, dM m] s = .ok (dM (mulM n m)) s := by
  have e1 : ∀ s, e_squares_times_2 [.v (.tup [dV n.a, dV n.b, dV n.c]), .v (dM m), .v (dV n.a), .un] s = .ok (dV (rowM n.a m)) s := fun s => t_rowsq (s := s) (n := n) hn.a h
  have e2 : ∀ s, e_squares_times_2 [.v (.tup [dV n.a, dV n.b, dV n.c]), .v (dM m), .v (dV n.b), .un] s = .ok (dV (rowM n.b m)) s := fun s => t_rowsq (s := s) (n := n) hn.b h
  have e3 : ∀ s, e_squares_times_2 [.v (.tup [dV n.a, dV n.b, dV n.c]), .v (dM m), .v (dV n.c), .un] s = .ok (dV (rowM n.c m)) s := fun s => t_rowsq (s := s) (n := n) hn.c h
  have e0 : dM (mulM n m) = .tup [dV (rowM n.a m), dV (rowM n.b m), dV (rowM n.c m)] := rfl
  have ed : dM n = .tup [dV n.a, dV n.b, dV n.c] := rfl
  have z := sz3
  rw [e0, ed]
  unfold F_squares_times b_squares_times
  clear hn h e0 ed
  decreasing_trivial
  simp only [v_compF]
  decreasing_trivial
theorem t_behind {m n : M3} {t u : V3} {s : S} (hm : BdM 13 8 m) (hn : BdM 13 8 n) (ht : BdV 11 6 t) (hu : BdV 11 6 u) : F_behind [mD m t, mD n u] s = .ok (wD (mulM n m) (mp n u t)) s := by
  have e1 := fun s => t_squares (s := s) hn hm
  have e2 := fun s => t_mapped0 (s := s) (o := mD n u) (.inl rfl) hn ht hu
  have e3 := fun s => t_wide_init (s := s) (m := mulM n m) (t := mp n u t)
  have l0 := fld0
  have l1 := fld1
  unfold F_behind b_behind
  unfold mD at *
  clear hm hn ht hu
  decreasing_trivial
theorem behind_law (n m : M3) (u t v : V3) : mp (mulM n m) (mp n u t) v = mp n u (mp m t v) := by
  unfold mp mulM rowM colx coly colz dot
  simp only [V3.mk.injEq]
  refine ⟨?_, ?_, ?_⟩ <;> grind
theorem t_wide {m : M3} {t : V3} {s : S} : F_wide [mD m t] s = .ok (wD m t) s := by
  have e3 := fun s => t_wide_init (s := s) (m := m) (t := t)
  have l0 := fld0
  have l1 := fld1
  unfold F_wide b_wide mD
  decreasing_trivial
theorem dM_inj {m n : M3} (h : dM m = dM n) : m = n := by
  unfold dM at h
  simp only [D.tup.injEq, List.cons.injEq, and_true] at h
  cases m
  cases n
  simp only [M3.mk.injEq]
  exact ⟨dV_inj h.1, dV_inj h.2.1, dV_inj h.2.2⟩
theorem w_eqM {m n : M3} {s : S} : gEq (dM m) (dM n) s = .ok (.bl (decide (m = n))) s := w_eq (eqD_pl (n := 8) pl_M pl_M (by omega) (by rw [decide_eq_true_eq]; exact ⟨fun h => by rw [h], dM_inj⟩))
theorem t_are_alike {m n : M3} {t u : V3} {s : S} : F_are_alike [mD m t, mD n u] s = .ok (.bl (decide (m = n) && decide (t = u))) s := by
  have e1 := fun m n s => w_eqM (m := m) (n := n) (s := s)
  have e2 := fun s => w_eqV (u := t) (v := u) (s := s)
  have l0 := fld0
  have l1 := fld1
  unfold F_are_alike b_are_alike mD
  by_cases h1 : m = n
  · decreasing_trivial
  · decreasing_trivial
def u1 : V3 := ⟨1, 0, 0⟩
def u2 : V3 := ⟨0, 1, 0⟩
def u3 : V3 := ⟨0, 0, 1⟩
theorem Bd_u {v : V3} (h : v = V0 ∨ v = u1 ∨ v = u2 ∨ v = u3) : BdV 2 2 v := by
  rcases h with rfl | rfl | rfl | rfl
  · exact ⟨Bd0, Bd0, Bd0⟩
  · exact ⟨Bd1, Bd0, Bd0⟩
  · exact ⟨Bd0, Bd1, Bd0⟩
  · exact ⟨Bd0, Bd0, Bd1⟩
def unl (m : M3) (t : V3) (n : M3) (u : V3) : List V3 := [V0, u1, u2, u3].filter fun v => !decide (mp m t v = mp n u v)
def firstD : List V3 → D
  | [] => .non
  | v :: _ => dV v
theorem t_apart {m n : M3} {t u : V3} {s : S} (hm : BdM 13 8 m) (hn : BdM 13 8 n) (ht : BdV 11 6 t) (hu : BdV 11 6 u) : F_apart [mD m t, mD n u] s = .ok (firstD (unl m t n u)) s := by
  have p0 := fun s => t_mapped0 (s := s) (o := mD m t) (.inl rfl) hm (Bd_u (v := V0) (by simp)) ht
  have p1 := fun s => t_mapped0 (s := s) (o := mD m t) (.inl rfl) hm (Bd_u (v := u1) (by simp)) ht
  have p2 := fun s => t_mapped0 (s := s) (o := mD m t) (.inl rfl) hm (Bd_u (v := u2) (by simp)) ht
  have p3 := fun s => t_mapped0 (s := s) (o := mD m t) (.inl rfl) hm (Bd_u (v := u3) (by simp)) ht
  have q0 := fun s => t_mapped0 (s := s) (o := mD n u) (.inl rfl) hn (Bd_u (v := V0) (by simp)) hu
  have q1 := fun s => t_mapped0 (s := s) (o := mD n u) (.inl rfl) hn (Bd_u (v := u1) (by simp)) hu
  have q2 := fun s => t_mapped0 (s := s) (o := mD n u) (.inl rfl) hn (Bd_u (v := u2) (by simp)) hu
  have q3 := fun s => t_mapped0 (s := s) (o := mD n u) (.inl rfl) hn (Bd_u (v := u3) (by simp)) hu
  have nv := fun u v s => w_neV (u := u) (v := v) (s := s)
  have d0 : D.tup [.tup [.int 0, .int 1], .tup [.int 0, .int 1], .tup [.int 0, .int 1]] = dV V0 := rfl
  have d1 : D.tup [.tup [.int 1, .int 1], .tup [.int 0, .int 1], .tup [.int 0, .int 1]] = dV u1 := rfl
  have d2 : D.tup [.tup [.int 0, .int 1], .tup [.int 1, .int 1], .tup [.int 0, .int 1]] = dV u2 := rfl
  have d3 : D.tup [.tup [.int 0, .int 1], .tup [.int 0, .int 1], .tup [.int 1, .int 1]] = dV u3 := rfl
  clear hm hn ht hu
  generalize mD m t = A at *
  generalize mD n u = B at *
  unfold F_apart b_apart unl
  rw [List.filter_cons, List.filter_cons, List.filter_cons, List.filter_cons, List.filter_nil]
  generalize mp m t V0 = x0 at *
  generalize mp n u V0 = y0 at *
  generalize mp m t u1 = x1 at *
  generalize mp n u u1 = y1 at *
  generalize mp m t u2 = x2 at *
  generalize mp n u u2 = y2 at *
  generalize mp m t u3 = x3 at *
  generalize mp n u u3 = y3 at *
  decreasing_trivial
  simp only [v_loopF]
  unfold l_apart_1
  by_cases h0 : x0 = y0 <;> by_cases h1 : x1 = y1 <;> by_cases h2 : x2 = y2 <;> by_cases h3 : x3 = y3 <;> (decreasing_trivial; all_goals rfl)
end K05

namespace K05
open PySem PySem.Spec L2 Tv
local macro_rules | `(tactic| get_elem_tactic_extensible) => `(tactic| simp only [v_var, v_varB, v_c, v_op, v_un, v_nil, v_cons, v_tup, v_lst, v_test, v_and, v_or, v_not, v_if, v_andV, v_orV, v_notV, v_chain, v_call, v_callF, v_callV, v_isi, v_slice, v_comp, unowned, List.all_cons, List.all_nil, wipeR, and_true, true_and, and_false, false_and, Int.cast_ofNat_Int, v_part, v_noPart, v_fld, v_yes, v_seqI, v_rng1, v_rng2, v_enumI, v_zipI, v_next, v_seq, v_set, v_setO, v_drop, v_ret, v_retN, v_brk, v_cnt, v_ifS, v_frz, v_while, v_for, v_meth, v_setIx, v_cell, v_aug, v_pt, v_par, v_setF, v_fun, v_raise, v_told, v_lamV, v_callL, v_newC, v_setIxE, w_setCell, w_tupC, w_isNotB, w_ix30, w_ix31, w_ix32, w_ixL30, w_ixL31, w_ixL32, w_ixL20, w_ixL21, v_ne_ok, v_loopF_nil, v_compF_nil,
  w_add, Tv.w_sub, w_lt, w_le, w_gt, w_ge, w_neg, w_eqI, w_neI, w_eqB, w_neB, w_is, w_isNot, w_ix20, w_ix21, w_lenT, w_lenL, w_lenZ, w_abs, w_int, w_min, w_max, w_tupT, w_tupL, w_tupZ, kT_int, kT_bl, kT_non, kT_str, kT_tup, kT_lst, k2, Tv.isNon, Pt.run, Pts.run, setM, ownL, baseOk, seqV,
  List.map_cons, List.map_nil, List.cons_append, List.nil_append, List.append_nil, List.replicate_zero, List.replicate_succ, List.length_cons, List.length_nil, List.getElem?_cons_zero, List.getElem?_cons_succ, List.getElem?_nil, List.set_cons_zero, List.set_cons_succ, List.set_nil, Option.some.injEq, ↓reduceIte, reduceCtorEq, decide_true, decide_false, decide_eq_true_eq, Bool.not_true, Bool.not_false, Bool.false_eq_true, Bool.and_true, Bool.true_and, Bool.or_false, Bool.false_or, Bool.or_true, Bool.true_or, Bool.and_false, Bool.false_and, if_true, if_false, String.reduceEq, or_false, or_true, false_or, true_or, Int.reduceLE, Int.reduceLT, Int.reduceNeg, Int.reduceToNat, Int.reduceAdd, Nat.reduceAdd, Nat.reduceLT, Int.reduceSub, Int.reduceMul, Int.reduceEq, Nat.reduceEqDiff, Int.zero_sub, BEq.rfl])
local macro_rules | `(tactic| decreasing_trivial) => `(tactic| simp only [v_var, v_varB, v_c, v_op, v_un, v_nil, v_cons, v_tup, v_lst, v_test, v_and, v_or, v_not, v_if, v_andV, v_orV, v_notV, v_chain, v_call, v_callF, v_callV, v_isi, v_slice, v_comp, unowned, List.all_cons, List.all_nil, wipeR, and_true, true_and, and_false, false_and, Int.cast_ofNat_Int, v_part, v_noPart, v_fld, v_yes, v_seqI, v_rng1, v_rng2, v_enumI, v_zipI, v_next, v_seq, v_set, v_setO, v_drop, v_ret, v_retN, v_brk, v_cnt, v_ifS, v_frz, v_while, v_for, v_meth, v_setIx, v_cell, v_aug, v_pt, v_par, v_setF, v_fun, v_raise, v_told, v_lamV, v_callL, v_newC, v_setIxE, w_setCell, w_tupC, w_isNotB, w_ix30, w_ix31, w_ix32, w_ixL30, w_ixL31, w_ixL32, w_ixL20, w_ixL21, v_ne_ok, v_loopF_nil, v_compF_nil,
  w_add, Tv.w_sub, w_lt, w_le, w_gt, w_ge, w_neg, w_eqI, w_neI, w_eqB, w_neB, w_is, w_isNot, w_ix20, w_ix21, w_lenT, w_lenL, w_lenZ, w_abs, w_int, w_min, w_max, w_tupT, w_tupL, w_tupZ, kT_int, kT_bl, kT_non, kT_str, kT_tup, kT_lst, k2, Tv.isNon, Pt.run, Pts.run, setM, ownL, baseOk, seqV,
  List.map_cons, List.map_nil, List.cons_append, List.nil_append, List.append_nil, List.replicate_zero, List.replicate_succ, List.length_cons, List.length_nil, List.getElem?_cons_zero, List.getElem?_cons_succ, List.getElem?_nil, List.set_cons_zero, List.set_cons_succ, List.set_nil, Option.some.injEq, ↓reduceIte, reduceCtorEq, decide_true, decide_false, decide_eq_true_eq, Bool.not_true, Bool.not_false, Bool.false_eq_true, Bool.and_true, Bool.true_and, Bool.or_false, Bool.false_or, Bool.or_true, Bool.true_or, Bool.and_false, Bool.false_and, if_true, if_false, String.reduceEq, or_false, or_true, false_or, true_or, Int.reduceLE, Int.reduceLT, Int.reduceNeg, Int.reduceToNat, Int.reduceAdd, Nat.reduceAdd, Nat.reduceLT, Int.reduceSub, Int.reduceMul, Int.reduceEq, Nat.reduceEqDiff, Int.zero_sub, BEq.rfl, *])

/-! ### same_for, keeps_greys, difference, white_map -/
def idM : M3 := ⟨u1, u2, u3⟩
def zeM : M3 := ⟨V0, V0, V0⟩
theorem Bd_idM : BdM 13 8 idM := ⟨⟨Bd1, Bd0, Bd0⟩, ⟨Bd0, Bd1, Bd0⟩, ⟨Bd0, Bd0, Bd1⟩⟩
theorem Bd_zeM : BdM 13 8 zeM := ⟨⟨Bd0, Bd0, Bd0⟩, ⟨Bd0, Bd0, Bd0⟩, ⟨Bd0, Bd0, Bd0⟩⟩
theorem Bd_V0 {a b : Nat} (hb : 1 ≤ b := by omega) : BdV a b V0 := ⟨Bd0 hb, Bd0 hb, Bd0 hb⟩
theorem int_t {s : S} : gInt [.bl true] s = .ok (.int 1) s := rfl
theorem int_f {s : S} : gInt [.bl false] s = .ok (.int 0) s := rfl
theorem t_same_t {s : S} (hs : s[1]? = some (.tab 1)) : F_same_for [.bl true] s = .ok (mD idM V0) s := by
  have e1 := t_map_init (s := s) Bd_idM (Bd_V0 (a := 13) (b := 8)) hs
  have d1 : D.tup [.tup [.tup [.int 1, .int 1], .tup [.int 0, .int 1], .tup [.int 0, .int 1]], .tup [.tup [.int 0, .int 1], .tup [.int 1, .int 1], .tup [.int 0, .int 1]], .tup [.tup [.int 0, .int 1], .tup [.int 0, .int 1], .tup [.int 1, .int 1]]] = dM idM := rfl
  have m3 := fun x s => mulT3 (x := x) (s := s)
  have z0 := dV0
  have g1 := rng3
  have g2 := rok3
  have z := sz3
  have it := fun s => int_t (s := s)
  have jt := fun s => int_f (s := s)
  unfold F_same_for b_same_for e_same_for_2 e_same_for_1 e_same_for_3
  decreasing_trivial
  simp only [v_compF]
  decreasing_trivial
  simp only [v_compF]
  decreasing_trivial
  simp only [v_compF]
  decreasing_trivial
theorem t_same_f {s : S} (hs : s[1]? = some (.tab 1)) : F_same_for [.bl false] s = .ok (mD zeM V0) s := by
  have e1 := t_map_init (s := s) Bd_zeM (Bd_V0 (a := 13) (b := 8)) hs
  have d1 : D.tup [.tup [.tup [.int 0, .int 1], .tup [.int 0, .int 1], .tup [.int 0, .int 1]], .tup [.tup [.int 0, .int 1], .tup [.int 0, .int 1], .tup [.int 0, .int 1]], .tup [.tup [.int 0, .int 1], .tup [.int 0, .int 1], .tup [.int 0, .int 1]]] = dM zeM := rfl
  have m3 := fun x s => mulT3 (x := x) (s := s)
  have z0 := dV0
  have g1 := rng3
  have g2 := rok3
  have z := sz3
  have it := fun s => int_t (s := s)
  have jt := fun s => int_f (s := s)
  have d2 : D.tup [dV V0, dV V0, dV V0] = dM zeM := rfl
  unfold F_same_for b_same_for e_same_for_2 e_same_for_1 e_same_for_3
  decreasing_trivial
  simp only [v_compF]
  decreasing_trivial
  simp only [v_compF]
  decreasing_trivial
  simp only [v_compF]
  decreasing_trivial
def sumV (v : V3) : Rat := v.x + v.y + v.z
def greyB (m : M3) (t : V3) : Bool := (decide (sumV m.a = sumV m.b) && decide (sumV m.b = sumV m.c)) && (decide (t.x = t.y) && decide (t.y = t.z))
theorem w_eqF {p q : Rat} {s : S} : gEq (fr p) (fr q) s = .ok (.bl (decide (p = q))) s := w_eq (eqD_pl (n := 8) rfl rfl (by omega) (by rw [decide_eq_true_eq]; exact ⟨fun h => by rw [h], fr_inj⟩))
theorem t_greys {m : M3} {t : V3} {s : S} (hm : BdM 13 8 m) : F_keeps_greys [mD m t] s = .ok (.bl (greyB m t)) s := by
  have e1 := fun s => t_totT (s := s) hm.a.x hm.a.y hm.a.z
  have e2 := fun s => t_totT (s := s) hm.b.x hm.b.y hm.b.z
  have e3 := fun s => t_totT (s := s) hm.c.x hm.c.y hm.c.z
  have ef := fun p q s => w_eqF (p := p) (q := q) (s := s)
  have l0 := fld0
  have l1 := fld1
  have z := sz3
  unfold F_keeps_greys b_keeps_greys e_keeps_greys_1 greyB sumV mD
  clear hm
  rw [show dV t = .tup [fr t.x, fr t.y, fr t.z] from rfl]
  rw [show dM m = .tup [.tup [fr m.a.x, fr m.a.y, fr m.a.z], .tup [fr m.b.x, fr m.b.y, fr m.b.z], .tup [fr m.c.x, fr m.c.y, fr m.c.z]] from rfl]
  generalize m.a.x + m.a.y + m.a.z = A at *
  generalize m.b.x + m.b.y + m.b.z = B at *
  generalize m.c.x + m.c.y + m.c.z = C at *
  generalize t.x = x at *
  generalize t.y = y at *
  generalize t.z = w at *
  decreasing_trivial
  simp only [v_compF]
  decreasing_trivial
  generalize decide (A = B) = p1
  generalize decide (B = C) = p2
  generalize decide (x = y) = p3
  generalize decide (y = w) = p4
  cases p1 <;> cases p2 <;> cases p3 <;> cases p4 <;> rfl
def subV (u v : V3) : V3 := ⟨u.x - v.x, u.y - v.y, u.z - v.z⟩
theorem t_diff {u v : V3} {a b c d : Nat} {s : S} (hu : BdV a b u) (hv : BdV c d v) (h : a + b + c + d ≤ 1000 := by omega) : F_difference [dV u, dV v] s = .ok (dV (subV u v)) s := by
  have e1 := fun s => t_minus (s := s) hu.x hv.x
  have e2 := fun s => t_minus (s := s) hu.y hv.y
  have e3 := fun s => t_minus (s := s) hu.z hv.z
  have e4 := fun v s => t_reqcol (v := v) (s := s)
  have e5 := zip3 (a := fr u.x) (b := fr u.y) (c := fr u.z) (d := fr v.x) (e := fr v.y) (f := fr v.z)
  have du : dV u = .tup [fr u.x, fr u.y, fr u.z] := rfl
  have dv : dV v = .tup [fr v.x, fr v.y, fr v.z] := rfl
  have ds : dV (subV u v) = .tup [fr (u.x - v.x), fr (u.y - v.y), fr (u.z - v.z)] := rfl
  have f1 := e4 u
  have f2 := e4 v
  rw [du] at f1
  rw [dv] at f2
  have z := sz3
  rw [ds, du, dv]
  unfold F_difference b_difference e_difference_1
  clear hu hv h e4 du dv ds
  decreasing_trivial
  simp only [v_compF]
  decreasing_trivial
def diagM (u v : V3) : M3 := ⟨⟨v.x / u.x, 0, 0⟩, ⟨0, v.y / u.y, 0⟩, ⟨0, 0, v.z / u.z⟩⟩
theorem t_white_no {u v : V3} {s : S} (h : u.x = 0 ∨ u.y = 0 ∨ u.z = 0) : F_white_map [dV u, dV v] s = .er 13 [] s := by
  have e4 := fun v s => t_reqcol (v := v) (s := s)
  have f0 := fun q s => fr_ix0 (q := q) (s := s)
  have n0 := fun q => num0 (q := q)
  have e5 := fun a b c s => any3 (a := a) (b := b) (c := c) (s := s)
  have z := sz3
  have du : dV u = .tup [fr u.x, fr u.y, fr u.z] := rfl
  have f1 := e4 u
  have f2 := e4 v
  rw [du] at f1
  have hb : (decide (u.x = 0) || (decide (u.y = 0) || decide (u.z = 0))) = true := by
    rcases h with h | h | h <;> simp [h]
  rw [du]
  unfold F_white_map b_white_map e_white_map_1
  clear h du e4
  decreasing_trivial
  simp only [v_compF]
  decreasing_trivial
theorem rep3 {x : D} {s : S} : gRep (.lst [x]) (.int 3) s = .ok (.lst [x, x, x]) s := by
  show (if (3 : Int) < 2 ^ 63 ∧ -(2 ^ 63) ≤ (3 : Int) ∧ ([x] : List D).length * (3 : Int).toNat ≤ sizeLine then R.ok (D.lst (List.replicate (3 : Int).toNat [x]).flatten) s else R.no) = _
  rw [if_pos ⟨by decide, by decide, size_ok (by simp)⟩]
  rfl
theorem wm_nw {a b c d e f g : SD} {s : S} : e_white_map_2 [a, b, c, d, e, f, g] s = .ok (.cell s.length) (s ++ [.lst [fr 0, fr 0, fr 0]]) := by
  have r3 := fun x s => rep3 (x := x) (s := s)
  have q0 := fr_0
  unfold e_white_map_2
  decreasing_trivial
theorem wm_cm {a b c d e f g : SD} {s : S} : compF (.nm 5) mYes e_white_map_2 [a, b, c, d, e, f, g] [.int 0, .int 1, .int 2] s = .ok [.cell s.length, .cell (s.length + 1), .cell (s.length + 2)] (s ++ [.lst [fr 0, fr 0, fr 0], .lst [fr 0, fr 0, fr 0], .lst [fr 0, fr 0, fr 0]]) := by
  have nw := fun a b c d e f g s => wm_nw (a := a) (b := b) (c := c) (d := d) (e := e) (f := f) (g := g) (s := s)
  simp only [v_compF]
  decreasing_trivial
  simp
theorem wm_any {a b c d e f g : SD} {p q r : Rat} {s : S} : compF (.nm 4) mYes e_white_map_1 [a, b, c, d, e, f, g] [fr p, fr q, fr r] s = .ok [.bl (decide (p = 0)), .bl (decide (q = 0)), .bl (decide (r = 0))] s := by
  have f0 := fun q s => fr_ix0 (q := q) (s := s)
  have n0 := fun q => num0 (q := q)
  simp only [v_compF]
  unfold e_white_map_1
  decreasing_trivial
theorem t_white {u v : V3} {s : S} {a b c d : Nat} (hu : BdV a b u) (hv : BdV c d v) (h1 : u.x ≠ 0) (h2 : u.y ≠ 0) (h3 : u.z ≠ 0) (h : a + b + c + d ≤ 1000 := by omega) : ∃ r, F_white_map [dV u, dV v] s = .ok (wD (diagM u v) V0) (s ++ r) := by
  have e4 := fun v s => t_reqcol (v := v) (s := s)
  have f0 := fun q s => fr_ix0 (q := q) (s := s)
  have n0 := fun q => num0 (q := q)
  have e5 := fun a b c s => any3 (a := a) (b := b) (c := c) (s := s)
  have z := sz3
  have g1 := rng3
  have g2 := rok3
  have du : dV u = .tup [fr u.x, fr u.y, fr u.z] := rfl
  have dv : dV v = .tup [fr v.x, fr v.y, fr v.z] := rfl
  have f1 := e4 u
  have f2 := e4 v
  rw [du] at f1
  rw [dv] at f2
  have hb : (decide (u.x = 0) || (decide (u.y = 0) || decide (u.z = 0))) = false := by
    simp [h1, h2, h3]
  have b1 := fun s => t_by (s := s) hv.x hu.x h1
  have b2 := fun s => t_by (s := s) hv.y hu.y h2
  have b3 := fun s => t_by (s := s) hv.z hu.z h3
  have ca := fun a b c d e f g p q r s => wm_any (a := a) (b := b) (c := c) (d := d) (e := e) (f := f) (g := g) (p := p) (q := q) (r := r) (s := s)
  have gl : ∀ (l : List D) (s : S), gTupleC [.lst l] s = .ok (.tup l) s := fun _ _ => rfl
  have cm := fun a b c d e f g => wm_cm (a := a) (b := b) (c := c) (d := d) (e := e) (f := f) (g := g) (s := s)
  have m3 := fun x s => mulT3 (x := x) (s := s)
  have z0 := dV0
  have k0 : ∀ a b c : D, (s ++ [a, b, c])[s.length]? = some a := fun a b c => by simp
  have k1 : ∀ a b c : D, (s ++ [a, b, c])[s.length + 1]? = some b := fun a b c => by simp
  have k2 : ∀ a b c : D, (s ++ [a, b, c])[s.length + 2]? = some c := fun a b c => by simp
  have s0 : ∀ a b c x : D, (s ++ [a, b, c]).set s.length x = s ++ [x, b, c] := fun a b c x => by simp
  have s1 : ∀ a b c x : D, (s ++ [a, b, c]).set (s.length + 1) x = s ++ [a, x, c] := fun a b c x => by simp
  have s2 : ∀ a b c x : D, (s ++ [a, b, c]).set (s.length + 2) x = s ++ [a, b, x] := fun a b c x => by simp
  have i0 : ixN 3 0 = some 0 := rfl
  have i1 : ixN 3 1 = some 1 := rfl
  have i2 : ixN 3 2 = some 2 := rfl
  have wi := fun s => t_wide_init (m := diagM u v) (t := V0) (s := s)
  have dm : D.tup [.tup [fr (v.x / u.x), fr 0, fr 0], .tup [fr 0, fr (v.y / u.y), fr 0], .tup [fr 0, fr 0, fr (v.z / u.z)]] = dM (diagM u v) := rfl
  refine ⟨[.lst [fr (v.x / u.x), fr 0, fr 0], .lst [fr 0, fr (v.y / u.y), fr 0], .lst [fr 0, fr 0, fr (v.z / u.z)]], ?_⟩
  rw [du, dv]
  unfold F_white_map b_white_map
  clear du dv e4 hu hv h h1 h2 h3
  decreasing_trivial
  simp only [v_loopF]
  unfold l_white_map_1
  decreasing_trivial
  simp only [v_compF]
  unfold e_white_map_3
  decreasing_trivial
end K05

namespace K05
open PySem PySem.Spec L2 Tv
/-! ### the plain laws of maps -/
theorem V3.ext' {u v : V3} (h1 : u.x = v.x) (h2 : u.y = v.y) (h3 : u.z = v.z) : u = v := by
  cases u
  cases v
  simp only [V3.mk.injEq]
  exact ⟨h1, h2, h3⟩
section
variable {m : M3}
theorem adj {D n a : Rat} (hD : D ≠ 0) (h : n = a * D) : n / D = a := by
  rw [h]
  grind
theorem left_row (m : M3) (hD : det m ≠ 0) {p q w : Rat} {c0 c1 c2 : Rat} (hp : p = c0 / det m) (hq : q = c1 / det m) (hw : w = c2 / det m) (v : Rat) {a b c : Rat} (h : c0 * a + c1 * b + c2 * c = v * det m) : p * a + q * b + w * c = v := by
  rw [hp, hq, hw]
  have : c0 / det m * a + c1 / det m * b + c2 / det m * c = (c0 * a + c1 * b + c2 * c) / det m := by grind
  rw [this]
  exact adj hD h
end
theorem back1 {m : M3} {t v : V3} (h : det m ≠ 0) : mp (inv m) (tinv m t) (mp m t v) = v := by
  have key : ∀ (r : V3), dot r (mp m t v) + -dot r t = v.x * (r.x * m.a.x + r.y * m.b.x + r.z * m.c.x) + v.y * (r.x * m.a.y + r.y * m.b.y + r.z * m.c.y) + v.z * (r.x * m.a.z + r.y * m.b.z + r.z * m.c.z) := fun r => by
    unfold dot mp dot
    grind
  have i1 : (inv m).a.x * m.a.x + (inv m).a.y * m.b.x + (inv m).a.z * m.c.x = 1 := left_row m h rfl rfl rfl 1 (by unfold cof00 cof10 cof20 det cof00 cof01 cof02; grind)
  have i2 : (inv m).a.x * m.a.y + (inv m).a.y * m.b.y + (inv m).a.z * m.c.y = 0 := left_row m h rfl rfl rfl 0 (by unfold cof00 cof10 cof20; grind)
  have i3 : (inv m).a.x * m.a.z + (inv m).a.y * m.b.z + (inv m).a.z * m.c.z = 0 := left_row m h rfl rfl rfl 0 (by unfold cof00 cof10 cof20; grind)
  have j1 : (inv m).b.x * m.a.x + (inv m).b.y * m.b.x + (inv m).b.z * m.c.x = 0 := left_row m h rfl rfl rfl 0 (by unfold cof01 cof11 cof21; grind)
  have j2 : (inv m).b.x * m.a.y + (inv m).b.y * m.b.y + (inv m).b.z * m.c.y = 1 := left_row m h rfl rfl rfl 1 (by unfold cof01 cof11 cof21 det cof00 cof01 cof02; grind)
  have j3 : (inv m).b.x * m.a.z + (inv m).b.y * m.b.z + (inv m).b.z * m.c.z = 0 := left_row m h rfl rfl rfl 0 (by unfold cof01 cof11 cof21; grind)
  have k1 : (inv m).c.x * m.a.x + (inv m).c.y * m.b.x + (inv m).c.z * m.c.x = 0 := left_row m h rfl rfl rfl 0 (by unfold cof02 cof12 cof22; grind)
  have k2 : (inv m).c.x * m.a.y + (inv m).c.y * m.b.y + (inv m).c.z * m.c.y = 0 := left_row m h rfl rfl rfl 0 (by unfold cof02 cof12 cof22; grind)
  have k3 : (inv m).c.x * m.a.z + (inv m).c.y * m.b.z + (inv m).c.z * m.c.z = 1 := left_row m h rfl rfl rfl 1 (by unfold cof02 cof12 cof22 det cof00 cof01 cof02; grind)
  refine V3.ext' ?_ ?_ ?_
  · show dot (inv m).a (mp m t v) + -dot (inv m).a t = _
    rw [key, i1, i2, i3]
    grind
  · show dot (inv m).b (mp m t v) + -dot (inv m).b t = _
    rw [key, j1, j2, j3]
    grind
  · show dot (inv m).c (mp m t v) + -dot (inv m).c t = _
    rw [key, k1, k2, k3]
    grind
theorem right_row (m : M3) (hD : det m ≠ 0) {p q w : Rat} {c0 c1 c2 : Rat} (hp : p = c0 / det m) (hq : q = c1 / det m) (hw : w = c2 / det m) (v : Rat) {a b c : Rat} (h : a * c0 + b * c1 + c * c2 = v * det m) : a * p + b * q + c * w = v := by
  have := left_row m hD hp hq hw v (a := a) (b := b) (c := c) (by rw [← h]; grind)
  rw [← this]
  grind
theorem back2 {m : M3} {t v : V3} (h : det m ≠ 0) : mp m t (mp (inv m) (tinv m t) v) = v := by
  have key : ∀ (r : V3) (e : Rat), dot r (mp (inv m) (tinv m t) v) + e = (v.x - t.x) * (r.x * (inv m).a.x + r.y * (inv m).b.x + r.z * (inv m).c.x) + (v.y - t.y) * (r.x * (inv m).a.y + r.y * (inv m).b.y + r.z * (inv m).c.y) + (v.z - t.z) * (r.x * (inv m).a.z + r.y * (inv m).b.z + r.z * (inv m).c.z) + e := fun r e => by
    unfold tinv mp dot
    generalize (inv m) = n
    simp only [dot]
    grind
  have i1 : m.a.x * (inv m).a.x + m.a.y * (inv m).b.x + m.a.z * (inv m).c.x = 1 := right_row m h rfl rfl rfl 1 (by unfold det cof00 cof01 cof02; grind)
  have i2 : m.a.x * (inv m).a.y + m.a.y * (inv m).b.y + m.a.z * (inv m).c.y = 0 := right_row m h rfl rfl rfl 0 (by unfold cof10 cof11 cof12; grind)
  have i3 : m.a.x * (inv m).a.z + m.a.y * (inv m).b.z + m.a.z * (inv m).c.z = 0 := right_row m h rfl rfl rfl 0 (by unfold cof20 cof21 cof22; grind)
  have j1 : m.b.x * (inv m).a.x + m.b.y * (inv m).b.x + m.b.z * (inv m).c.x = 0 := right_row m h rfl rfl rfl 0 (by unfold cof00 cof01 cof02; grind)
  have j2 : m.b.x * (inv m).a.y + m.b.y * (inv m).b.y + m.b.z * (inv m).c.y = 1 := right_row m h rfl rfl rfl 1 (by unfold cof10 cof11 cof12 det cof00 cof01 cof02; grind)
  have j3 : m.b.x * (inv m).a.z + m.b.y * (inv m).b.z + m.b.z * (inv m).c.z = 0 := right_row m h rfl rfl rfl 0 (by unfold cof20 cof21 cof22; grind)
  have k1 : m.c.x * (inv m).a.x + m.c.y * (inv m).b.x + m.c.z * (inv m).c.x = 0 := right_row m h rfl rfl rfl 0 (by unfold cof00 cof01 cof02; grind)
  have k2 : m.c.x * (inv m).a.y + m.c.y * (inv m).b.y + m.c.z * (inv m).c.y = 0 := right_row m h rfl rfl rfl 0 (by unfold cof10 cof11 cof12; grind)
  have k3 : m.c.x * (inv m).a.z + m.c.y * (inv m).b.z + m.c.z * (inv m).c.z = 1 := right_row m h rfl rfl rfl 1 (by unfold cof20 cof21 cof22 det cof00 cof01 cof02; grind)
  refine V3.ext' ?_ ?_ ?_
  · show dot m.a (mp (inv m) (tinv m t) v) + t.x = _
    rw [key, i1, i2, i3]
    grind
  · show dot m.b (mp (inv m) (tinv m t) v) + t.y = _
    rw [key, j1, j2, j3]
    grind
  · show dot m.c (mp (inv m) (tinv m t) v) + t.z = _
    rw [key, k1, k2, k3]
    grind
theorem acr1_ne {l : V3} : acr1 l ≠ V0 := by
  unfold acr1 V0
  intro h
  by_cases h1 : l.x = 0
  · rw [if_pos h1] at h
    simp [V3.mk.injEq] at h
  · rw [if_neg h1] at h
    by_cases h2 : l.y = 0
    · rw [if_pos h2] at h
      simp [V3.mk.injEq] at h
    · rw [if_neg h2] at h
      simp only [V3.mk.injEq] at h
      exact h1 h.2.1
theorem acr1_dot {l r : V3} (hl : l ≠ V0) (h1 : l.x * r.y - l.y * r.x = 0) (h2 : l.x * r.z - l.z * r.x = 0) (h3 : l.y * r.z - l.z * r.y = 0) : dot r (acr1 l) = 0 := by
  unfold acr1 dot
  by_cases c1 : l.x = 0
  · rw [if_pos c1]
    rw [c1] at h1 h2
    have : l.y ≠ 0 ∨ l.z ≠ 0 := by
      refine Classical.byContradiction fun hn => hl ?_
      refine V3.ext' c1 ?_ ?_
      · exact Classical.byContradiction fun h => hn (.inl h)
      · exact Classical.byContradiction fun h => hn (.inr h)
    rcases this with h | h
    · have : r.x = 0 := by grind
      simp only [this]
      grind
    · have : r.x = 0 := by grind
      simp only [this]
      grind
  · rw [if_neg c1]
    by_cases c2 : l.y = 0
    · rw [if_pos c2]
      rw [c2] at h1
      have : r.y = 0 := by grind
      simp only [this]
      grind
    · rw [if_neg c2]
      dsimp only
      grind
theorem dot_V0 {r : V3} {v : V3} (h : r = V0) : dot r v = 0 := by
  rw [h]
  unfold dot V0
  dsimp only
  grind
theorem acr_ok {m : M3} (h0 : cofr0 m = V0) (h1 : cofr1 m = V0) (h2 : cofr2 m = V0) : acr m ≠ V0 ∧ dot m.a (acr m) = 0 ∧ dot m.b (acr m) = 0 ∧ dot m.c (acr m) = 0 := by
  unfold cofr0 V0 at h0
  unfold cofr1 V0 at h1
  unfold cofr2 V0 at h2
  simp only [V3.mk.injEq] at h0 h1 h2
  obtain ⟨a0, a1, a2⟩ := h0
  obtain ⟨b0, b1, b2⟩ := h1
  obtain ⟨c0, c1, c2⟩ := h2
  unfold cof00 at a0
  unfold cof01 at a1
  unfold cof02 at a2
  unfold cof10 at b0
  unfold cof11 at b1
  unfold cof12 at b2
  unfold cof20 at c0
  unfold cof21 at c1
  unfold cof22 at c2
  unfold acr
  by_cases ha : m.a = V0
  · rw [if_pos ha]
    by_cases hb : m.b = V0
    · rw [if_pos hb]
      by_cases hc : m.c = V0
      · rw [if_pos hc]
        refine ⟨fun h => ?_, dot_V0 ha, dot_V0 hb, dot_V0 hc⟩
        unfold V0 at h
        simp [V3.mk.injEq] at h
      · rw [if_neg hc]
        exact ⟨acr1_ne, dot_V0 ha, dot_V0 hb, acr1_dot hc (by grind) (by grind) (by grind)⟩
    · rw [if_neg hb]
      exact ⟨acr1_ne, dot_V0 ha, acr1_dot hb (by grind) (by grind) (by grind), acr1_dot hb (by grind) (by grind) (by grind)⟩
  · rw [if_neg ha]
    exact ⟨acr1_ne, acr1_dot ha (by grind) (by grind) (by grind), acr1_dot ha (by grind) (by grind) (by grind), acr1_dot ha (by grind) (by grind) (by grind)⟩
theorem gone_ok {m : M3} (h : det m = 0) : gone m ≠ V0 ∧ dot m.a (gone m) = 0 ∧ dot m.b (gone m) = 0 ∧ dot m.c (gone m) = 0 := by
  unfold gone
  by_cases h0 : cofr0 m = V0
  · rw [if_pos h0]
    by_cases h1 : cofr1 m = V0
    · rw [if_pos h1]
      by_cases h2 : cofr2 m = V0
      · rw [if_pos h2]
        exact acr_ok h0 h1 h2
      · rw [if_neg h2]
        refine ⟨h2, ?_, ?_, ?_⟩
        · unfold cofr2 dot cof20 cof21 cof22
          dsimp only
          grind
        · unfold cofr2 dot cof20 cof21 cof22
          dsimp only
          grind
        · rw [← h]
          unfold det cofr2 dot cof20 cof21 cof22 cof00 cof01 cof02
          dsimp only
          grind
    · rw [if_neg h1]
      refine ⟨h1, ?_, ?_, ?_⟩
      · unfold cofr1 dot cof10 cof11 cof12
        dsimp only
        grind
      · rw [← h]
        unfold det cofr1 dot cof10 cof11 cof12 cof00 cof01 cof02
        dsimp only
        grind
      · unfold cofr1 dot cof10 cof11 cof12
        dsimp only
        grind
  · rw [if_neg h0]
    refine ⟨h0, ?_, ?_, ?_⟩
    · rw [← h]
      unfold det cofr0 dot
      dsimp only
    · unfold cofr0 dot cof00 cof01 cof02
      dsimp only
      grind
    · unfold cofr0 dot cof00 cof01 cof02
      dsimp only
      grind
theorem mp_V0 {m : M3} {t : V3} : mp m t V0 = t := by
  refine V3.ext' ?_ ?_ ?_ <;> (unfold mp dot V0; dsimp only; grind)
theorem unl_nil {m n : M3} {t u : V3} : (unl m t n u = []) ↔ (m = n ∧ t = u) := by
  unfold unl
  rw [List.filter_eq_nil_iff]
  constructor
  · intro h
    have g : ∀ v, v ∈ [V0, u1, u2, u3] → mp m t v = mp n u v := fun v hv => by simpa using h v hv
    have g0 := g V0 (by simp)
    rw [mp_V0, mp_V0] at g0
    subst g0
    have a1 := g u1 (by simp)
    have a2 := g u2 (by simp)
    have a3 := g u3 (by simp)
    unfold mp dot u1 at a1
    unfold mp dot u2 at a2
    unfold mp dot u3 at a3
    simp only [V3.mk.injEq] at a1 a2 a3
    refine ⟨?_, rfl⟩
    obtain ⟨⟨x1, y1, z1⟩, ⟨x2, y2, z2⟩, ⟨x3, y3, z3⟩⟩ := m
    obtain ⟨⟨p1, q1, r1⟩, ⟨p2, q2, r2⟩, ⟨p3, q3, r3⟩⟩ := n
    simp only [M3.mk.injEq, V3.mk.injEq]
    dsimp only at a1 a2 a3
    refine ⟨⟨?_, ?_, ?_⟩, ⟨?_, ?_, ?_⟩, ⟨?_, ?_, ?_⟩⟩ <;> grind
  · rintro ⟨rfl, rfl⟩ v _
    simp
theorem white1 {u v : V3} (h1 : u.x ≠ 0) (h2 : u.y ≠ 0) (h3 : u.z ≠ 0) : mp (diagM u v) V0 u = v := by
  refine V3.ext' ?_ ?_ ?_ <;> (unfold mp diagM dot V0; dsimp only; grind)
theorem white2 {u v : V3} (h2 : u.y ≠ 0) : mp (diagM u v) V0 ⟨0, u.y, 0⟩ = ⟨0, v.y, 0⟩ := by
  refine V3.ext' ?_ ?_ ?_ <;> (unfold mp diagM dot V0; dsimp only; grind)
theorem same1 {v : V3} : mp idM V0 v = v := by
  refine V3.ext' ?_ ?_ ?_ <;> (unfold mp idM dot V0 u1 u2 u3; dsimp only; grind)
theorem same0 {v : V3} : mp zeM V0 v = V0 := by
  refine V3.ext' ?_ ?_ ?_ <;> (unfold mp zeM dot V0; dsimp only; grind)
def lv (q : Rat) : V3 := ⟨q, q, q⟩
theorem mp_lv {m : M3} {t : V3} {q : Rat} : mp m t (lv q) = ⟨sumV m.a * q + t.x, sumV m.b * q + t.y, sumV m.c * q + t.z⟩ := by
  refine V3.ext' ?_ ?_ ?_ <;> (unfold mp lv dot sumV; dsimp only; grind)
def isGrey (v : V3) : Bool := decide (v.x = v.y) && decide (v.y = v.z)
theorem grey_iff {m : M3} {t : V3} : greyB m t = (isGrey (mp m t (lv 0)) && (isGrey (mp m t (lv 1)) && isGrey (mp m t (lv (7 / 2))))) := by
  rw [mp_lv, mp_lv, mp_lv]
  unfold greyB isGrey
  generalize sumV m.a = A
  generalize sumV m.b = B
  generalize sumV m.c = C
  dsimp only
  rw [Bool.eq_iff_iff]
  simp only [Bool.and_eq_true, decide_eq_true_eq]
  constructor
  · rintro ⟨⟨a1, a2⟩, a3, a4⟩
    refine ⟨⟨?_, ?_⟩, ⟨?_, ?_⟩, ?_, ?_⟩ <;> grind
  · rintro ⟨⟨a1, a2⟩, ⟨a3, a4⟩, a5, a6⟩
    refine ⟨⟨?_, ?_⟩, ?_, ?_⟩ <;> grind
end K05

namespace K05
open PySem PySem.Spec L2 Tv
/-! ### the statements of a turn (printed by st05.py) -/
def st_1 : SM := (mPt (.tp (.cons (.nm 3) (.cons (.nm 4) .nil))) (mTup (mCons (mCallF F__law_map (mCons (mVar 1) mNil)) (mCons (mCallF F__law_map (mCons (mVar 1) mNil)) mNil))))
def st_2 : SM := (mPt (.tp (.cons (.nm 5) (.cons (.nm 6) (.cons (.nm 7) .nil)))) (mTup (mCons (mCallF F_Map_init (mCons (mOp gIx (mVar 3) (mC (.int 0))) (mCons (mOp gIx (mVar 3) (mC (.int 1))) mNil))) (mCons (mCallF F_Map_init (mCons (mOp gIx (mVar 4) (mC (.int 0))) (mCons (mOp gIx (mVar 4) (mC (.int 1))) mNil))) (mCons (mCallF F__law_colour (mCons (mVar 1) mNil)) mNil)))))
def st_3 : SM := (mIfS (mOr (mNot (mTest (mCallF (F__law_alike 5) (mCons (mTup (mCons (mFld [(0, 0), (1, 0)] (mVar 5)) (mCons (mFld [(0, 1), (1, 1)] (mVar 5)) mNil))) (mCons (mVar 3) mNil))))) (mNot (mTest (mCallF (F__law_alike 5) (mCons (mTup (mCons (mFld [(0, 0), (1, 0)] (mCallF F_wide (mCons (mVar 5) mNil))) (mCons (mFld [(0, 1), (1, 1)] (mCallF F_wide (mCons (mVar 5) mNil))) mNil))) (mCons (mVar 3) mNil)))))) (mRet (mC (.bl false))) mNext)
def st_4 : SM := (mIfS (mNot (mTest (mCallF (F__law_alike 5) (mCons (mTup (mCons (mCallF F_mapped (mCons (mVar 5) (mCons (mVar 7) mNil))) (mCons (mCallF F_mapped (mCons (mCallF F_wide (mCons (mVar 5) mNil)) (mCons (mVar 7) mNil))) mNil))) (mCons (mOp gMul (mTup (mCons (mCallF F__law_through (mCons (mVar 3) (mCons (mVar 7) mNil))) mNil)) (mC (.int 2))) mNil))))) (mRet (mC (.bl false))) mNext)
def st_5 : SM := (mSet 8 (mCallF F_behind (mCons (mVar 5) (mCons (mVar 6) mNil))))
def st_6 : SM := (mFor (mSeqI (mOp gAddA (mLst (mCons (mVar 7) mNil)) (mComp [21] (mRng1 (mCons (mC (.int 4)) mNil)) (.nm 21) mYes e_law_1))) (.nm 9) l_law_1)
def st_7 : SM := (mSet 10 (mCallF F__law_det (mCons (mOp gIx (mVar 3) (mC (.int 0))) mNil)))
def st_8 : SM := (mIfS (mNot (mTest (mCallF (F__law_alike 5) (mCons (mTup (mCons (mCallF F_determinant (mCons (mVar 5) mNil)) (mCons (mCallF F_can_turn (mCons (mVar 5) mNil)) mNil))) (mCons (mTup (mCons (mVar 10) (mCons (mOp gNe (mOp gIx (mVar 10) (mC (.int 0))) (mC (.int 0))) mNil))) mNil))))) (mRet (mC (.bl false))) mNext)
def st_9 : SM := (mPt (.tp (.cons (.nm 11) (.cons (.nm 12) .nil))) (mTup (mCons (mTold es nm 0 0 e_law_2) (mCons (mCallF F_lost_way (mCons (mVar 5) mNil)) mNil))))
def st_10 : SM := (mIfS (mTest (mOp gNe (mOp gIx (mVar 10) (mC (.int 0))) (mC (.int 0)))) (mIfS (mOr (mTest (mOp gNe (mOp gIx (mVar 11) (mC (.int 0))) (mC (.str "told")))) (mOr (mTest (mOp gIsNot (mVar 12) (mC .non))) (mOr (mTest (mOp gNe (mCallF F_mapped (mCons (mOp gIx (mVar 11) (mC (.int 1))) (mCons (mCallF F_mapped (mCons (mVar 5) (mCons (mVar 7) mNil))) mNil))) (mVar 7))) (mTest (mOp gNe (mCallF F_mapped (mCons (mVar 5) (mCons (mCallF F_mapped (mCons (mOp gIx (mVar 11) (mC (.int 1))) (mCons (mVar 7) mNil))) mNil))) (mVar 7)))))) (mRet (mC (.bl false))) mNext) (mSeq (mIfS (mOr (mNot (mTest (mCallF F__law_same (mCons (mVar 11) (mCons (mTup (mCons (mC (.str "NotTurned")) mNil)) mNil))))) (mOr (mNot (mTest (gIsi (kTy cs "tuple") (mVar 12)))) (mOr (mTest (mOp gNe (mCall gLen (mCons (mVar 12) mNil)) (mC (.int 3)))) (mTest (mOp gNe (mComp [22] (mSeqI (mVar 12)) (.nm 22) t_law_1 (mVar 22)) (mLst mNil)))))) (mRet (mC (.bl false))) mNext)
    (mIfS (mOr (mTest (mOp gEq (mVar 12) (mOp gMul (mTup (mCons (mTup (mCons (mC (.int 0)) (mCons (mC (.int 1)) mNil))) mNil)) (mC (.int 3))))) (mOr (mTest (mOp gNe (mComp [23] (mSeqI (mOp gIx (mVar 3) (mC (.int 0)))) (.nm 23) t_law_2 (mVar 23)) (mLst mNil))) (mTest (mOp gIsNotB (mCallF F_is_lost_way (mCons (mVar 5) (mCons (mVar 12) mNil))) (mC (.bl true)))))) (mRet (mC (.bl false))) mNext)))
def st_11 : SM := (mSet 13 (mCallF F__law_pick (mCons (mVar 1) (mCons (mLst (mCons (mVar 7) (mCons (mOp gMul (mTup (mCons (mTup (mCons (mC (.int 0)) (mCons (mC (.int 1)) mNil))) mNil)) (mC (.int 3))) (mCons (mTup (mCons (mTup (mCons (mC (.int 1)) (mCons (mC (.int 1)) mNil))) (mCons (mTup (mCons (mUn gNeg (mC (.int 1))) (mCons (mC (.int 1)) mNil))) (mCons (mTup (mCons (mC (.int 0)) (mCons (mC (.int 1)) mNil))) mNil)))) mNil)))) mNil))))
def st_12 : SM := (mIfS (mNot (mTest (mCallF (F__law_alike 5) (mCons (mCallF F_is_lost_way (mCons (mVar 5) (mCons (mVar 13) mNil))) (mCons (mAndV (mOp gNe (mVar 13) (mOp gMul (mTup (mCons (mTup (mCons (mC (.int 0)) (mCons (mC (.int 1)) mNil))) mNil)) (mC (.int 3)))) (mOp gEq (mComp [23] (mSeqI (mOp gIx (mVar 3) (mC (.int 0)))) (.nm 23) t_law_3 (mVar 23)) (mLst mNil))) mNil))))) (mRet (mC (.bl false))) mNext)
def st_13 : SM := (mSet 14 (mCallF F__law_pick (mCons (mVar 1) (mCons (mLst (mCons (mVar 3) (mCons (mVar 4) (mCons (mTup (mCons (mOp gIx (mVar 3) (mC (.int 0))) (mCons (mOp gIx (mVar 4) (mC (.int 1))) mNil))) mNil)))) mNil))))
def st_14 : SM := (mPar [15, 16] [false, true] (mCons (mLst (mCons (mOp gMul (mTup (mCons (mTup (mCons (mC (.int 0)) (mCons (mC (.int 1)) mNil))) mNil)) (mC (.int 3))) (mCons (mTup (mCons (mTup (mCons (mC (.int 1)) (mCons (mC (.int 1)) mNil))) (mCons (mTup (mCons (mC (.int 0)) (mCons (mC (.int 1)) mNil))) (mCons (mTup (mCons (mC (.int 0)) (mCons (mC (.int 1)) mNil))) mNil)))) (mCons (mTup (mCons (mTup (mCons (mC (.int 0)) (mCons (mC (.int 1)) mNil))) (mCons (mTup (mCons (mC (.int 1)) (mCons (mC (.int 1)) mNil))) (mCons (mTup (mCons (mC (.int 0)) (mCons (mC (.int 1)) mNil))) mNil)))) (mCons (mTup (mCons (mTup (mCons (mC (.int 0)) (mCons (mC (.int 1)) mNil))) (mCons (mTup (mCons (mC (.int 0)) (mCons (mC (.int 1)) mNil))) (mCons (mTup (mCons (mC (.int 1)) (mCons (mC (.int 1)) mNil))) mNil)))) mNil))))) (mCons (mLst mNil) mNil)))
def st_15 : SM := (mFor (mSeqI (mVar 15)) (.nm 17) l_law_2)
def st_16 : SM := (mIfS (mNot (mTest (mCallF (F__law_alike 5) (mCons (mTup (mCons (mCallF F_are_alike (mCons (mVar 5) (mCons (mCallF F_Map_init (mCons (mOp gIx (mVar 14) (mC (.int 0))) (mCons (mOp gIx (mVar 14) (mC (.int 1))) mNil))) mNil))) (mCons (mCallF F_apart (mCons (mVar 5) (mCons (mCallF F_Map_init (mCons (mOp gIx (mVar 14) (mC (.int 0))) (mCons (mOp gIx (mVar 14) (mC (.int 1))) mNil))) mNil))) mNil))) (mCons (mTup (mCons (mOp gEq (mVarB 16) (mLst mNil)) (mCons (mIf (mTest (mOp gNe (mVarB 16) (mLst mNil))) (mOp gIx (mVarB 16) (mC (.int 0))) (mC .non)) mNil))) mNil))))) (mRet (mC (.bl false))) mNext)
def st_17 : SM := (mIfS (mOr (mTest (mOp gNe (mCallF F_mapped (mCons (mCallF F_same_for (mCons (mC (.bl true)) mNil)) (mCons (mVar 7) mNil))) (mVar 7))) (mTest (mOp gNe (mCallF F_mapped (mCons (mCallF F_same_for (mCons (mC (.bl false)) mNil)) (mCons (mVar 7) mNil))) (mOp gMul (mTup (mCons (mTup (mCons (mC (.int 0)) (mCons (mC (.int 1)) mNil))) mNil)) (mC (.int 3)))))) (mRet (mC (.bl false))) mNext)
def st_18 : SM := (mSet 18 (mComp [24] (mSeqI (mLst (mCons (mTup (mCons (mC (.int 0)) (mCons (mC (.int 1)) mNil))) (mCons (mTup (mCons (mC (.int 1)) (mCons (mC (.int 1)) mNil))) (mCons (mTup (mCons (mC (.int 7)) (mCons (mC (.int 2)) mNil))) mNil))))) (.nm 24) mYes e_law_3))
def st_19 : SM := (mIfS (mNot (mTest (mCallF (F__law_alike 5) (mCons (mCallF F_keeps_greys (mCons (mVar 5) mNil)) (mCons (mOp gEq (mComp [25] (mSeqI (mVar 18)) (.nm 25) t_law_4 (mVar 25)) (mLst mNil)) mNil))))) (mRet (mC (.bl false))) mNext)
def st_20 : SM := (mSet 19 (mCallF F__law_colour (mCons (mVar 1) mNil)))
def st_21 : SM := (mSet 20 (mTold es nm 0 0 e_law_4))
def st_22 : SM := (mIfS (mTest (mOp gIn (mC (.int 0)) (mComp [22] (mSeqI (mVar 19)) (.nm 22) mYes e_law_5))) (mIfS (mNot (mTest (mCallF F__law_same (mCons (mVar 20) (mCons (mTup (mCons (mC (.str "NotTurned")) mNil)) mNil))))) (mRet (mC (.bl false))) mNext) (mIfS (mOr (mTest (mOp gNe (mCallF F_mapped (mCons (mOp gIx (mVar 20) (mC (.int 1))) (mCons (mVar 19) mNil))) (mVar 7))) (mTest (mOp gNe (mCallF F_mapped (mCons (mOp gIx (mVar 20) (mC (.int 1))) (mCons (mTup (mCons (mTup (mCons (mC (.int 0)) (mCons (mC (.int 1)) mNil))) (mCons (mOp gIx (mVar 19) (mC (.int 1))) (mCons (mTup (mCons (mC (.int 0)) (mCons (mC (.int 1)) mNil))) mNil)))) mNil))) (mTup (mCons (mTup (mCons (mC (.int 0)) (mCons (mC (.int 1)) mNil))) (mCons (mOp gIx (mVar 7) (mC (.int 1))) (mCons (mTup (mCons (mC (.int 0)) (mCons (mC (.int 1)) mNil))) mNil))))))) (mRet (mC (.bl false))) mNext))
def st_23 : SM := (mIfS (mNot (mTest (mCallF (F__law_alike 5) (mCons (mCallF F_difference (mCons (mVar 19) (mCons (mVar 7) mNil))) (mCons (mCall gTuple (mCons (mComp [21] (mRng1 (mCons (mC (.int 3)) mNil)) (.nm 21) mYes e_law_6) mNil)) mNil))))) (mRet (mC (.bl false))) mNext)
theorem turn_eq : l_law_3 = (mSeq st_1 (mSeq st_2 (mSeq st_3 (mSeq st_4 (mSeq st_5 (mSeq st_6 (mSeq st_7 (mSeq st_8 (mSeq st_9 (mSeq st_10 (mSeq st_11 (mSeq st_12 (mSeq st_13 (mSeq st_14 (mSeq st_15 (mSeq st_16 (mSeq st_17 (mSeq st_18 (mSeq st_19 (mSeq st_20 (mSeq st_21 (mSeq st_22 st_23)))))))))))))))))))))) := rfl
end K05

namespace K05
open PySem PySem.Spec L2 Tv
local macro_rules | `(tactic| get_elem_tactic_extensible) => `(tactic| simp only [v_var, v_varB, v_c, v_op, v_un, v_nil, v_cons, v_tup, v_lst, v_test, v_and, v_or, v_not, v_if, v_andV, v_orV, v_notV, v_chain, v_call, v_callF, v_callV, v_isi, v_slice, v_comp, unowned, List.all_cons, List.all_nil, wipeR, and_true, true_and, and_false, false_and, Int.cast_ofNat_Int, v_part, v_noPart, v_fld, v_yes, v_seqI, v_rng1, v_rng2, v_enumI, v_zipI, v_next, v_seq, v_set, v_setO, v_drop, v_ret, v_retN, v_brk, v_cnt, v_ifS, v_frz, v_while, v_for, v_meth, v_setIx, v_cell, v_aug, v_pt, v_par, v_setF, v_fun, v_raise, v_told, v_lamV, v_callL, v_newC, v_setIxE, w_setCell, w_tupC, w_isNotB, w_ix30, w_ix31, w_ix32, w_ixL30, w_ixL31, w_ixL32, w_ixL20, w_ixL21, v_ne_ok, v_loopF_nil, v_compF_nil,
  w_add, Tv.w_sub, w_lt, w_le, w_gt, w_ge, w_neg, w_eqI, w_neI, w_eqB, w_neB, w_is, w_isNot, w_ix20, w_ix21, w_lenT, w_lenL, w_lenZ, w_abs, w_int, w_min, w_max, w_tupT, w_tupL, w_tupZ, kT_int, kT_bl, kT_non, kT_str, kT_tup, kT_lst, k2, Tv.isNon, Pt.run, Pts.run, setM, ownL, baseOk, seqV,
  List.map_cons, List.map_nil, List.cons_append, List.nil_append, List.append_nil, List.replicate_zero, List.replicate_succ, List.length_cons, List.length_nil, List.getElem?_cons_zero, List.getElem?_cons_succ, List.getElem?_nil, List.set_cons_zero, List.set_cons_succ, List.set_nil, Option.some.injEq, ↓reduceIte, reduceCtorEq, decide_true, decide_false, decide_eq_true_eq, Bool.not_true, Bool.not_false, Bool.false_eq_true, Bool.and_true, Bool.true_and, Bool.or_false, Bool.false_or, Bool.or_true, Bool.true_or, Bool.and_false, Bool.false_and, if_true, if_false, String.reduceEq, or_false, or_true, false_or, true_or, Int.reduceLE, Int.reduceLT, Int.reduceNeg, Int.reduceToNat, Int.reduceAdd, Nat.reduceAdd, Nat.reduceLT, Int.reduceSub, Int.reduceMul, Int.reduceEq, Nat.reduceEqDiff, Int.zero_sub, BEq.rfl])
local macro_rules | `(tactic| decreasing_trivial) => `(tactic| simp only [v_var, v_varB, v_c, v_op, v_un, v_nil, v_cons, v_tup, v_lst, v_test, v_and, v_or, v_not, v_if, v_andV, v_orV, v_notV, v_chain, v_call, v_callF, v_callV, v_isi, v_slice, v_comp, unowned, List.all_cons, List.all_nil, wipeR, and_true, true_and, and_false, false_and, Int.cast_ofNat_Int, v_part, v_noPart, v_fld, v_yes, v_seqI, v_rng1, v_rng2, v_enumI, v_zipI, v_next, v_seq, v_set, v_setO, v_drop, v_ret, v_retN, v_brk, v_cnt, v_ifS, v_frz, v_while, v_for, v_meth, v_setIx, v_cell, v_aug, v_pt, v_par, v_setF, v_fun, v_raise, v_told, v_lamV, v_callL, v_newC, v_setIxE, w_setCell, w_tupC, w_isNotB, w_ix30, w_ix31, w_ix32, w_ixL30, w_ixL31, w_ixL32, w_ixL20, w_ixL21, v_ne_ok, v_loopF_nil, v_compF_nil,
  w_add, Tv.w_sub, w_lt, w_le, w_gt, w_ge, w_neg, w_eqI, w_neI, w_eqB, w_neB, w_is, w_isNot, w_ix20, w_ix21, w_lenT, w_lenL, w_lenZ, w_abs, w_int, w_min, w_max, w_tupT, w_tupL, w_tupZ, kT_int, kT_bl, kT_non, kT_str, kT_tup, kT_lst, k2, Tv.isNon, Pt.run, Pts.run, setM, ownL, baseOk, seqV,
  List.map_cons, List.map_nil, List.cons_append, List.nil_append, List.append_nil, List.replicate_zero, List.replicate_succ, List.length_cons, List.length_nil, List.getElem?_cons_zero, List.getElem?_cons_succ, List.getElem?_nil, List.set_cons_zero, List.set_cons_succ, List.set_nil, Option.some.injEq, ↓reduceIte, reduceCtorEq, decide_true, decide_false, decide_eq_true_eq, Bool.not_true, Bool.not_false, Bool.false_eq_true, Bool.and_true, Bool.true_and, Bool.or_false, Bool.false_or, Bool.or_true, Bool.true_or, Bool.and_false, Bool.false_and, if_true, if_false, String.reduceEq, or_false, or_true, false_or, true_or, Int.reduceLE, Int.reduceLT, Int.reduceNeg, Int.reduceToNat, Int.reduceAdd, Nat.reduceAdd, Nat.reduceLT, Int.reduceSub, Int.reduceMul, Int.reduceEq, Nat.reduceEqDiff, Int.zero_sub, BEq.rfl, *])

/-! ### the steps of a turn -/
theorem Rw.t0 {ns : List Int} {s : S} (h : Rw ns s) : s[0]? = some (.tab 0) := by
  obtain ⟨i, a, b, r, rfl, _⟩ := h
  rfl
theorem Rw.t1 {ns : List Int} {s : S} (h : Rw ns s) : s[1]? = some (.tab 1) := by
  obtain ⟨i, a, b, r, rfl, _⟩ := h
  rfl
theorem Rw.app {ns : List Int} {s : S} (h : Rw ns s) (l : S) : Rw ns (s ++ l) := by
  obtain ⟨i, a, b, r, rfl, h⟩ := h
  exact ⟨i, a, b, r ++ l, rfl, h⟩
/-- a drawn map's sizes -/
structure BdP (p : P3) : Prop where
  m : BdM 13 8 p.m
  t : BdV 11 6 p.t
def pD (p : P3) : D := mD p.m p.t
def pW (p : P3) : D := wD p.m p.t
theorem ixP0 {p : P3} {s : S} : gIx (dP p) (.int 0) s = .ok (dM p.m) s := rfl
theorem ixP1 {p : P3} {s : S} : gIx (dP p) (.int 1) s = .ok (dV p.t) s := rfl
def mpP (p : P3) (v : V3) : V3 := mp p.m p.t v
theorem t_pinit {p : P3} {s : S} (hp : BdP p) (hs : s[1]? = some (.tab 1)) : F_Map_init [dM p.m, dV p.t] s = .ok (pD p) s := t_map_init hp.m hp.t.mono hs
theorem t_pmap {p : P3} {v : V3} {a b : Nat} {s : S} (hp : BdP p) (hv : BdV a b v) (h : 2 * a + 5 * b ≤ 7700 := by omega) : F_mapped [pD p, dV v] s = .ok (dV (mpP p v)) s := t_mapped0 (.inl rfl) hp.m hv hp.t
theorem t_wmap {p : P3} {v : V3} {a b : Nat} {s : S} (hp : BdP p) (hv : BdV a b v) (h : 2 * a + 5 * b ≤ 7700 := by omega) : F_mapped [pW p, dV v] s = .ok (dV (mpP p v)) s := t_mapped0 (.inr rfl) hp.m hv hp.t
theorem t_pthr {p : P3} {v : V3} {a b : Nat} {s : S} (hp : BdP p) (hv : BdV a b v) (h : b ≤ 56 := by omega) (h2 : a ≤ 900 := by omega) : F__law_through [dP p, dV v] s = .ok (dV (mpP p v)) s := t_lthrough hp.m hv hp.t
theorem Bd_mpP {p : P3} {v : V3} (hp : BdP p) (hv : BdV 13 6 v) : BdV 63 48 (mpP p v) := (Bd_mp hp.m hv hp.t).mono
theorem alV {v : V3} {n : Nat} {s : S} : F__law_alike (n + 4) [dV v, dV v] s = .ok (.bl true) s := alike_refl (n + 3) (dV v) s rfl
theorem alV2 {v : V3} {n : Nat} {s : S} : F__law_alike (n + 5) [.tup [dV v, dV v], .tup [dV v, dV v]] s = .ok (.bl true) s := alike_refl (n + 4) (.tup [dV v, dV v]) s rfl
theorem alP {p : P3} {s : S} : F__law_alike 5 [.tup [dM p.m, dV p.t], dP p] s = .ok (.bl true) s := alike_refl 4 (dP p) s rfl
theorem alB {b : Bool} {n : Nat} {s : S} : F__law_alike (n + 2) [.bl b, .bl b] s = .ok (.bl true) s := alike_refl (n + 1) (.bl b) s rfl
theorem alFB {q : Rat} {b : Bool} {n : Nat} {s : S} : F__law_alike (n + 4) [.tup [fr q, .bl b], .tup [fr q, .bl b]] s = .ok (.bl true) s := alike_refl (n + 3) (.tup [fr q, .bl b]) s rfl
theorem alBV {l : List V3} {b : Bool} {n : Nat} {s : S} : F__law_alike (n + 5) [.tup [.bl b, firstD l], .tup [.bl b, firstD l]] s = .ok (.bl true) s := by
  cases l with
  | nil => exact alike_refl (n + 4) (.tup [.bl b, .non]) s rfl
  | cons v r => exact alike_refl (n + 4) (.tup [.bl b, dV v]) s rfl
theorem q_1 {ns : List Int} {s : S} {a0 a2 a3 a4 a5 a6 a7 a8 a9 a10 a11 a12 a13 a14 a15 a16 a17 a18 a19 a20 : SD} (h : Rw ns s) : ∃ (p o : P3) (s' : S), st_1 [a0, .v (.cell 2), a2, a3, a4, a5, a6, a7, a8, a9, a10, a11, a12, a13, a14, a15, a16, a17, a18, a19, a20, .un, .un, .un, .un, .un] s = .nx [a0, .v (.cell 2), a2, .v (dP p), .v (dP o), a5, a6, a7, a8, a9, a10, a11, a12, a13, a14, a15, a16, a17, a18, a19, a20, .un, .un, .un, .un, .un] s' ∧ BdP p ∧ BdP o ∧ Rw ns s' := by
  obtain ⟨p, s1, e1, b1, c1, r1⟩ := t_map h
  obtain ⟨o, s2, e2, b2, c2, r2⟩ := t_map r1
  refine ⟨p, o, s2, ?_, ⟨b1, c1⟩, ⟨b2, c2⟩, r2⟩
  unfold st_1
  clear b1 c1 b2 c2 r1 r2 h
  decreasing_trivial
theorem q_2 {ns : List Int} {s : S} {p o : P3} {a0 a2 a5 a6 a7 a8 a9 a10 a11 a12 a13 a14 a15 a16 a17 a18 a19 a20 : SD} (hp : BdP p) (ho : BdP o) (h : Rw ns s) : ∃ (v : V3) (s' : S), st_2 [a0, .v (.cell 2), a2, .v (dP p), .v (dP o), a5, a6, a7, a8, a9, a10, a11, a12, a13, a14, a15, a16, a17, a18, a19, a20, .un, .un, .un, .un, .un] s = .nx [a0, .v (.cell 2), a2, .v (dP p), .v (dP o), .v (pD p), .v (pD o), .v (dV v), a8, a9, a10, a11, a12, a13, a14, a15, a16, a17, a18, a19, a20, .un, .un, .un, .un, .un] s' ∧ BdV 13 6 v ∧ Rw ns s' := by
  obtain ⟨v, s1, e1, b1, r1⟩ := t_colour h
  have e2 := t_pinit hp h.t1
  have e3 := t_pinit ho h.t1
  have i0 := fun p s => ixP0 (p := p) (s := s)
  have i1 := fun p s => ixP1 (p := p) (s := s)
  refine ⟨v, s1, ?_, b1, r1⟩
  unfold st_2
  clear b1 r1 h hp ho
  decreasing_trivial
theorem q_3 {s : S} {p : P3} {a0 a1 a2 a4 a6 a7 a8 a9 a10 a11 a12 a13 a14 a15 a16 a17 a18 a19 a20 : SD} : st_3 [a0, a1, a2, .v (dP p), a4, .v (pD p), a6, a7, a8, a9, a10, a11, a12, a13, a14, a15, a16, a17, a18, a19, a20, .un, .un, .un, .un, .un] s = .nx [a0, a1, a2, .v (dP p), a4, .v (pD p), a6, a7, a8, a9, a10, a11, a12, a13, a14, a15, a16, a17, a18, a19, a20, .un, .un, .un, .un, .un] s := by
  have e1 := fun s => alP (p := p) (s := s)
  have e2 := fun s => t_wide (m := p.m) (t := p.t) (s := s)
  have l0 := fld0
  have l1 := fld1
  have l2 := fld2
  have l3 := fld3
  unfold mD wD at e2
  unfold st_3 pD mD
  decreasing_trivial
theorem q_4 {s : S} {p : P3} {v : V3} {a0 a1 a2 a4 a6 a8 a9 a10 a11 a12 a13 a14 a15 a16 a17 a18 a19 a20 : SD} (hp : BdP p) (hv : BdV 13 6 v) : st_4 [a0, a1, a2, .v (dP p), a4, .v (pD p), a6, .v (dV v), a8, a9, a10, a11, a12, a13, a14, a15, a16, a17, a18, a19, a20, .un, .un, .un, .un, .un] s = .nx [a0, a1, a2, .v (dP p), a4, .v (pD p), a6, .v (dV v), a8, a9, a10, a11, a12, a13, a14, a15, a16, a17, a18, a19, a20, .un, .un, .un, .un, .un] s := by
  have e1 := fun s => t_pmap (s := s) hp hv
  have e2 := fun s => t_wmap (s := s) hp hv
  have e3 := fun s => t_pthr (s := s) hp hv
  have e4 : ∀ s, F_wide [pD p] s = .ok (pW p) s := fun s => t_wide
  have e5 := fun v s => alV2 (v := v) (n := 0) (s := s)
  have m2 := fun x s => mulT2 (x := x) (s := s)
  clear hp hv
  unfold st_4
  decreasing_trivial
def bothD (p o : P3) : D := wD (mulM o.m p.m) (mp o.m o.t p.t)
theorem q_5 {s : S} {p o : P3} {a0 a1 a2 a3 a4 a7 a8 a9 a10 a11 a12 a13 a14 a15 a16 a17 a18 a19 a20 : SD} (hp : BdP p) (ho : BdP o) : st_5 [a0, a1, a2, a3, a4, .v (pD p), .v (pD o), a7, a8, a9, a10, a11, a12, a13, a14, a15, a16, a17, a18, a19, a20, .un, .un, .un, .un, .un] s = .nx [a0, a1, a2, a3, a4, .v (pD p), .v (pD o), a7, .v (bothD p o), a9, a10, a11, a12, a13, a14, a15, a16, a17, a18, a19, a20, .un, .un, .un, .un, .un] s := by
  have e1 : ∀ s, F_behind [pD p, pD o] s = .ok (bothD p o) s := fun s => t_behind hp.m ho.m hp.t ho.t
  clear hp ho
  unfold st_5
  decreasing_trivial
theorem t_both {p o : P3} {v : V3} {s : S} (hp : BdP p) (ho : BdP o) (hv : BdV 13 6 v) : F_mapped [bothD p o, dV v] s = .ok (dV (mpP o (mpP p v))) s := by
  have e : mpP o (mpP p v) = mp (mulM o.m p.m) (mp o.m o.t p.t) v := (behind_law _ _ _ _ _).symm
  rw [e]
  exact t_mapped0 (.inr rfl) (Bd_mulM ho.m hp.m) hv (Bd_mp ho.m hp.t ho.t)
theorem q_6l {s : S} {p o : P3} {v : V3} {a0 a1 a2 a5 a6 a7 a10 a11 a12 a13 a14 a15 a16 a17 a18 a19 a20 : SD} (hp : BdP p) (ho : BdP o) (hv : BdV 13 6 v) : l_law_1 [a0, a1, a2, .v (dP p), .v (dP o), a5, a6, a7, .v (bothD p o), .v (dV v), a10, a11, a12, a13, a14, a15, a16, a17, a18, a19, a20, .un, .un, .un, .un, .un] s = .nx [a0, a1, a2, .v (dP p), .v (dP o), a5, a6, a7, .v (bothD p o), .v (dV v), a10, a11, a12, a13, a14, a15, a16, a17, a18, a19, a20, .un, .un, .un, .un, .un] s := by
  have e1 := fun s => t_both (s := s) hp ho hv
  have e2 := fun s => t_pthr (s := s) hp hv
  have e3 := fun s => t_pthr (s := s) ho (Bd_mpP hp hv)
  have e4 := fun v s => alV (v := v) (n := 1) (s := s)
  clear hp ho hv
  unfold l_law_1
  decreasing_trivial
theorem q_6 {ns : List Int} {s : S} {p o : P3} {v : V3} {a0 a2 a5 a6 a9 a10 a11 a12 a13 a14 a15 a16 a17 a18 a19 a20 : SD} (hp : BdP p) (ho : BdP o) (hv : BdV 13 6 v) (h : Rw ns s) : ∃ (b : SD) (s' : S), st_6 [a0, .v (.cell 2), a2, .v (dP p), .v (dP o), a5, a6, .v (dV v), .v (bothD p o), a9, a10, a11, a12, a13, a14, a15, a16, a17, a18, a19, a20, .un, .un, .un, .un, .un] s = .nx [a0, .v (.cell 2), a2, .v (dP p), .v (dP o), a5, a6, .v (dV v), .v (bothD p o), b, a10, a11, a12, a13, a14, a15, a16, a17, a18, a19, a20, .un, .un, .un, .un, .un] s' ∧ Rw ns s' := by
  obtain ⟨v1, s1, e1, b1, r1⟩ := t_colour h
  obtain ⟨v2, s2, e2, b2, r2⟩ := t_colour r1
  obtain ⟨v3, s3, e3, b3, r3⟩ := t_colour r2
  obtain ⟨v4, s4, e4, b4, r4⟩ := t_colour r3
  refine ⟨.v (dV v4), s4, ?_, r4⟩
  have cm : ∀ (b9 : SD), compF (.nm 21) mYes e_law_1 [a0, .v (.cell 2), a2, .v (dP p), .v (dP o), a5, a6, .v (dV v), .v (bothD p o), a9, a10, a11, a12, a13, a14, a15, a16, a17, a18, a19, a20, .un, .un, .un, .un, .un] [.int 0, .int 1, .int 2, .int 3] s = .ok [dV v1, dV v2, dV v3, dV v4] s4 := fun b9 => by
    clear hp ho hv b1 b2 b3 b4 r1 r2 r3 r4 h
    simp only [v_compF]
    unfold e_law_1
    decreasing_trivial
  have g4 := rng4
  have o4 := rok4
  have z4 : (4 ≤ sizeLine) = True := eq_true (size_ok (by omega))
  have ad : ∀ s, gAddA (.lst [dV v]) (.lst [dV v1, dV v2, dV v3, dV v4]) s = .ok (.lst [dV v, dV v1, dV v2, dV v3, dV v4]) s := fun s => by
    show (if ([dV v] : List D).length + ([dV v1, dV v2, dV v3, dV v4] : List D).length ≤ sizeLine then R.ok (D.lst ([dV v] ++ [dV v1, dV v2, dV v3, dV v4])) s else R.no) = _
    rw [if_pos (size_ok (by simp))]
    rfl
  have cm := cm .un
  have y0 := fun s => q_6l (a0 := a0) (a1 := .v (.cell 2)) (a2 := a2) (a5 := a5) (a6 := a6) (a7 := .v (dV v)) (a10 := a10) (a11 := a11) (a12 := a12) (a13 := a13) (a14 := a14) (a15 := a15) (a16 := a16) (a17 := a17) (a18 := a18) (a19 := a19) (a20 := a20) (s := s) hp ho hv
  have y1 := fun s => q_6l (a0 := a0) (a1 := .v (.cell 2)) (a2 := a2) (a5 := a5) (a6 := a6) (a7 := .v (dV v)) (a10 := a10) (a11 := a11) (a12 := a12) (a13 := a13) (a14 := a14) (a15 := a15) (a16 := a16) (a17 := a17) (a18 := a18) (a19 := a19) (a20 := a20) (s := s) hp ho b1
  have y2 := fun s => q_6l (a0 := a0) (a1 := .v (.cell 2)) (a2 := a2) (a5 := a5) (a6 := a6) (a7 := .v (dV v)) (a10 := a10) (a11 := a11) (a12 := a12) (a13 := a13) (a14 := a14) (a15 := a15) (a16 := a16) (a17 := a17) (a18 := a18) (a19 := a19) (a20 := a20) (s := s) hp ho b2
  have y3 := fun s => q_6l (a0 := a0) (a1 := .v (.cell 2)) (a2 := a2) (a5 := a5) (a6 := a6) (a7 := .v (dV v)) (a10 := a10) (a11 := a11) (a12 := a12) (a13 := a13) (a14 := a14) (a15 := a15) (a16 := a16) (a17 := a17) (a18 := a18) (a19 := a19) (a20 := a20) (s := s) hp ho b3
  have y4 := fun s => q_6l (a0 := a0) (a1 := .v (.cell 2)) (a2 := a2) (a5 := a5) (a6 := a6) (a7 := .v (dV v)) (a10 := a10) (a11 := a11) (a12 := a12) (a13 := a13) (a14 := a14) (a15 := a15) (a16 := a16) (a17 := a17) (a18 := a18) (a19 := a19) (a20 := a20) (s := s) hp ho b4
  unfold st_6
  clear hp ho hv b1 b2 b3 b4 r1 r2 r3 r4 h e1 e2 e3 e4
  decreasing_trivial
  simp only [v_loopF]
  decreasing_trivial
end K05

namespace K05
open PySem PySem.Spec L2 Tv
local macro_rules | `(tactic| get_elem_tactic_extensible) => `(tactic| simp only [v_var, v_varB, v_c, v_op, v_un, v_nil, v_cons, v_tup, v_lst, v_test, v_and, v_or, v_not, v_if, v_andV, v_orV, v_notV, v_chain, v_call, v_callF, v_callV, v_isi, v_slice, v_comp, unowned, List.all_cons, List.all_nil, wipeR, and_true, true_and, and_false, false_and, Int.cast_ofNat_Int, v_part, v_noPart, v_fld, v_yes, v_seqI, v_rng1, v_rng2, v_enumI, v_zipI, v_next, v_seq, v_set, v_setO, v_drop, v_ret, v_retN, v_brk, v_cnt, v_ifS, v_frz, v_while, v_for, v_meth, v_setIx, v_cell, v_aug, v_pt, v_par, v_setF, v_fun, v_raise, v_told, v_lamV, v_callL, v_newC, v_setIxE, w_setCell, w_tupC, w_isNotB, w_ix30, w_ix31, w_ix32, w_ixL30, w_ixL31, w_ixL32, w_ixL20, w_ixL21, v_ne_ok, v_loopF_nil, v_compF_nil,
  w_add, Tv.w_sub, w_lt, w_le, w_gt, w_ge, w_neg, w_eqI, w_neI, w_eqB, w_neB, w_is, w_isNot, w_ix20, w_ix21, w_lenT, w_lenL, w_lenZ, w_abs, w_int, w_min, w_max, w_tupT, w_tupL, w_tupZ, kT_int, kT_bl, kT_non, kT_str, kT_tup, kT_lst, k2, Tv.isNon, Pt.run, Pts.run, setM, ownL, baseOk, seqV,
  List.map_cons, List.map_nil, List.cons_append, List.nil_append, List.append_nil, List.replicate_zero, List.replicate_succ, List.length_cons, List.length_nil, List.getElem?_cons_zero, List.getElem?_cons_succ, List.getElem?_nil, List.set_cons_zero, List.set_cons_succ, List.set_nil, Option.some.injEq, ↓reduceIte, reduceCtorEq, decide_true, decide_false, decide_eq_true_eq, Bool.not_true, Bool.not_false, Bool.false_eq_true, Bool.and_true, Bool.true_and, Bool.or_false, Bool.false_or, Bool.or_true, Bool.true_or, Bool.and_false, Bool.false_and, if_true, if_false, String.reduceEq, or_false, or_true, false_or, true_or, Int.reduceLE, Int.reduceLT, Int.reduceNeg, Int.reduceToNat, Int.reduceAdd, Nat.reduceAdd, Nat.reduceLT, Int.reduceSub, Int.reduceMul, Int.reduceEq, Nat.reduceEqDiff, Int.zero_sub, BEq.rfl])
local macro_rules | `(tactic| decreasing_trivial) => `(tactic| simp only [v_var, v_varB, v_c, v_op, v_un, v_nil, v_cons, v_tup, v_lst, v_test, v_and, v_or, v_not, v_if, v_andV, v_orV, v_notV, v_chain, v_call, v_callF, v_callV, v_isi, v_slice, v_comp, unowned, List.all_cons, List.all_nil, wipeR, and_true, true_and, and_false, false_and, Int.cast_ofNat_Int, v_part, v_noPart, v_fld, v_yes, v_seqI, v_rng1, v_rng2, v_enumI, v_zipI, v_next, v_seq, v_set, v_setO, v_drop, v_ret, v_retN, v_brk, v_cnt, v_ifS, v_frz, v_while, v_for, v_meth, v_setIx, v_cell, v_aug, v_pt, v_par, v_setF, v_fun, v_raise, v_told, v_lamV, v_callL, v_newC, v_setIxE, w_setCell, w_tupC, w_isNotB, w_ix30, w_ix31, w_ix32, w_ixL30, w_ixL31, w_ixL32, w_ixL20, w_ixL21, v_ne_ok, v_loopF_nil, v_compF_nil,
  w_add, Tv.w_sub, w_lt, w_le, w_gt, w_ge, w_neg, w_eqI, w_neI, w_eqB, w_neB, w_is, w_isNot, w_ix20, w_ix21, w_lenT, w_lenL, w_lenZ, w_abs, w_int, w_min, w_max, w_tupT, w_tupL, w_tupZ, kT_int, kT_bl, kT_non, kT_str, kT_tup, kT_lst, k2, Tv.isNon, Pt.run, Pts.run, setM, ownL, baseOk, seqV,
  List.map_cons, List.map_nil, List.cons_append, List.nil_append, List.append_nil, List.replicate_zero, List.replicate_succ, List.length_cons, List.length_nil, List.getElem?_cons_zero, List.getElem?_cons_succ, List.getElem?_nil, List.set_cons_zero, List.set_cons_succ, List.set_nil, Option.some.injEq, ↓reduceIte, reduceCtorEq, decide_true, decide_false, decide_eq_true_eq, Bool.not_true, Bool.not_false, Bool.false_eq_true, Bool.and_true, Bool.true_and, Bool.or_false, Bool.false_or, Bool.or_true, Bool.true_or, Bool.and_false, Bool.false_and, if_true, if_false, String.reduceEq, or_false, or_true, false_or, true_or, Int.reduceLE, Int.reduceLT, Int.reduceNeg, Int.reduceToNat, Int.reduceAdd, Nat.reduceAdd, Nat.reduceLT, Int.reduceSub, Int.reduceMul, Int.reduceEq, Nat.reduceEqDiff, Int.zero_sub, BEq.rfl, *])

theorem q_7 {s : S} {p : P3} {a0 a1 a2 a4 a5 a6 a7 a8 a9 a10 a11 a12 a13 a14 a15 a16 a17 a18 a19 a20 : SD} (hp : BdP p) : st_7 [a0, a1, a2, .v (dP p), a4, a5, a6, a7, a8, a9, a10, a11, a12, a13, a14, a15, a16, a17, a18, a19, a20, .un, .un, .un, .un, .un] s = .nx [a0, a1, a2, .v (dP p), a4, a5, a6, a7, a8, a9, .v (fr (det p.m)), a11, a12, a13, a14, a15, a16, a17, a18, a19, a20, .un, .un, .un, .un, .un] s := by
  have e1 := fun s => t_ldet (s := s) hp.m
  have i0 := fun p s => ixP0 (p := p) (s := s)
  clear hp
  unfold st_7
  decreasing_trivial
theorem q_8 {s : S} {p : P3} {a0 a1 a2 a3 a4 a6 a7 a8 a9 a11 a12 a13 a14 a15 a16 a17 a18 a19 a20 : SD} (hp : BdP p) : st_8 [a0, a1, a2, a3, a4, .v (pD p), a6, a7, a8, a9, .v (fr (det p.m)), a11, a12, a13, a14, a15, a16, a17, a18, a19, a20, .un, .un, .un, .un, .un] s = .nx [a0, a1, a2, a3, a4, .v (pD p), a6, a7, a8, a9, .v (fr (det p.m)), a11, a12, a13, a14, a15, a16, a17, a18, a19, a20, .un, .un, .un, .un, .un] s := by
  have e1 : ∀ s, F_determinant [pD p] s = .ok (fr (det p.m)) s := fun s => t_det hp.m
  have e2 : ∀ s, F_can_turn [pD p] s = .ok (.bl (!decide (det p.m = 0))) s := fun s => t_can hp.m
  have f0 := fun q s => fr_ix0 (q := q) (s := s)
  have n0 := fun q => num0 (q := q)
  have e5 := fun q b s => alFB (q := q) (b := b) (n := 1) (s := s)
  clear hp
  unfold st_8
  decreasing_trivial
def backD (p : P3) : D := if det p.m = 0 then .tup [.str "NotTurned"] else .tup [.str "told", wD (inv p.m) (tinv p.m p.t)]
def goneD (p : P3) : D := if det p.m = 0 then dV (gone p.m) else .non
theorem q_9 {ns : List Int} {s : S} {p : P3} {a0 a1 a2 a3 a4 a6 a7 a8 a9 a10 a11 a12 a13 a14 a15 a16 a17 a18 a19 a20 : SD} (hp : BdP p) (h : Rw ns s) : st_9 [a0, a1, a2, a3, a4, .v (pD p), a6, a7, a8, a9, a10, a11, a12, a13, a14, a15, a16, a17, a18, a19, a20, .un, .un, .un, .un, .un] s = .nx [a0, a1, a2, a3, a4, .v (pD p), a6, a7, a8, a9, a10, .v (backD p), .v (goneD p), a13, a14, a15, a16, a17, a18, a19, a20, .un, .un, .un, .un, .un] s := by
  have e1 : ∀ s, F_lost_way [pD p] s = .ok (goneD p) s := fun s => t_lost hp.m
  have e2 : mTold es nm 0 0 e_law_2 [a0, a1, a2, a3, a4, .v (pD p), a6, a7, a8, a9, a10, a11, a12, a13, a14, a15, a16, a17, a18, a19, a20, .un, .un, .un, .un, .un] s = .ok (backD p) s := by
    have h0 := h.t0
    rw [v_told, h0]
    unfold backD
    by_cases hd : det p.m = 0
    · rw [if_pos hd]
      have e3 : ∀ s, F_turned [pD p] s = .er 13 [] s := fun s => t_turned_no hp.m hd
      unfold e_law_2
      clear e1 h h0 hp
      decreasing_trivial
      rfl
    · rw [if_neg hd]
      have e3 : ∀ s, F_turned [pD p] s = .ok (wD (inv p.m) (tinv p.m p.t)) s := fun s => t_turned hp.m hp.t hd
      unfold e_law_2
      clear e1 h h0 hp
      decreasing_trivial
  clear hp h
  unfold st_9
  simp only [v_pt, v_tup, v_cons, e2]
  decreasing_trivial
theorem frI0 {q : Rat} {s : S} : gNe (.int q.num) (.int 0) s = .ok (.bl (!decide (q = 0))) s := by
  have := w_neI (i := q.num) (j := 0) (s := s)
  rw [this, decide_eq_decide.mpr (Iff.of_eq num0)]
theorem q_10 {s : S} {p : P3} {v : V3} {a0 a1 a2 a4 a6 a8 a9 a13 a14 a15 a16 a17 a18 a19 a20 : SD} (hp : BdP p) (hv : BdV 13 6 v) : st_10 [a0, a1, a2, .v (dP p), a4, .v (pD p), a6, .v (dV v), a8, a9, .v (fr (det p.m)), .v (backD p), .v (goneD p), a13, a14, a15, a16, a17, a18, a19, a20, .un, .un, .un, .un, .un] s = .nx [a0, a1, a2, .v (dP p), a4, .v (pD p), a6, .v (dV v), a8, a9, .v (fr (det p.m)), .v (backD p), .v (goneD p), a13, a14, a15, a16, a17, a18, a19, a20, .un, .un, .un, .un, .un] s := by
  have f0 := fun q s => fr_ix0 (q := q) (s := s)
  have n0 := fun q => num0 (q := q)
  have tt := fun s => told_told (s := s)
  unfold backD goneD
  by_cases hd : det p.m = 0
  · rw [if_pos hd, if_pos hd]
    obtain ⟨g0, g1, g2, g3⟩ := gone_ok hd
    have bg : BdV 43 32 (gone p.m) := by
      unfold gone
      split
      · split
        · split
          · unfold acr
            have ac : ∀ l, BdV 13 8 l → BdV 43 32 (acr1 l) := fun l hl => by
              unfold acr1
              split
              · exact ⟨Bd1, Bd0, Bd0⟩
              · split
                · exact ⟨Bd0, Bd1, Bd0⟩
                · exact ⟨(Bd_neg hl.y).mono, hl.x.mono, Bd0⟩
            split
            · split
              · split
                · exact ⟨Bd1, Bd0, Bd0⟩
                · exact ac _ hp.m.c
              · exact ac _ hp.m.b
            · exact ac _ hp.m.a
          · exact ⟨Bd_cof20 hp.m, Bd_cof21 hp.m, Bd_cof22 hp.m⟩
        · exact ⟨Bd_cof10 hp.m, Bd_cof11 hp.m, Bd_cof12 hp.m⟩
      · exact ⟨Bd_cof00 hp.m, Bd_cof01 hp.m, Bd_cof02 hp.m⟩
    generalize gone p.m = g at *
    have e1 : ∀ s, F_is_lost_way [pD p, dV g] s = .ok (.bl true) s := fun s => by
      have := t_islost (t := p.t) (s := s) hp.m bg
      have hl : lostB p.m g = true := by
        unfold lostB
        simp [g0, g1, g2, g3]
      rw [hl] at this
      exact this
    have e2 := fun s => same_NT (s := s)
    have l1 := fun s => t_lis_frac (s := s) (bd_mono bg.x.dn)
    have l2 := fun s => t_lis_frac (s := s) (bd_mono bg.y.dn)
    have l3 := fun s => t_lis_frac (s := s) (bd_mono bg.z.dn)
    have d1 := fun s => t_ldot (s := s) hp.m.a bg
    have d2 := fun s => t_ldot (s := s) hp.m.b bg
    have d3 := fun s => t_ldot (s := s) hp.m.c bg
    rw [g1] at d1
    rw [g2] at d2
    rw [g3] at d3
    have m3 := fun x s => mulT3 (x := x) (s := s)
    have z0 := dV0
    have nv : ∀ s, gEq (dV g) (dV V0) s = .ok (.bl false) s := fun s => by rw [w_eqV, decide_eq_false g0]
    have z := sz3
    have qn : ∀ s, gNe (.lst []) (.lst []) s = .ok (.bl false) s := fun s => w_ne eqD_nil
    have i0 := fun p s => ixP0 (p := p) (s := s)
    have c1 : ∀ {a0 a1 a2 a3 a4 a5 a6 a7 a8 a9 a10 a11 a12 a13 a14 a15 a16 a17 a18 a19 a20 : SD}, compF (.nm 22) t_law_1 (mVar 22) [a0, a1, a2, a3, a4, a5, a6, a7, a8, a9, a10, a11, a12, a13, a14, a15, a16, a17, a18, a19, a20, .un, .un, .un, .un, .un] [fr g.x, fr g.y, fr g.z] s = .ok [] s := by
      intros
      refine compF_none fun d hd => ?_
      simp only [List.mem_cons, List.not_mem_nil, or_false] at hd
      rcases hd with rfl | rfl | rfl
      · refine ⟨_, rfl, ?_⟩
        unfold t_law_1
        clear d1 d2 d3 e1 e2 nv
        decreasing_trivial
      · refine ⟨_, rfl, ?_⟩
        unfold t_law_1
        clear d1 d2 d3 e1 e2 nv
        decreasing_trivial
      · refine ⟨_, rfl, ?_⟩
        unfold t_law_1
        clear d1 d2 d3 e1 e2 nv
        decreasing_trivial
    have fz : ∀ s, gIx (fr 0) (.int 0) s = .ok (.int 0) s := fun s => rfl
    have c2 : ∀ {a0 a1 a2 a3 a4 a5 a6 a7 a8 a9 a10 a11 : SD} {a13 a14 a15 a16 a17 a18 a19 a20 : SD}, compF (.nm 23) t_law_2 (mVar 23) [a0, a1, a2, a3, a4, a5, a6, a7, a8, a9, a10, a11, .v (dV g), a13, a14, a15, a16, a17, a18, a19, a20, .un, .un, .un, .un, .un] [dV p.m.a, dV p.m.b, dV p.m.c] s = .ok [] s := by
      intros
      refine compF_none fun d hd => ?_
      simp only [List.mem_cons, List.not_mem_nil, or_false] at hd
      rcases hd with rfl | rfl | rfl
      · refine ⟨_, rfl, ?_⟩
        unfold t_law_2
        clear l1 l2 l3 e1 e2 nv c1
        decreasing_trivial
      · refine ⟨_, rfl, ?_⟩
        unfold t_law_2
        clear l1 l2 l3 e1 e2 nv c1
        decreasing_trivial
      · refine ⟨_, rfl, ?_⟩
        unfold t_law_2
        clear l1 l2 l3 e1 e2 nv c1
        decreasing_trivial
    have ed : dM p.m = .tup [dV p.m.a, dV p.m.b, dV p.m.c] := rfl
    have eg : dV g = .tup [fr g.x, fr g.y, fr g.z] := rfl
    have c2 := c2 (a0 := a0) (a1 := a1) (a2 := a2) (a3 := .v (dP p)) (a4 := a4) (a5 := .v (pD p)) (a6 := a6) (a7 := .v (dV v)) (a8 := a8) (a9 := a9) (a10 := .v (fr (det p.m))) (a11 := .v (.tup [.str "NotTurned"])) (a13 := a13) (a14 := a14) (a15 := a15) (a16 := a16) (a17 := a17) (a18 := a18) (a19 := a19) (a20 := a20)
    have c1 := c1 (a0 := a0) (a1 := a1) (a2 := a2) (a3 := .v (dP p)) (a4 := a4) (a5 := .v (pD p)) (a6 := a6) (a7 := .v (dV v)) (a8 := a8) (a9 := a9) (a10 := .v (fr (det p.m))) (a11 := .v (.tup [.str "NotTurned"])) (a12 := .v (dV g)) (a13 := a13) (a14 := a14) (a15 := a15) (a16 := a16) (a17 := a17) (a18 := a18) (a19 := a19) (a20 := a20)
    unfold st_10
    clear hp hv bg g0 g1 g2 g3 l1 l2 l3 d1 d2 d3
    rw [eg] at e1 nv c1 c2 ⊢
    rw [hd] at c1 c2 ⊢
    clear eg hd
    decreasing_trivial
  · rw [if_neg hd, if_neg hd]
    have e1 := fun s => t_pmap (s := s) hp hv
    have bi := Bd_inv hp.m hd
    have bt := Bd_tinv hp.m hp.t hd
    have e2 : ∀ s, F_mapped [wD (inv p.m) (tinv p.m p.t), dV (mpP p v)] s = .ok (dV v) s := fun s => by
      have := t_mapped0 (s := s) (.inr rfl) bi (Bd_mpP hp hv) bt
      rw [show mp (inv p.m) (tinv p.m p.t) (mpP p v) = v from back1 hd] at this
      exact this
    have e3 := fun s => t_mapped0 (s := s) (o := wD (inv p.m) (tinv p.m p.t)) (.inr rfl) bi hv bt
    have e4 : ∀ s, F_mapped [pD p, dV (mp (inv p.m) (tinv p.m p.t) v)] s = .ok (dV v) s := fun s => by
      have := t_pmap (s := s) hp (Bd_mp bi hv bt)
      rw [show mpP p (mp (inv p.m) (tinv p.m p.t) v) = v from back2 hd] at this
      exact this
    have nv : ∀ s, gNe (dV v) (dV v) s = .ok (.bl false) s := fun s => by rw [w_neV, decide_eq_true rfl]; rfl
    unfold st_10
    clear hp hv bi bt
    decreasing_trivial
theorem Bd_col {v : V3} {a b : Nat} (h : BdV 13 6 v) (ha : 13 ≤ a := by omega) (hb : 6 ≤ b := by omega) : BdV a b v := h.mono
theorem q_11 {ns : List Int} {s : S} {v : V3} {a0 a2 a3 a4 a5 a6 a8 a9 a10 a11 a12 a13 a14 a15 a16 a17 a18 a19 a20 : SD} (hv : BdV 13 6 v) (h : Rw ns s) : ∃ (w : V3) (s' : S), st_11 [a0, .v (.cell 2), a2, a3, a4, a5, a6, .v (dV v), a8, a9, a10, a11, a12, a13, a14, a15, a16, a17, a18, a19, a20, .un, .un, .un, .un, .un] s = .nx [a0, .v (.cell 2), a2, a3, a4, a5, a6, .v (dV v), a8, a9, a10, a11, a12, .v (dV w), a14, a15, a16, a17, a18, a19, a20, .un, .un, .un, .un, .un] s' ∧ BdV 13 6 w ∧ Rw ns s' := by
  obtain ⟨d, s1, e1, m1, r1⟩ := t_pick (ds := [dV v, dV V0, .tup [.tup [.int 1, .int 1], .tup [.int (-1), .int 1], .tup [.int 0, .int 1]]]) h (by simp) (by simp)
  obtain ⟨w, rfl, hw⟩ : ∃ w : V3, d = dV w ∧ BdV 13 6 w := by
    simp only [List.mem_cons, List.not_mem_nil, or_false] at m1
    rcases m1 with rfl | rfl | rfl
    · exact ⟨v, rfl, hv⟩
    · exact ⟨V0, rfl, Bd_V0⟩
    · refine ⟨⟨1, ((-1 : Int) : Rat), 0⟩, ?_, Bd1, Bd_int (by show 1 < 2 ^ 13; omega), Bd0⟩
      have := fr_int (-1)
      unfold dV
      dsimp only
      rw [this]
      rfl
  have m3 := fun x s => mulT3 (x := x) (s := s)
  have z0 := dV0
  refine ⟨w, s1, ?_, hw, r1⟩
  unfold st_11
  clear hv h m1 hw r1
  decreasing_trivial
def fl (m : M3) (w : V3) : List V3 := [m.a, m.b, m.c].filter fun l => !decide (dot l w = 0)
theorem lostB_eq {m : M3} {w : V3} : lostB m w = (!decide (w = V0) && decide (fl m w = [])) := by
  unfold lostB fl
  by_cases h1 : dot m.a w = 0 <;> by_cases h2 : dot m.b w = 0 <;> by_cases h3 : dot m.c w = 0 <;> simp [h1, h2, h3]
theorem q_12 {s : S} {p : P3} {w : V3} {a0 a1 a2 a4 a6 a7 a8 a9 a10 a11 a12 a14 a15 a16 a17 a18 a19 a20 : SD} (hp : BdP p) (hw : BdV 13 6 w) : st_12 [a0, a1, a2, .v (dP p), a4, .v (pD p), a6, a7, a8, a9, a10, a11, a12, .v (dV w), a14, a15, a16, a17, a18, a19, a20, .un, .un, .un, .un, .un] s = .nx [a0, a1, a2, .v (dP p), a4, .v (pD p), a6, a7, a8, a9, a10, a11, a12, .v (dV w), a14, a15, a16, a17, a18, a19, a20, .un, .un, .un, .un, .un] s := by
  have e1 : ∀ s, F_is_lost_way [pD p, dV w] s = .ok (.bl (!decide (w = V0) && decide (fl p.m w = []))) s := fun s => by
    rw [← lostB_eq]
    exact t_islost hp.m hw
  have m3 := fun x s => mulT3 (x := x) (s := s)
  have z0 := dV0
  have nv := fun u v s => w_neV (u := u) (v := v) (s := s)
  have z := sz3
  have i0 := fun p s => ixP0 (p := p) (s := s)
  have ed : dM p.m = .tup [dV p.m.a, dV p.m.b, dV p.m.c] := rfl
  have ab := fun b s => alB (b := b) (n := 3) (s := s)
  have d1 := fun s => t_ldot (s := s) hp.m.a hw
  have d2 := fun s => t_ldot (s := s) hp.m.b hw
  have d3 := fun s => t_ldot (s := s) hp.m.c hw
  have f0 := fun q s => fr_ix0 (q := q) (s := s)
  have n0 := fun q => num0 (q := q)
  have cm : compF (.nm 23) t_law_3 (mVar 23) [a0, a1, a2, .v (dP p), a4, .v (pD p), a6, a7, a8, a9, a10, a11, a12, .v (dV w), a14, a15, a16, a17, a18, a19, a20, .un, .un, .un, .un, .un] [dV p.m.a, dV p.m.b, dV p.m.c] s = .ok ((fl p.m w).map dV) s := by
    refine compF_filL dV (fun l => !decide (dot l w = 0)) dV [p.m.a, p.m.b, p.m.c] (fun l hl => ⟨_, rfl, ?_, fun _ => ?_⟩)
    · have dl : ∀ s, F__law_dot [dV l, dV w] s = .ok (fr (dot l w)) s := fun s => by
        simp only [List.mem_cons, List.not_mem_nil, or_false] at hl
        rcases hl with rfl | rfl | rfl
        · exact d1 s
        · exact d2 s
        · exact d3 s
      unfold t_law_3
      clear d1 d2 d3 e1 ab nv
      decreasing_trivial
    · decreasing_trivial
  have el := fun l s => eqLs (l := l) (s := s)
  have zl : (((fl p.m w).map dV).length ≤ sizeLine) = True := eq_true (size_ok (by
    unfold fl
    rw [List.length_map]
    exact Nat.le_trans (List.length_filter_le _ _) (by simp)))
  unfold st_12
  clear hp hw d1 d2 d3
  generalize fl p.m w = L at *
  by_cases hz : w = V0
  · have dz := decide_eq_true hz
    rw [dz] at e1
    have ez : ∀ s, gNe (dV w) (dV V0) s = .ok (.bl false) s := fun s => by rw [w_neV, dz]; rfl
    clear nv hz dz
    decreasing_trivial
  · have dz := decide_eq_false hz
    rw [dz] at e1
    have ez : ∀ s, gNe (dV w) (dV V0) s = .ok (.bl true) s := fun s => by rw [w_neV, dz]; rfl
    clear nv hz dz
    decreasing_trivial
theorem q_13 {ns : List Int} {s : S} {p o : P3} {a0 a2 a5 a6 a7 a8 a9 a10 a11 a12 a13 a14 a15 a16 a17 a18 a19 a20 : SD} (hp : BdP p) (ho : BdP o) (h : Rw ns s) : ∃ (r : P3) (s' : S), st_13 [a0, .v (.cell 2), a2, .v (dP p), .v (dP o), a5, a6, a7, a8, a9, a10, a11, a12, a13, a14, a15, a16, a17, a18, a19, a20, .un, .un, .un, .un, .un] s = .nx [a0, .v (.cell 2), a2, .v (dP p), .v (dP o), a5, a6, a7, a8, a9, a10, a11, a12, a13, .v (dP r), a15, a16, a17, a18, a19, a20, .un, .un, .un, .un, .un] s' ∧ BdP r ∧ Rw ns s' := by
  obtain ⟨d, s1, e1, m1, r1⟩ := t_pick (ds := [dP p, dP o, .tup [dM p.m, dV o.t]]) h (by simp) (by simp)
  obtain ⟨r, rfl, hr⟩ : ∃ r : P3, d = dP r ∧ BdP r := by
    simp only [List.mem_cons, List.not_mem_nil, or_false] at m1
    rcases m1 with rfl | rfl | rfl
    · exact ⟨p, rfl, hp⟩
    · exact ⟨o, rfl, ho⟩
    · exact ⟨⟨p.m, o.t⟩, rfl, ⟨hp.m, ho.t⟩⟩
  have i0 := fun p s => ixP0 (p := p) (s := s)
  have i1 := fun p s => ixP1 (p := p) (s := s)
  refine ⟨r, s1, ?_, hr, r1⟩
  unfold st_13
  clear hp ho h m1 hr r1
  decreasing_trivial
def unitsD : D := .lst [dV V0, dV u1, dV u2, dV u3]
theorem q_14 {s : S} {a0 a1 a2 a3 a4 a5 a6 a7 a8 a9 a10 a11 a12 a13 a14 a15 a16 a17 a18 a19 a20 : SD} : st_14 [a0, a1, a2, a3, a4, a5, a6, a7, a8, a9, a10, a11, a12, a13, a14, a15, a16, a17, a18, a19, a20, .un, .un, .un, .un, .un] s = .nx [a0, a1, a2, a3, a4, a5, a6, a7, a8, a9, a10, a11, a12, a13, a14, .v unitsD, .own (.lst []), a17, a18, a19, a20, .un, .un, .un, .un, .un] s := by
  have m3 := fun x s => mulT3 (x := x) (s := s)
  have z0 := dV0
  have d1 : D.tup [.tup [.int 1, .int 1], .tup [.int 0, .int 1], .tup [.int 0, .int 1]] = dV u1 := rfl
  have d2 : D.tup [.tup [.int 0, .int 1], .tup [.int 1, .int 1], .tup [.int 0, .int 1]] = dV u2 := rfl
  have d3 : D.tup [.tup [.int 0, .int 1], .tup [.int 0, .int 1], .tup [.int 1, .int 1]] = dV u3 := rfl
  have ud : D.lst [dV V0, dV u1, dV u2, dV u3] = unitsD := rfl
  unfold st_14
  decreasing_trivial
end K05

namespace K05
open PySem PySem.Spec L2 Tv
local macro_rules | `(tactic| get_elem_tactic_extensible) => `(tactic| simp only [v_var, v_varB, v_c, v_op, v_un, v_nil, v_cons, v_tup, v_lst, v_test, v_and, v_or, v_not, v_if, v_andV, v_orV, v_notV, v_chain, v_call, v_callF, v_callV, v_isi, v_slice, v_comp, unowned, List.all_cons, List.all_nil, wipeR, and_true, true_and, and_false, false_and, Int.cast_ofNat_Int, v_part, v_noPart, v_fld, v_yes, v_seqI, v_rng1, v_rng2, v_enumI, v_zipI, v_next, v_seq, v_set, v_setO, v_drop, v_ret, v_retN, v_brk, v_cnt, v_ifS, v_frz, v_while, v_for, v_meth, v_setIx, v_cell, v_aug, v_pt, v_par, v_setF, v_fun, v_raise, v_told, v_lamV, v_callL, v_newC, v_setIxE, w_setCell, w_tupC, w_isNotB, w_ix30, w_ix31, w_ix32, w_ixL30, w_ixL31, w_ixL32, w_ixL20, w_ixL21, v_ne_ok, v_loopF_nil, v_compF_nil,
  w_add, Tv.w_sub, w_lt, w_le, w_gt, w_ge, w_neg, w_eqI, w_neI, w_eqB, w_neB, w_is, w_isNot, w_ix20, w_ix21, w_lenT, w_lenL, w_lenZ, w_abs, w_int, w_min, w_max, w_tupT, w_tupL, w_tupZ, kT_int, kT_bl, kT_non, kT_str, kT_tup, kT_lst, k2, Tv.isNon, Pt.run, Pts.run, setM, ownL, baseOk, seqV,
  List.map_cons, List.map_nil, List.cons_append, List.nil_append, List.append_nil, List.replicate_zero, List.replicate_succ, List.length_cons, List.length_nil, List.getElem?_cons_zero, List.getElem?_cons_succ, List.getElem?_nil, List.set_cons_zero, List.set_cons_succ, List.set_nil, Option.some.injEq, ↓reduceIte, reduceCtorEq, decide_true, decide_false, decide_eq_true_eq, Bool.not_true, Bool.not_false, Bool.false_eq_true, Bool.and_true, Bool.true_and, Bool.or_false, Bool.false_or, Bool.or_true, Bool.true_or, Bool.and_false, Bool.false_and, if_true, if_false, String.reduceEq, or_false, or_true, false_or, true_or, Int.reduceLE, Int.reduceLT, Int.reduceNeg, Int.reduceToNat, Int.reduceAdd, Nat.reduceAdd, Nat.reduceLT, Int.reduceSub, Int.reduceMul, Int.reduceEq, Nat.reduceEqDiff, Int.zero_sub, BEq.rfl])
local macro_rules | `(tactic| decreasing_trivial) => `(tactic| simp only [v_var, v_varB, v_c, v_op, v_un, v_nil, v_cons, v_tup, v_lst, v_test, v_and, v_or, v_not, v_if, v_andV, v_orV, v_notV, v_chain, v_call, v_callF, v_callV, v_isi, v_slice, v_comp, unowned, List.all_cons, List.all_nil, wipeR, and_true, true_and, and_false, false_and, Int.cast_ofNat_Int, v_part, v_noPart, v_fld, v_yes, v_seqI, v_rng1, v_rng2, v_enumI, v_zipI, v_next, v_seq, v_set, v_setO, v_drop, v_ret, v_retN, v_brk, v_cnt, v_ifS, v_frz, v_while, v_for, v_meth, v_setIx, v_cell, v_aug, v_pt, v_par, v_setF, v_fun, v_raise, v_told, v_lamV, v_callL, v_newC, v_setIxE, w_setCell, w_tupC, w_isNotB, w_ix30, w_ix31, w_ix32, w_ixL30, w_ixL31, w_ixL32, w_ixL20, w_ixL21, v_ne_ok, v_loopF_nil, v_compF_nil,
  w_add, Tv.w_sub, w_lt, w_le, w_gt, w_ge, w_neg, w_eqI, w_neI, w_eqB, w_neB, w_is, w_isNot, w_ix20, w_ix21, w_lenT, w_lenL, w_lenZ, w_abs, w_int, w_min, w_max, w_tupT, w_tupL, w_tupZ, kT_int, kT_bl, kT_non, kT_str, kT_tup, kT_lst, k2, Tv.isNon, Pt.run, Pts.run, setM, ownL, baseOk, seqV,
  List.map_cons, List.map_nil, List.cons_append, List.nil_append, List.append_nil, List.replicate_zero, List.replicate_succ, List.length_cons, List.length_nil, List.getElem?_cons_zero, List.getElem?_cons_succ, List.getElem?_nil, List.set_cons_zero, List.set_cons_succ, List.set_nil, Option.some.injEq, ↓reduceIte, reduceCtorEq, decide_true, decide_false, decide_eq_true_eq, Bool.not_true, Bool.not_false, Bool.false_eq_true, Bool.and_true, Bool.true_and, Bool.or_false, Bool.false_or, Bool.or_true, Bool.true_or, Bool.and_false, Bool.false_and, if_true, if_false, String.reduceEq, or_false, or_true, false_or, true_or, Int.reduceLE, Int.reduceLT, Int.reduceNeg, Int.reduceToNat, Int.reduceAdd, Nat.reduceAdd, Nat.reduceLT, Int.reduceSub, Int.reduceMul, Int.reduceEq, Nat.reduceEqDiff, Int.zero_sub, BEq.rfl, *])

theorem ext_ok {l es : List D} (h : l.length + es.length ≤ 1000) : oExtend l [.lst es] = some (.non, l ++ es) := by
  show (if l.length + es.length ≤ sizeLine then some (D.non, l ++ es) else none) = _
  rw [if_pos (size_ok (by omega))]
theorem q_15l {s : S} {p r : P3} {u : V3} {L : List D} {a0 a1 a2 a4 a5 a6 a7 a8 a9 a10 a11 a12 a13 a15 a18 a19 a20 : SD} (hp : BdP p) (hr : BdP r) (hu : BdV 2 2 u) (hL : L.length ≤ 100) : l_law_2 [a0, a1, a2, .v (dP p), a4, a5, a6, a7, a8, a9, a10, a11, a12, a13, .v (dP r), a15, .own (.lst L), .v (dV u), a18, a19, a20, .un, .un, .un, .un, .un] s = .nx [a0, a1, a2, .v (dP p), a4, a5, a6, a7, a8, a9, a10, a11, a12, a13, .v (dP r), a15, .own (.lst (if mpP p u = mpP r u then L else L ++ [dV u])), .v (dV u), a18, a19, a20, .un, .un, .un, .un, .un] s := by
  have e1 := fun s => t_pthr (s := s) hp hu
  have e2 := fun s => t_pthr (s := s) hr hu
  have nv := fun u v s => w_neV (u := u) (v := v) (s := s)
  have x0 : oExtend L [.lst []] = some (.non, L) := by rw [ext_ok (by simp; omega), List.append_nil]
  have x1 : oExtend L [.lst [dV u]] = some (.non, L ++ [dV u]) := ext_ok (by simp; omega)
  unfold l_law_2
  clear hp hr hu hL
  generalize mpP p u = A at *
  generalize mpP r u = B at *
  by_cases h : A = B
  · decreasing_trivial
  · decreasing_trivial
theorem unl_eq {p r : P3} : (unl p.m p.t r.m r.t).map dV = (if mpP p u3 = mpP r u3 then (if mpP p u2 = mpP r u2 then (if mpP p u1 = mpP r u1 then (if mpP p V0 = mpP r V0 then [] else [] ++ [dV V0]) else (if mpP p V0 = mpP r V0 then [] else [] ++ [dV V0]) ++ [dV u1]) else (if mpP p u1 = mpP r u1 then (if mpP p V0 = mpP r V0 then [] else [] ++ [dV V0]) else (if mpP p V0 = mpP r V0 then [] else [] ++ [dV V0]) ++ [dV u1]) ++ [dV u2]) else (if mpP p u2 = mpP r u2 then (if mpP p u1 = mpP r u1 then (if mpP p V0 = mpP r V0 then [] else [] ++ [dV V0]) else (if mpP p V0 = mpP r V0 then [] else [] ++ [dV V0]) ++ [dV u1]) else (if mpP p u1 = mpP r u1 then (if mpP p V0 = mpP r V0 then [] else [] ++ [dV V0]) else (if mpP p V0 = mpP r V0 then [] else [] ++ [dV V0]) ++ [dV u1]) ++ [dV u2]) ++ [dV u3]) := by
  unfold unl mpP
  rw [List.filter_cons, List.filter_cons, List.filter_cons, List.filter_cons, List.filter_nil]
  generalize mp p.m p.t V0 = x0
  generalize mp r.m r.t V0 = y0
  generalize mp p.m p.t u1 = x1
  generalize mp r.m r.t u1 = y1
  generalize mp p.m p.t u2 = x2
  generalize mp r.m r.t u2 = y2
  generalize mp p.m p.t u3 = x3
  generalize mp r.m r.t u3 = y3
  by_cases h0 : x0 = y0 <;> by_cases h1 : x1 = y1 <;> by_cases h2 : x2 = y2 <;> by_cases h3 : x3 = y3 <;> simp [h0, h1, h2, h3]
theorem q_15 {s : S} {p r : P3} {a0 a1 a2 a4 a5 a6 a7 a8 a9 a10 a11 a12 a13 a17 a18 a19 a20 : SD} (hp : BdP p) (hr : BdP r) : st_15 [a0, a1, a2, .v (dP p), a4, a5, a6, a7, a8, a9, a10, a11, a12, a13, .v (dP r), .v unitsD, .own (.lst []), a17, a18, a19, a20, .un, .un, .un, .un, .un] s = .nx [a0, a1, a2, .v (dP p), a4, a5, a6, a7, a8, a9, a10, a11, a12, a13, .v (dP r), .v unitsD, .own (.lst ((unl p.m p.t r.m r.t).map dV)), .v (dV u3), a18, a19, a20, .un, .un, .un, .un, .un] s := by
  rw [unl_eq]
  have y0 := fun L hL => q_15l (a0 := a0) (a1 := a1) (a2 := a2) (a4 := a4) (a5 := a5) (a6 := a6) (a7 := a7) (a8 := a8) (a9 := a9) (a10 := a10) (a11 := a11) (a12 := a12) (a13 := a13) (a15 := .v unitsD) (a18 := a18) (a19 := a19) (a20 := a20) (L := L) (s := s) hp hr (Bd_u (v := V0) (by simp)) hL
  have y1 := fun L hL => q_15l (a0 := a0) (a1 := a1) (a2 := a2) (a4 := a4) (a5 := a5) (a6 := a6) (a7 := a7) (a8 := a8) (a9 := a9) (a10 := a10) (a11 := a11) (a12 := a12) (a13 := a13) (a15 := .v unitsD) (a18 := a18) (a19 := a19) (a20 := a20) (L := L) (s := s) hp hr (Bd_u (v := u1) (by simp)) hL
  have y2 := fun L hL => q_15l (a0 := a0) (a1 := a1) (a2 := a2) (a4 := a4) (a5 := a5) (a6 := a6) (a7 := a7) (a8 := a8) (a9 := a9) (a10 := a10) (a11 := a11) (a12 := a12) (a13 := a13) (a15 := .v unitsD) (a18 := a18) (a19 := a19) (a20 := a20) (L := L) (s := s) hp hr (Bd_u (v := u2) (by simp)) hL
  have y3 := fun L hL => q_15l (a0 := a0) (a1 := a1) (a2 := a2) (a4 := a4) (a5 := a5) (a6 := a6) (a7 := a7) (a8 := a8) (a9 := a9) (a10 := a10) (a11 := a11) (a12 := a12) (a13 := a13) (a15 := .v unitsD) (a18 := a18) (a19 := a19) (a20 := a20) (L := L) (s := s) hp hr (Bd_u (v := u3) (by simp)) hL
  have n1 : ∀ (c : Prop) [Decidable c] (l : List D) (x : D) (k : Nat), l.length ≤ k → (if c then l else l ++ [x]).length ≤ k + 1 := fun c _ l x k h => by
    split
    · omega
    · rw [List.length_append, List.length_singleton]
      omega
  have w0 := y0 [] (by simp)
  have w1 := y1 _ (Nat.le_trans (n1 (mpP p V0 = mpP r V0) [] (dV V0) 0 (by simp)) (by omega))
  have w2 := y2 _ (Nat.le_trans (n1 (mpP p u1 = mpP r u1) _ (dV u1) 1 (n1 (mpP p V0 = mpP r V0) [] (dV V0) 0 (by simp))) (by omega))
  have w3 := y3 _ (Nat.le_trans (n1 (mpP p u2 = mpP r u2) _ (dV u2) 2 (n1 (mpP p u1 = mpP r u1) _ (dV u1) 1 (n1 (mpP p V0 = mpP r V0) [] (dV V0) 0 (by simp)))) (by omega))
  clear y0 y1 y2 y3 n1 hp hr
  generalize (if mpP p V0 = mpP r V0 then ([] : List D) else [] ++ [dV V0]) = L0 at *
  generalize (if mpP p u1 = mpP r u1 then L0 else L0 ++ [dV u1]) = L1 at *
  generalize (if mpP p u2 = mpP r u2 then L1 else L1 ++ [dV u2]) = L2' at *
  generalize (if mpP p u3 = mpP r u3 then L2' else L2' ++ [dV u3]) = L3 at *
  have z : (4 ≤ sizeLine) = True := eq_true (size_ok (by omega))
  have ud : unitsD = D.lst [dV V0, dV u1, dV u2, dV u3] := rfl
  unfold st_15
  rw [ud] at w0 w1 w2 w3 ⊢
  clear ud
  decreasing_trivial
  simp only [v_loopF]
  decreasing_trivial
theorem q_16 {ns : List Int} {s : S} {p r : P3} {a0 a1 a2 a3 a4 a6 a7 a8 a9 a10 a11 a12 a13 a15 a17 a18 a19 a20 : SD} (hp : BdP p) (hr : BdP r) (h : Rw ns s) : st_16 [a0, a1, a2, a3, a4, .v (pD p), a6, a7, a8, a9, a10, a11, a12, a13, .v (dP r), a15, .own (.lst ((unl p.m p.t r.m r.t).map dV)), a17, a18, a19, a20, .un, .un, .un, .un, .un] s = .nx [a0, a1, a2, a3, a4, .v (pD p), a6, a7, a8, a9, a10, a11, a12, a13, .v (dP r), a15, .own (.lst ((unl p.m p.t r.m r.t).map dV)), a17, a18, a19, a20, .un, .un, .un, .un, .un] s := by
  have e1 := t_pinit hr h.t1
  have e2 : ∀ s, F_are_alike [pD p, pD r] s = .ok (.bl (decide (unl p.m p.t r.m r.t = []))) s := fun s => by
    have := t_are_alike (m := p.m) (n := r.m) (t := p.t) (u := r.t) (s := s)
    have hb : (decide (p.m = r.m) && decide (p.t = r.t)) = decide (unl p.m p.t r.m r.t = []) := by
      rw [Bool.eq_iff_iff]
      simp only [Bool.and_eq_true, decide_eq_true_eq]
      exact unl_nil.symm
    rw [hb] at this
    exact this
  have e3 : ∀ s, F_apart [pD p, pD r] s = .ok (firstD (unl p.m p.t r.m r.t)) s := fun s => t_apart hp.m hr.m hp.t hr.t
  have e4 := fun l b s => alBV (l := l) (b := b) (n := 0) (s := s)
  have i0 := fun p s => ixP0 (p := p) (s := s)
  have i1 := fun p s => ixP1 (p := p) (s := s)
  have el := fun l s => eqLs (l := l) (s := s)
  unfold st_16
  clear hp hr h
  generalize unl p.m p.t r.m r.t = L at *
  cases L with
  | nil =>
    have en : ∀ s, gNe (.lst ([] : List D)) (.lst []) s = .ok (.bl false) s := fun s => w_ne eqD_nil
    have f0 : firstD [] = .non := rfl
    rw [f0] at e3
    have e5 := fun b s => e4 [] b s
    rw [f0] at e5
    have el : ∀ s, gEq (.lst ([] : List D)) (.lst []) s = .ok (.bl true) s := fun s => w_eq eqD_nil
    decreasing_trivial
  | cons v l =>
    have en : ∀ s, gNe (.lst (dV v :: l.map dV)) (.lst []) s = .ok (.bl true) s := fun s => by
      have e := eqLs (l := v :: l) (s := s)
      have : eqD (.lst ((v :: l).map dV)) (.lst []) = some false := by
        unfold gEq at e
        cases q : eqD (.lst ((v :: l).map dV)) (.lst []) with
        | none => rw [q] at e; cases e
        | some b =>
          rw [q] at e
          simp only [R.ok.injEq, D.bl.injEq, and_true] at e
          rw [e]
          simp
      exact w_ne this
    have f0 : firstD (v :: l) = dV v := rfl
    rw [f0] at e3
    have e5 := fun b s => e4 (v :: l) b s
    rw [f0] at e5
    have el : ∀ s, gEq (.lst (dV v :: l.map dV)) (.lst []) s = .ok (.bl false) s := fun s => by
      have := eqLs (l := v :: l) (s := s)
      simpa using this
    have gi : ∀ s, gIx (.lst (dV v :: l.map dV)) (.int 0) s = .ok (dV v) s := fun s => ixL (atI_get (i := 0) (by rfl))
    have hd : decide (v :: l = []) = false := by simp
    rw [hd] at e2
    decreasing_trivial
theorem q_17 {ns : List Int} {s : S} {v : V3} {a0 a1 a2 a3 a4 a5 a6 a8 a9 a10 a11 a12 a13 a14 a15 a16 a17 a18 a19 a20 : SD} (hv : BdV 13 6 v) (h : Rw ns s) : st_17 [a0, a1, a2, a3, a4, a5, a6, .v (dV v), a8, a9, a10, a11, a12, a13, a14, a15, a16, a17, a18, a19, a20, .un, .un, .un, .un, .un] s = .nx [a0, a1, a2, a3, a4, a5, a6, .v (dV v), a8, a9, a10, a11, a12, a13, a14, a15, a16, a17, a18, a19, a20, .un, .un, .un, .un, .un] s := by
  have e1 := t_same_t h.t1
  have e2 := t_same_f h.t1
  have e3 : ∀ s, F_mapped [mD idM V0, dV v] s = .ok (dV v) s := fun s => by
    have := t_mapped0 (s := s) (o := mD idM V0) (.inl rfl) Bd_idM hv (Bd_V0 (a := 13) (b := 8))
    rw [same1] at this
    exact this
  have e4 : ∀ s, F_mapped [mD zeM V0, dV v] s = .ok (dV V0) s := fun s => by
    have := t_mapped0 (s := s) (o := mD zeM V0) (.inl rfl) Bd_zeM hv (Bd_V0 (a := 13) (b := 8))
    rw [same0] at this
    exact this
  have nv : ∀ v s, gNe (dV v) (dV v) s = .ok (.bl false) s := fun v s => by rw [w_neV, decide_eq_true rfl]; rfl
  have m3 := fun x s => mulT3 (x := x) (s := s)
  have z0 := dV0
  unfold st_17
  clear hv h
  decreasing_trivial
theorem h72 : (7 / 2 : Rat) = mkRat 7 2 := by
  rw [Rat.mkRat_eq_div]
  rfl
def q72 : Rat := mkRat 7 2
def greysD (p : P3) : D := .lst [dV (mpP p (lv 0)), dV (mpP p (lv 1)), dV (mpP p (lv q72))]
theorem q_18 {s : S} {p : P3} {a0 a1 a2 a4 a5 a6 a7 a8 a9 a10 a11 a12 a13 a14 a15 a16 a17 a18 a19 a20 : SD} (hp : BdP p) : st_18 [a0, a1, a2, .v (dP p), a4, a5, a6, a7, a8, a9, a10, a11, a12, a13, a14, a15, a16, a17, a18, a19, a20, .un, .un, .un, .un, .un] s = .nx [a0, a1, a2, .v (dP p), a4, a5, a6, a7, a8, a9, a10, a11, a12, a13, a14, a15, a16, a17, .v (greysD p), a19, a20, .un, .un, .un, .un, .un] s := by
  have b0 : BdV 3 2 (lv 0) := ⟨Bd0, Bd0, Bd0⟩
  have b1 : BdV 3 2 (lv 1) := ⟨Bd1, Bd1, Bd1⟩
  have b7 : Bd 3 2 q72 := ⟨by show (7 : Nat) < 2 ^ 3; omega, by show (2 : Nat) < 2 ^ 2; omega⟩
  have b2 : BdV 3 2 (lv q72) := ⟨b7, b7, b7⟩
  have e0 := fun s => t_pthr (s := s) hp b0
  have e1 := fun s => t_pthr (s := s) hp b1
  have e2 := fun s => t_pthr (s := s) hp b2
  have d0 : D.tup [.tup [.int 0, .int 1], .tup [.int 0, .int 1], .tup [.int 0, .int 1]] = dV (lv 0) := rfl
  have d1 : D.tup [.tup [.int 1, .int 1], .tup [.int 1, .int 1], .tup [.int 1, .int 1]] = dV (lv 1) := rfl
  have d2 : D.tup [.tup [.int 7, .int 2], .tup [.int 7, .int 2], .tup [.int 7, .int 2]] = dV (lv q72) := rfl
  have m3 := fun x s => mulT3 (x := x) (s := s)
  have z := sz3
  unfold st_18 greysD
  clear hp b0 b1 b2 b7
  decreasing_trivial
  simp only [v_compF]
  unfold e_law_3
  decreasing_trivial
theorem grey_eq {p : P3} : greyB p.m p.t = decide (([mpP p (lv 0), mpP p (lv 1), mpP p (lv q72)].filter fun v => !isGrey v) = []) := by
  rw [grey_iff, h72]
  show (isGrey (mpP p (lv 0)) && (isGrey (mpP p (lv 1)) && isGrey (mpP p (lv q72)))) = _
  generalize mpP p (lv 0) = a
  generalize mpP p (lv 1) = b
  generalize mpP p (lv q72) = c
  cases h1 : isGrey a <;> cases h2 : isGrey b <;> cases h3 : isGrey c <;> simp [h1, h2, h3]
theorem q_19 {s : S} {p : P3} {a0 a1 a2 a3 a4 a6 a7 a8 a9 a10 a11 a12 a13 a14 a15 a16 a17 a19 a20 : SD} (hp : BdP p) : st_19 [a0, a1, a2, a3, a4, .v (pD p), a6, a7, a8, a9, a10, a11, a12, a13, a14, a15, a16, a17, .v (greysD p), a19, a20, .un, .un, .un, .un, .un] s = .nx [a0, a1, a2, a3, a4, .v (pD p), a6, a7, a8, a9, a10, a11, a12, a13, a14, a15, a16, a17, .v (greysD p), a19, a20, .un, .un, .un, .un, .un] s := by
  have e1 : ∀ s, F_keeps_greys [pD p] s = .ok (.bl (greyB p.m p.t)) s := fun s => t_greys hp.m
  rw [grey_eq] at e1
  have ef := fun p q s => w_eqF (p := p) (q := q) (s := s)
  have y0 := fun v s => ixV0 (v := v) (s := s)
  have y1 := fun v s => ixV1 (v := v) (s := s)
  have y2 := fun v s => ixV2 (v := v) (s := s)
  have z := sz3
  have el := fun l s => eqLs (l := l) (s := s)
  have ab := fun b s => alB (b := b) (n := 3) (s := s)
  have cm : compF (.nm 25) t_law_4 (mVar 25) [a0, a1, a2, a3, a4, .v (pD p), a6, a7, a8, a9, a10, a11, a12, a13, a14, a15, a16, a17, .v (greysD p), a19, a20, .un, .un, .un, .un, .un] [dV (mpP p (lv 0)), dV (mpP p (lv 1)), dV (mpP p (lv q72))] s = .ok (([mpP p (lv 0), mpP p (lv 1), mpP p (lv q72)].filter fun v => !isGrey v).map dV) s := by
    refine compF_filL dV (fun v => !isGrey v) dV [mpP p (lv 0), mpP p (lv 1), mpP p (lv q72)] (fun v _ => ⟨_, rfl, ?_, fun _ => ?_⟩)
    · unfold t_law_4 isGrey
      clear e1 el ab
      decreasing_trivial
      generalize decide (v.x = v.y) = p1
      generalize decide (v.y = v.z) = p2
      cases p1 <;> cases p2 <;> rfl
    · decreasing_trivial
  unfold st_19
  clear hp
  unfold greysD at *
  have zl : ((([mpP p (lv 0), mpP p (lv 1), mpP p (lv q72)].filter fun v => !isGrey v).map dV).length ≤ sizeLine) = True := eq_true (size_ok (by
    rw [List.length_map]
    exact Nat.le_trans (List.length_filter_le _ _) (by simp)))
  generalize ([mpP p (lv 0), mpP p (lv 1), mpP p (lv q72)].filter fun v => !isGrey v) = L at *
  decreasing_trivial
theorem q_20 {ns : List Int} {s : S} {a0 a2 a3 a4 a5 a6 a7 a8 a9 a10 a11 a12 a13 a14 a15 a16 a17 a18 a19 a20 : SD} (h : Rw ns s) : ∃ (w : V3) (s' : S), st_20 [a0, .v (.cell 2), a2, a3, a4, a5, a6, a7, a8, a9, a10, a11, a12, a13, a14, a15, a16, a17, a18, a19, a20, .un, .un, .un, .un, .un] s = .nx [a0, .v (.cell 2), a2, a3, a4, a5, a6, a7, a8, a9, a10, a11, a12, a13, a14, a15, a16, a17, a18, .v (dV w), a20, .un, .un, .un, .un, .un] s' ∧ BdV 13 6 w ∧ Rw ns s' := by
  obtain ⟨v, s1, e1, b1, r1⟩ := t_colour h
  refine ⟨v, s1, ?_, b1, r1⟩
  unfold st_20
  clear b1 r1 h
  decreasing_trivial
def hasZ (w : V3) : Bool := decide (w.x = 0) || (decide (w.y = 0) || decide (w.z = 0))
def whiteD (w v : V3) : D := if hasZ w = true then .tup [.str "NotTurned"] else .tup [.str "told", wD (diagM w v) V0]
theorem hasZ_t {w : V3} (h : hasZ w = true) : w.x = 0 ∨ w.y = 0 ∨ w.z = 0 := by
  unfold hasZ at h
  simpa using h
theorem hasZ_f {w : V3} (h : ¬hasZ w = true) : w.x ≠ 0 ∧ w.y ≠ 0 ∧ w.z ≠ 0 := by
  unfold hasZ at h
  simpa using h
theorem q_21 {ns : List Int} {s : S} {w v : V3} {a0 a1 a2 a3 a4 a5 a6 a8 a9 a10 a11 a12 a13 a14 a15 a16 a17 a18 a20 : SD} (hw : BdV 13 6 w) (hv : BdV 13 6 v) (h : Rw ns s) : ∃ (s' : S), st_21 [a0, a1, a2, a3, a4, a5, a6, .v (dV v), a8, a9, a10, a11, a12, a13, a14, a15, a16, a17, a18, .v (dV w), a20, .un, .un, .un, .un, .un] s = .nx [a0, a1, a2, a3, a4, a5, a6, .v (dV v), a8, a9, a10, a11, a12, a13, a14, a15, a16, a17, a18, .v (dV w), .v (whiteD w v), .un, .un, .un, .un, .un] s' ∧ Rw ns s' := by
  have h0 := h.t0
  unfold whiteD
  by_cases hz : hasZ w = true
  · rw [if_pos hz]
    have e3 := t_white_no (v := v) (s := s) (hasZ_t hz)
    refine ⟨s, ?_, h⟩
    have e2 : mTold es nm 0 0 e_law_4 [a0, a1, a2, a3, a4, a5, a6, .v (dV v), a8, a9, a10, a11, a12, a13, a14, a15, a16, a17, a18, .v (dV w), a20, .un, .un, .un, .un, .un] s = .ok (.tup [.str "NotTurned"]) s := by
      rw [v_told, h0]
      unfold e_law_4
      clear h h0 hw hv hz
      decreasing_trivial
      rfl
    unfold st_21
    rw [v_set, e2]
    rfl
  · rw [if_neg hz]
    obtain ⟨z1, z2, z3⟩ := hasZ_f hz
    obtain ⟨r, e3⟩ := t_white (s := s) hw hv z1 z2 z3
    refine ⟨s ++ r, ?_, h.app r⟩
    have e2 : mTold es nm 0 0 e_law_4 [a0, a1, a2, a3, a4, a5, a6, .v (dV v), a8, a9, a10, a11, a12, a13, a14, a15, a16, a17, a18, .v (dV w), a20, .un, .un, .un, .un, .un] s = .ok (.tup [.str "told", wD (diagM w v) V0]) (s ++ r) := by
      rw [v_told, h0]
      unfold e_law_4
      clear h h0 hw hv hz
      decreasing_trivial
    unfold st_21
    rw [v_set, e2]
    rfl
theorem in3 {a b c : Int} {s : S} : gIn (.int 0) (.lst [.int a, .int b, .int c]) s = .ok (.bl (decide (a = 0) || (decide (b = 0) || decide (c = 0)))) s := by
  have e : gIn (.int 0) (.lst [.int a, .int b, .int c]) s = (if SeqAt.shaped (.int 0) = true ∧ SeqAt.shaped (.list [.int a, .int b, .int c]) = true then R.ok (D.bl ([PyData.int a, .int b, .int c].any fun z => PyData.eqv z (.int 0))) s else R.no) := rfl
  rw [e, if_pos ⟨rfl, rfl⟩]
  have q : ∀ i : Int, PyData.eqv (.int i) (.int 0) = decide (i = 0) := fun i => by
    rw [Bool.eq_iff_iff, decide_eq_true_eq]
    exact eqv_pl 1 (.int i) (.int 0) _ _ rfl rfl rfl rfl |>.trans (by simp)
  simp only [List.any_cons, List.any_nil, q, Bool.or_false]
theorem q_22 {s : S} {w v : V3} {a0 a1 a2 a3 a4 a5 a6 a8 a9 a10 a11 a12 a13 a14 a15 a16 a17 a18 : SD} (hw : BdV 13 6 w) (hv : BdV 13 6 v) : st_22 [a0, a1, a2, a3, a4, a5, a6, .v (dV v), a8, a9, a10, a11, a12, a13, a14, a15, a16, a17, a18, .v (dV w), .v (whiteD w v), .un, .un, .un, .un, .un] s = .nx [a0, a1, a2, a3, a4, a5, a6, .v (dV v), a8, a9, a10, a11, a12, a13, a14, a15, a16, a17, a18, .v (dV w), .v (whiteD w v), .un, .un, .un, .un, .un] s := by
  have z := sz3
  have f0 := fun q s => fr_ix0 (q := q) (s := s)
  have n0 := fun q => num0 (q := q)
  have dw : dV w = .tup [fr w.x, fr w.y, fr w.z] := rfl
  have cm : compF (.nm 22) mYes e_law_5 [a0, a1, a2, a3, a4, a5, a6, .v (dV v), a8, a9, a10, a11, a12, a13, a14, a15, a16, a17, a18, .v (dV w), .v (whiteD w v), .un, .un, .un, .un, .un] [fr w.x, fr w.y, fr w.z] s = .ok [.int w.x.num, .int w.y.num, .int w.z.num] s := by
    simp only [v_compF]
    unfold e_law_5
    clear n0
    decreasing_trivial
  have gi : ∀ s, gIn (.int 0) (.lst [.int w.x.num, .int w.y.num, .int w.z.num]) s = .ok (.bl (hasZ w)) s := fun s => by
    rw [in3]
    unfold hasZ
    simp only [num0]
  have hc : mComp [22] (mSeqI (mVar 19)) (.nm 22) mYes e_law_5 [a0, a1, a2, a3, a4, a5, a6, .v (dV v), a8, a9, a10, a11, a12, a13, a14, a15, a16, a17, a18, .v (dV w), .v (whiteD w v), .un, .un, .un, .un, .un] s = .ok (.lst [.int w.x.num, .int w.y.num, .int w.z.num]) s := by
    rw [dw] at cm ⊢
    clear dw gi n0 f0
    decreasing_trivial
  have hi : mTest (mOp gIn (mC (.int 0)) (mComp [22] (mSeqI (mVar 19)) (.nm 22) mYes e_law_5)) [a0, a1, a2, a3, a4, a5, a6, .v (dV v), a8, a9, a10, a11, a12, a13, a14, a15, a16, a17, a18, .v (dV w), .v (whiteD w v), .un, .un, .un, .un, .un] s = .ok (hasZ w) s := by
    rw [v_test, v_op, v_c]
    dsimp only
    rw [hc]
    dsimp only
    rw [gi]
  unfold st_22
  rw [v_ifS, hi]
  clear hi hc cm gi f0 n0
  unfold whiteD
  by_cases hz : hasZ w = true
  · rw [hz, if_pos rfl]
    have e2 := fun s => same_NT (s := s)
    clear hz hw hv
    decreasing_trivial
  · have hz' : hasZ w = false := by simpa using hz
    rw [hz', if_neg (by simp)]
    obtain ⟨z1, z2, z3⟩ := hasZ_f hz
    have bd : BdM 19 19 (diagM w v) := ⟨⟨(Bd_div hv.x hw.x z1).mono, Bd0, Bd0⟩, ⟨Bd0, (Bd_div hv.y hw.y z2).mono, Bd0⟩, ⟨Bd0, Bd0, (Bd_div hv.z hw.z z3).mono⟩⟩
    have e1 : ∀ s, F_mapped [wD (diagM w v) V0, dV w] s = .ok (dV v) s := fun s => by
      have := t_mapped0 (s := s) (o := wD (diagM w v) V0) (.inr rfl) bd hw (Bd_V0 (a := 13) (b := 8))
      rw [white1 z1 z2 z3] at this
      exact this
    have e2 : ∀ s, F_mapped [wD (diagM w v) V0, dV ⟨0, w.y, 0⟩] s = .ok (dV ⟨0, v.y, 0⟩) s := fun s => by
      have := t_mapped0 (s := s) (o := wD (diagM w v) V0) (.inr rfl) bd (v := ⟨0, w.y, 0⟩) ⟨Bd0, hw.y, Bd0⟩ (Bd_V0 (a := 13) (b := 8))
      rw [white2 z2] at this
      exact this
    have y1 := fun v s => ixV1 (v := v) (s := s)
    have d1 : D.tup [.tup [.int 0, .int 1], fr w.y, .tup [.int 0, .int 1]] = dV ⟨0, w.y, 0⟩ := rfl
    have d2 : D.tup [.tup [.int 0, .int 1], fr v.y, .tup [.int 0, .int 1]] = dV ⟨0, v.y, 0⟩ := rfl
    have nv : ∀ v s, gNe (dV v) (dV v) s = .ok (.bl false) s := fun v s => by rw [w_neV, decide_eq_true rfl]; rfl
    clear hz hz' hw hv bd dw
    decreasing_trivial
theorem q_23 {s : S} {w v : V3} {a0 a1 a2 a3 a4 a5 a6 a8 a9 a10 a11 a12 a13 a14 a15 a16 a17 a18 a20 : SD} (hw : BdV 13 6 w) (hv : BdV 13 6 v) : st_23 [a0, a1, a2, a3, a4, a5, a6, .v (dV v), a8, a9, a10, a11, a12, a13, a14, a15, a16, a17, a18, .v (dV w), a20, .un, .un, .un, .un, .un] s = .nx [a0, a1, a2, a3, a4, a5, a6, .v (dV v), a8, a9, a10, a11, a12, a13, a14, a15, a16, a17, a18, .v (dV w), a20, .un, .un, .un, .un, .un] s := by
  have e1 := fun s => t_diff (s := s) hw hv
  have l0 := fun s => t_lsub (s := s) hw.x hv.x
  have l1 := fun s => t_lsub (s := s) hw.y hv.y
  have l2 := fun s => t_lsub (s := s) hw.z hv.z
  have y0 := fun v s => ixV0 (v := v) (s := s)
  have y1 := fun v s => ixV1 (v := v) (s := s)
  have y2 := fun v s => ixV2 (v := v) (s := s)
  have ds : D.tup [fr (w.x - v.x), fr (w.y - v.y), fr (w.z - v.z)] = dV (subV w v) := rfl
  have g1 := rng3
  have g2 := rok3
  have z := sz3
  have e4 := fun v s => alV (v := v) (n := 1) (s := s)
  unfold st_23
  clear hw hv
  decreasing_trivial
  simp only [v_compF]
  unfold e_law_6
  decreasing_trivial
end K05

namespace K05
open PySem PySem.Spec L2 Tv
local macro_rules | `(tactic| get_elem_tactic_extensible) => `(tactic| simp only [v_var, v_varB, v_c, v_op, v_un, v_nil, v_cons, v_tup, v_lst, v_test, v_and, v_or, v_not, v_if, v_andV, v_orV, v_notV, v_chain, v_call, v_callF, v_callV, v_isi, v_slice, v_comp, unowned, List.all_cons, List.all_nil, wipeR, and_true, true_and, and_false, false_and, Int.cast_ofNat_Int, v_part, v_noPart, v_fld, v_yes, v_seqI, v_rng1, v_rng2, v_enumI, v_zipI, v_next, v_seq, v_set, v_setO, v_drop, v_ret, v_retN, v_brk, v_cnt, v_ifS, v_frz, v_while, v_for, v_meth, v_setIx, v_cell, v_aug, v_pt, v_par, v_setF, v_fun, v_raise, v_told, v_lamV, v_callL, v_newC, v_setIxE, w_setCell, w_tupC, w_isNotB, w_ix30, w_ix31, w_ix32, w_ixL30, w_ixL31, w_ixL32, w_ixL20, w_ixL21, v_ne_ok, v_loopF_nil, v_compF_nil,
  w_add, Tv.w_sub, w_lt, w_le, w_gt, w_ge, w_neg, w_eqI, w_neI, w_eqB, w_neB, w_is, w_isNot, w_ix20, w_ix21, w_lenT, w_lenL, w_lenZ, w_abs, w_int, w_min, w_max, w_tupT, w_tupL, w_tupZ, kT_int, kT_bl, kT_non, kT_str, kT_tup, kT_lst, k2, Tv.isNon, Pt.run, Pts.run, setM, ownL, baseOk, seqV,
  List.map_cons, List.map_nil, List.cons_append, List.nil_append, List.append_nil, List.replicate_zero, List.replicate_succ, List.length_cons, List.length_nil, List.getElem?_cons_zero, List.getElem?_cons_succ, List.getElem?_nil, List.set_cons_zero, List.set_cons_succ, List.set_nil, Option.some.injEq, ↓reduceIte, reduceCtorEq, decide_true, decide_false, decide_eq_true_eq, Bool.not_true, Bool.not_false, Bool.false_eq_true, Bool.and_true, Bool.true_and, Bool.or_false, Bool.false_or, Bool.or_true, Bool.true_or, Bool.and_false, Bool.false_and, if_true, if_false, String.reduceEq, or_false, or_true, false_or, true_or, Int.reduceLE, Int.reduceLT, Int.reduceNeg, Int.reduceToNat, Int.reduceAdd, Nat.reduceAdd, Nat.reduceLT, Int.reduceSub, Int.reduceMul, Int.reduceEq, Nat.reduceEqDiff, Int.zero_sub, BEq.rfl])
local macro_rules | `(tactic| decreasing_trivial) => `(tactic| simp only [v_var, v_varB, v_c, v_op, v_un, v_nil, v_cons, v_tup, v_lst, v_test, v_and, v_or, v_not, v_if, v_andV, v_orV, v_notV, v_chain, v_call, v_callF, v_callV, v_isi, v_slice, v_comp, unowned, List.all_cons, List.all_nil, wipeR, and_true, true_and, and_false, false_and, Int.cast_ofNat_Int, v_part, v_noPart, v_fld, v_yes, v_seqI, v_rng1, v_rng2, v_enumI, v_zipI, v_next, v_seq, v_set, v_setO, v_drop, v_ret, v_retN, v_brk, v_cnt, v_ifS, v_frz, v_while, v_for, v_meth, v_setIx, v_cell, v_aug, v_pt, v_par, v_setF, v_fun, v_raise, v_told, v_lamV, v_callL, v_newC, v_setIxE, w_setCell, w_tupC, w_isNotB, w_ix30, w_ix31, w_ix32, w_ixL30, w_ixL31, w_ixL32, w_ixL20, w_ixL21, v_ne_ok, v_loopF_nil, v_compF_nil,
  w_add, Tv.w_sub, w_lt, w_le, w_gt, w_ge, w_neg, w_eqI, w_neI, w_eqB, w_neB, w_is, w_isNot, w_ix20, w_ix21, w_lenT, w_lenL, w_lenZ, w_abs, w_int, w_min, w_max, w_tupT, w_tupL, w_tupZ, kT_int, kT_bl, kT_non, kT_str, kT_tup, kT_lst, k2, Tv.isNon, Pt.run, Pts.run, setM, ownL, baseOk, seqV,
  List.map_cons, List.map_nil, List.cons_append, List.nil_append, List.append_nil, List.replicate_zero, List.replicate_succ, List.length_cons, List.length_nil, List.getElem?_cons_zero, List.getElem?_cons_succ, List.getElem?_nil, List.set_cons_zero, List.set_cons_succ, List.set_nil, Option.some.injEq, ↓reduceIte, reduceCtorEq, decide_true, decide_false, decide_eq_true_eq, Bool.not_true, Bool.not_false, Bool.false_eq_true, Bool.and_true, Bool.true_and, Bool.or_false, Bool.false_or, Bool.or_true, Bool.true_or, Bool.and_false, Bool.false_and, if_true, if_false, String.reduceEq, or_false, or_true, false_or, true_or, Int.reduceLE, Int.reduceLT, Int.reduceNeg, Int.reduceToNat, Int.reduceAdd, Nat.reduceAdd, Nat.reduceLT, Int.reduceSub, Int.reduceMul, Int.reduceEq, Nat.reduceEqDiff, Int.zero_sub, BEq.rfl, *])

theorem seq_nx {sa sb : SM} {ρ ρ' : List SD} {s s' : S} (h : sa ρ s = .nx ρ' s') : mSeq sa sb ρ s = sb ρ' s' := by
  rw [v_seq, h]
theorem turn {ns : List Int} {s : S} {a0 a2 a3 a4 a5 a6 a7 a8 a9 a10 a11 a12 a13 a14 a15 a16 a17 a18 a19 a20 : SD} (h : Rw ns s) : ∃ (b3 b4 b5 b6 b7 b8 b9 b10 b11 b12 b13 b14 b15 b16 b17 b18 b19 b20 : SD) (s' : S), l_law_3 [a0, .v (.cell 2), a2, a3, a4, a5, a6, a7, a8, a9, a10, a11, a12, a13, a14, a15, a16, a17, a18, a19, a20, .un, .un, .un, .un, .un] s = .nx [a0, .v (.cell 2), a2, b3, b4, b5, b6, b7, b8, b9, b10, b11, b12, b13, b14, b15, b16, b17, b18, b19, b20, .un, .un, .un, .un, .un] s' ∧ Rw ns s' := by
  rw [turn_eq]
  obtain ⟨p, o, s1, e1, hp, ho, r1⟩ := q_1 h
  rw [seq_nx e1]
  clear e1 h
  obtain ⟨v, s2, e1, hv, r2⟩ := q_2 hp ho r1
  rw [seq_nx e1]
  clear e1 r1
  rw [seq_nx q_3, seq_nx (q_4 hp hv), seq_nx (q_5 hp ho)]
  obtain ⟨b9, s3, e1, r3⟩ := q_6 hp ho hv r2
  rw [seq_nx e1]
  clear e1 r2
  rw [seq_nx (q_7 hp), seq_nx (q_8 hp), seq_nx (q_9 hp r3), seq_nx (q_10 hp hv)]
  obtain ⟨w, s4, e1, hw, r4⟩ := q_11 hv r3
  rw [seq_nx e1]
  clear e1 r3
  rw [seq_nx (q_12 hp hw)]
  obtain ⟨r, s5, e1, hr, r5⟩ := q_13 hp ho r4
  rw [seq_nx e1]
  clear e1 r4
  rw [seq_nx q_14, seq_nx (q_15 hp hr), seq_nx (q_16 hp hr r5), seq_nx (q_17 hv r5), seq_nx (q_18 hp), seq_nx (q_19 hp)]
  obtain ⟨w2, s6, e1, hw2, r6⟩ := q_20 r5
  rw [seq_nx e1]
  clear e1 r5
  obtain ⟨s7, e1, r7⟩ := q_21 hw2 hv r6
  rw [seq_nx e1]
  clear e1 r6
  rw [seq_nx (q_22 hw2 hv)]
  rw [q_23 hw2 hv]
  exact ⟨_, _, _, _, _, _, _, _, _, _, _, _, _, _, _, _, _, _, _, rfl, r7⟩
theorem turns {ns : List Int} : ∀ (ds : List D) (s : S) (a0 a2 a3 a4 a5 a6 a7 a8 a9 a10 a11 a12 a13 a14 a15 a16 a17 a18 a19 a20 : SD), Rw ns s → ∃ (ρ : List SD) (s' : S), loopF (.nm 2) l_law_3 ds [a0, .v (.cell 2), a2, a3, a4, a5, a6, a7, a8, a9, a10, a11, a12, a13, a14, a15, a16, a17, a18, a19, a20, .un, .un, .un, .un, .un] s = .nx ρ s' ∧ Rw ns s'
  | [], s, a0, a2, a3, a4, a5, a6, a7, a8, a9, a10, a11, a12, a13, a14, a15, a16, a17, a18, a19, a20, h => ⟨_, s, rfl, h⟩
  | d :: ds, s, a0, a2, a3, a4, a5, a6, a7, a8, a9, a10, a11, a12, a13, a14, a15, a16, a17, a18, a19, a20, h => by
    obtain ⟨b3, b4, b5, b6, b7, b8, b9, b10, b11, b12, b13, b14, b15, b16, b17, b18, b19, b20, s1, e1, r1⟩ := turn (a0 := a0) (a2 := .v d) (a3 := a3) (a4 := a4) (a5 := a5) (a6 := a6) (a7 := a7) (a8 := a8) (a9 := a9) (a10 := a10) (a11 := a11) (a12 := a12) (a13 := a13) (a14 := a14) (a15 := a15) (a16 := a16) (a17 := a17) (a18 := a18) (a19 := a19) (a20 := a20) h
    obtain ⟨ρ, s2, e2, r2⟩ := turns ds s1 a0 (.v d) b3 b4 b5 b6 b7 b8 b9 b10 b11 b12 b13 b14 b15 b16 b17 b18 b19 b20 r1
    refine ⟨ρ, s2, ?_, r2⟩
    rw [v_loopF]
    have e3 : Pt.run (.nm 2) d [a0, .v (.cell 2), a2, a3, a4, a5, a6, a7, a8, a9, a10, a11, a12, a13, a14, a15, a16, a17, a18, a19, a20, .un, .un, .un, .un, .un] = some [a0, .v (.cell 2), .v d, a3, a4, a5, a6, a7, a8, a9, a10, a11, a12, a13, a14, a15, a16, a17, a18, a19, a20, .un, .un, .un, .un, .un] := rfl
    rw [e3]
    dsimp only
    rw [e1]
    exact e2
theorem law_true (ns : List Int) (h : ns.length ≤ 63) (hb : ∀ z ∈ ns, Builtin.Int.intBits z ≤ 1048576) : ∃ s, F_law [scr ns] (tabsS 2) = .ok (.bl true) s := by
  have r0 : Rw ns ([.tab 0, .tab 1] ++ [.lst [scr ns, .int 0, .int 4051, .int 0]]) := ⟨0, 4051, 0, [], rfl, by show 4051 < 2 ^ 40; omega⟩
  obtain ⟨ρ, s', e1, _⟩ := turns (rngD 0 4) _ (.v (scr ns)) .un .un .un .un .un .un .un .un .un .un .un .un .un .un .un .un .un .un .un r0
  refine ⟨s', ?_⟩
  have et : tabsS 2 = [.tab 0, .tab 1] := rfl
  have g4 := rok4
  have z4 : ((rngD 0 4).length ≤ sizeLine) = True := eq_true (size_ok (by simp [rng4]))
  rw [et]
  unfold F_law b_law
  clear r0 hb h
  rw [v_fun, v_seq]
  have s1 : mCell 1 (mLst (mCons (mVar 0) (mCons (mC (.int 0)) (mCons (mC (.int 4051)) (mCons (mC (.int 0)) mNil))))) (List.map SD.v [scr ns] ++ List.replicate 25 SD.un) [.tab 0, .tab 1] = .nx [.v (scr ns), .v (.cell 2), .un, .un, .un, .un, .un, .un, .un, .un, .un, .un, .un, .un, .un, .un, .un, .un, .un, .un, .un, .un, .un, .un, .un, .un] ([.tab 0, .tab 1] ++ [.lst [scr ns, .int 0, .int 4051, .int 0]]) := by
    clear e1
    decreasing_trivial
  rw [s1]
  dsimp only
  rw [v_seq]
  have s2 : ∀ ρ s, mRng1 (mCons (mC (.int 4)) mNil) ρ s = .ok (rngD 0 4) s := fun ρ s => by
    clear e1 s1
    decreasing_trivial
  rw [v_for, s2]
  dsimp only
  rw [e1]
  dsimp only
  rw [v_ret, v_c]
end K05

namespace K05
open PySem PySem.Spec PyProof.Rows L2 Tv He
/-- the law from its plain statement -/
theorem facts {w : World} {K : PySem.W.Frag} {h : Heap} {mg : Str → Option Value} {f : Addr} (X : K.In h) (G : h.Ns mainGlobals mg) (hfa : mg ("law" : Str) = some (.ref f)) (c : SaysY fa fn [] tf exK fx w h K) : LawG PySem.Challenge.rw_tintbridge_k05_whole_maps w K 9 63 "script" mg f h := by
  obtain ⟨fd, F⟩ := c.x.t.d.def_ 57 (d := dd_law) rfl
  have e := hfa.symm.trans (He.glo_ok X G (c.x.t.d.fact 57 (f := .glo "law") rfl))
  cases e
  have b := FunD.bindsA (ps := ["script"]) F fun _ _ _ _ _ _ us hl => match us, hl with | [_], _ => rfl
  have ndt : ((tf.map (cT K)).map (·.2)).Nodup := by
    have := of_decide_eq_true (ba (ba (ba c.x.more).2).2).2
    rw [List.map_map]
    exact this
  have mt : ∀ p ∈ tf.map (cT K), ∃ q ∈ tf, cT K q = p := fun p hp => List.mem_map.mp hp
  refine ⟨fd, tf.map (cT K), spD K (tb K) 1 F_law, fun p hp => ?_, fun p hp => ?_, fun p hp => ?_, fun s v => b s [v] rfl, lawG_sp ndt (fun i p hi => ?_) law_true, fun base b1 b2 TB A outer s H us vs Q E hg hr e0 bt r h => fnC_run (N := ["script", "row", "turn", "parts", "other", "one", "two", "colour", "both", "told", "whole_now", "back", "gone", "try_now", "rival", "units", "unlike", "unit", "greys", "white", "found", "k", "each", "line", "level", "grey"]) (ps := ["script"]) F sc_law (by decide) hr e0 bt r h fun cdv hc hr2 => bo_law (cn_of X G c fun p hp => TB _ (List.mem_map_of_mem (f := cT K) hp)) hg hc hr2⟩
  · obtain ⟨q, hq, rfl⟩ := mt p hp
    exact c.x.empty q hq
  · obtain ⟨q, hq, rfl⟩ := mt p hp
    exact c.x.out q hq
  · obtain ⟨q, hq, rfl⟩ := mt p hp
    exact PySem.W.codeHd_of_K X (c.x.hd q hq)
  · match i, hi with
    | 0, hi => cases hi; rfl
    | 1, hi => cases hi; rfl
    | i + 2, hi => cases hi
end K05
open PySem PySem.W PySem.Calls PyProof.Rows in
set_option maxHeartbeats 0 in
theorem PySem.Challenge.cw_tintbridge_k05_whole_maps_holds : PySem.Challenge.rw_tintbridge_k05_whole_maps.Holds := by
  w_on; o_law
  refine HandSHeadRun.head_any (r := OpenLaw.row PySem.Challenge.rw_tintbridge_k05_whole_maps) (q := view (OpenLaw.row PySem.Challenge.rw_tintbridge_k05_whole_maps).prog [80]) (H := K05.hk) (ob := K05.ob) (M := 30000) (loose := K05.names) (d := HandSHeadRun.topDef (OpenLaw.row PySem.Challenge.rw_tintbridge_k05_whole_maps).prog 80) (kwd := []) K05.ob_eq
    (by kernel_rfl) (fun s => by kernel_rfl) K05.run (by kernel_rfl) (by kernel_rfl) (by kernel_rfl) (by rfl) (by first | assumption | decide +kernel) (by decide +kernel) ⟨rfl, rfl, rfl, rfl, rfl, by decide +kernel⟩ ?hw ?hc
  case hw => w_witness2
  case hc =>
    refine Tv.walk_G (l := PySem.Challenge.rw_tintbridge_k05_whole_maps) (n := 63) (k := 9) (x := "script") rfl (by decide) (by kernel_rfl) ⟨rfl, by decide, by decide⟩ ?F
    intro w mg fa h Y G hmg0
    obtain ⟨K, KX, c⟩ := Y
    have hmg : mg ("law" : PySem.Str) = some (.ref fa) := by
      have e : (HandSHeadRun.topDef (OpenLaw.row PySem.Challenge.rw_tintbridge_k05_whole_maps).prog 80).name = ("law" : PySem.Str) := by kernel_rfl
      rw [← e]
      exact hmg0
    exact ⟨K, KX, K05.facts KX G hmg c⟩

