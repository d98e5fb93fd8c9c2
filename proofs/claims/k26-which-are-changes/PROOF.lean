import PyProof.Rows.All
import HandS.ForMost
import HandS.Exc
import HandS.ExcOwn
import HandS.CallSlots
import HandS.WordsExc
import HandS.Walk
import HandS.Zip
import HandS.Wide
import HandS.More
import HandS.Codes
import HandS.Lambda
import HandS.IsInst
import HandS.TupAny
import HandS.TupMul
import KE.GoesEnum
import KE.GoesZip
import KE.GoesMore
import HandS.Style
import HandS.Defaults
import HandS.HeadHook2
import HandS.HeadHook3
import HandS.HeadHook4
import HandS.HeadWalk
import HandS.Head0
import HandS.Head1
import HandS.Head2
import HandS.ExcInit
import HandS.ExcCtx
import KE.KExcSuper
import HandS.ExcValue
import HandS.SetFor
import PyProof.EqKinds
import HandS.Deep
import HandS.ExcField
import HandS.ExcIs
import KE.KExcIs
import HandS.HotCalls
import PyProof.ReprRoads
import HandS.EndTab
import HandS.Iter
import KE.KDflt
import HandS.Text
import HandS.RaiseMore
import HandS.Dict
import PyProof.StrOps2
import PyProof.P3Eq
import PyProof.ReprLen
import PySem.Challenge.RW_tintbridge_k26_which_are_changes
set_option Elab.async false
set_option linter.all false
set_option maxRecDepth 100000
set_option maxHeartbeats 4000000
/-! Tv1: values as trees, their standing in the heap, the state of a frame -/
namespace Tv
open PySem PySem.Spec PyProof.Rows L2

inductive D where
  | non | bl (b : Bool) | int (i : Int) | str (x : Str)
  | tup (ds : List D) | lst (ds : List D) | frz (ds : List D)
  | ins (c : Nat) (ds : List D)
  | cell (n : Nat)
  | fn (n : Nat)
  | dic (ks : List Key) (ds : List D)
  | exc (c : Nat) (ds : List D)
  | sf (c : Nat) (ds : List D)
  | lam (n : Nat)
  | tab (n : Nat)
  deriving Inhabited

/-- addresses of classes and defs, the fields' names of a class's instances -/
structure Tb where
  cls : Nat → Addr
  fn : Nat → Addr
  fl : Nat → List Str
  self : Option Addr := none
  /-- a lambda of kind n made at an address | the name and the address of the n-th table of code objects | the caught exception: its address, its class, its dict -/
  lo : Nat → Addr → Addr → HO := fun _ _ _ => .rng 0 0
  lq : Nat → Str := fun _ => Str.empty
  tq : Nat → Str := fun _ => Str.empty
  ta : Nat → Addr := fun _ => 0
  xv : Option (Addr × Nat × Option Addr) := none

abbrev S := List D
inductive R (α : Type) where
  | ok (a : α) (s : S) | er (c : Nat) (ds : List D) (s : S) | no
def R.bind {α β : Type} (r : R α) (f : α → S → R β) : R β := match r with
  | .ok a s => f a s
  | .er c ds s => .er c ds s
  | .no => .no

inductive SD where
  | un | v (d : D) | own (d : D)
abbrev EM := List SD → S → R D
abbrev TM := List SD → S → R Bool
abbrev FM := List D → S → R D

mutual
inductive Rep (K : PySem.W.Frag) (T : Tb) (cm : List Addr) (G : Hp) : V → D → Prop
  | non : Rep K T cm G .non .non
  | bl (b : Bool) : Rep K T cm G (.bl b) (.bl b)
  | int (i : Int) : Rep K T cm G (.int i) (.int i)
  | str (x : Str) : Rep K T cm G (.str x) (.str x)
  | tup {a : Addr} {xs : List V} {ds : List D} : SqT K G a xs → Reps K T cm G xs ds → Rep K T cm G (.ref a) (.tup ds)
  | lst {a : Addr} {xs : List V} {ds : List D} : G a = some (.lst xs) → Reps K T cm G xs ds → Rep K T cm G (.ref a) (.lst ds)
  | frz {a : Addr} {xs : List V} {ds : List D} : SqL K G a xs → Reps K T cm G xs ds → Rep K T cm G (.ref a) (.frz ds)
  | ins {a dx : Addr} {c : Nat} {fs : List (Str × V)} {ds : List D} : G a = some (.ins (T.cls c) dx fs) → fs.map (·.1) = T.fl c → Reps K T cm G (fs.map (·.2)) ds → Rep K T cm G (.ref a) (.ins c ds)
  | cell {a : Addr} {n : Nat} : cm[n]? = some a → Rep K T cm G (.ref a) (.cell n)
  | fn (n : Nat) : Rep K T cm G (.ref (T.fn n)) (.fn n)
  | lam {a c : Addr} {n : Nat} : G a = some (T.lo n a c) → G c = some (LamX.CodeO c (T.lq n)) → Rep K T cm G (.ref a) (.lam n)
  | exc0 {a : Addr} {c : Nat} : T.xv = some (a, c, none) → Rep K T cm G (.ref a) (.exc c [])
  | exc1 {a dd : Addr} {c : Nat} {gs : List (Str × V)} {ds : List D} : T.xv = some (a, c, some dd) → G dd = some (.xd gs) → gs.map (·.1) = T.fl c → Reps K T cm G (gs.map (·.2)) ds → Rep K T cm G (.ref a) (.exc c ds)
  | dic {a : Addr} {kvs : List (Key × V)} {ds : List D} : Rd G a (.dK kvs) → Reps K T cm G (kvs.map (·.2)) ds → Rep K T cm G (.ref a) (.dic (kvs.map (·.1)) ds)
inductive Reps (K : PySem.W.Frag) (T : Tb) (cm : List Addr) (G : Hp) : List V → List D → Prop
  | nil : Reps K T cm G [] []
  | cons {v : V} {d : D} {vs : List V} {ds : List D} : Rep K T cm G v d → Reps K T cm G vs ds → Reps K T cm G (v :: vs) (d :: ds)
end

/-! ### growing -/
def Sub (G G' : Hp) : Prop := ∀ a o, G a = some o → G' a = some o
theorem Sub.refl (G : Hp) : Sub G G := fun _ _ h => h
theorem Sub.trans {G G1 G2 : Hp} (a : Sub G G1) (b : Sub G1 G2) : Sub G G2 := fun c o h => b c o (a c o h)
theorem Sub.rd {G G' : Hp} {a : Addr} {u : HO} (e : Sub G G') (h : Rd G a u) : Rd G' a u := by
  rcases h with h | ⟨o, h⟩
  · exact .inl (e _ _ h)
  · exact .inr ⟨o, e _ _ h⟩
theorem Sub.seqL {K : PySem.W.Frag} {G G' : Hp} {a : Addr} {xs : List V} (e : Sub G G') (h : SqL K G a xs) : SqL K G' a xs := by
  rcases h with h | h
  · exact .inl (e.rd h)
  · exact .inr h
theorem Sub.seqT {K : PySem.W.Frag} {G G' : Hp} {a : Addr} {xs : List V} (e : Sub G G') (h : SqT K G a xs) : SqT K G' a xs := by
  rcases h with h | h
  · exact .inl (e.rd h)
  · exact .inr h
def Pre (cm cm' : List Addr) : Prop := ∃ l, cm' = cm ++ l
theorem Pre.refl (cm : List Addr) : Pre cm cm := ⟨[], by simp⟩
theorem Pre.trans {a b c : List Addr} (h : Pre a b) (h' : Pre b c) : Pre a c := by
  obtain ⟨l, rfl⟩ := h
  obtain ⟨m, rfl⟩ := h'
  exact ⟨l ++ m, by simp⟩
theorem Pre.get {a b : List Addr} (h : Pre a b) {n : Nat} {x : Addr} (e : a[n]? = some x) : b[n]? = some x := by
  obtain ⟨l, rfl⟩ := h
  have hn : n < a.length := (List.getElem?_eq_some_iff.mp e).1
  rw [List.getElem?_append_left hn]
  exact e
theorem Pre.mem {a b : List Addr} (h : Pre a b) {x : Addr} (e : x ∈ a) : x ∈ b := by
  obtain ⟨l, rfl⟩ := h
  exact List.mem_append_left _ e

section
variable {K : PySem.W.Frag} {T : Tb} {cm cm' : List Addr} {G G' : Hp}
mutual
theorem Rep.mono (hc : Pre cm cm') (hg : Sub G G') : ∀ (d : D) (v : V), Rep K T cm G v d → Rep K T cm' G' v d
  | .non, _, h => by cases h; exact .non
  | .bl b, _, h => by cases h; exact .bl b
  | .int i, _, h => by cases h; exact .int i
  | .str x, _, h => by cases h; exact .str x
  | .tup ds, _, h => by
    cases h with
    | tup hs hr => exact .tup (hg.seqT hs) (Reps.mono hc hg ds _ hr)
  | .lst ds, _, h => by
    cases h with
    | lst hs hr => exact .lst (hg _ _ hs) (Reps.mono hc hg ds _ hr)
  | .frz ds, _, h => by
    cases h with
    | frz hs hr => exact .frz (hg.seqL hs) (Reps.mono hc hg ds _ hr)
  | .ins c ds, _, h => by
    cases h with
    | ins ha hn hr => exact .ins (hg _ _ ha) hn (Reps.mono hc hg ds _ hr)
  | .cell n, _, h => by
    cases h with
    | cell e => exact .cell (hc.get e)
  | .fn n, _, h => by cases h; exact .fn n
  | .dic ks ds, _, h => by
    cases h with
    | dic ha hr => exact .dic (hg.rd ha) (Reps.mono hc hg ds _ hr)
  | .exc c ds, _, h => by
    cases h with
    | exc0 e => exact .exc0 e
    | exc1 e ha hn hr => exact .exc1 e (hg _ _ ha) hn (Reps.mono hc hg ds _ hr)
  | .lam n, _, h => by
    cases h with
    | lam e e2 => exact .lam (hg _ _ e) (hg _ _ e2)
  | .sf _ _, _, h => by cases h
  | .tab _, _, h => by cases h
theorem Reps.mono (hc : Pre cm cm') (hg : Sub G G') : ∀ (ds : List D) (vs : List V), Reps K T cm G vs ds → Reps K T cm' G' vs ds
  | [], _, h => by cases h; exact .nil
  | d :: ds, _, h => by
    cases h with
    | cons h1 h2 => exact .cons (Rep.mono hc hg d _ h1) (Reps.mono hc hg ds _ h2)
end
theorem Reps.len : ∀ {vs : List V} {ds : List D}, Reps K T cm G vs ds → vs.length = ds.length
  | _, _, .nil => rfl
  | _, _, .cons _ t => by simp [Reps.len t]
theorem Reps.app : ∀ {vs ws : List V} {ds es : List D}, Reps K T cm G vs ds → Reps K T cm G ws es → Reps K T cm G (vs ++ ws) (ds ++ es)
  | _, _, _, _, .nil, h => h
  | _, _, _, _, .cons r t, h => .cons r (Reps.app t h)
theorem Reps.get : ∀ {vs : List V} {ds : List D} {i : Nat} {d : D}, Reps K T cm G vs ds → ds[i]? = some d → ∃ v, vs[i]? = some v ∧ Rep K T cm G v d
  | _, _, _, _, .nil, e => by simp at e
  | _, _, 0, _, .cons r _, e => by simp at e; subst e; exact ⟨_, rfl, r⟩
  | _, _, i + 1, d, .cons _ t, e => by
    obtain ⟨v, h1, h2⟩ := Reps.get (i := i) (d := d) t (by simpa using e)
    exact ⟨v, by simpa using h1, h2⟩
theorem Reps.getV : ∀ {vs : List V} {ds : List D} {i : Nat} {v : V}, Reps K T cm G vs ds → vs[i]? = some v → ∃ d, ds[i]? = some d ∧ Rep K T cm G v d
  | _, _, _, _, .nil, e => by simp at e
  | _, _, 0, _, .cons r _, e => by simp at e; subst e; exact ⟨_, rfl, r⟩
  | _, _, i + 1, v, .cons _ t, e => by
    obtain ⟨d, h1, h2⟩ := Reps.getV (i := i) (v := v) t (by simpa using e)
    exact ⟨d, by simpa using h1, h2⟩
theorem Reps.set {v : V} {d : D} (r : Rep K T cm G v d) : ∀ {vs : List V} {ds : List D} (i : Nat), Reps K T cm G vs ds → Reps K T cm G (vs.set i v) (ds.set i d)
  | _, _, _, .nil => .nil
  | _, _, 0, .cons _ t => .cons r t
  | _, _, i + 1, .cons q t => .cons q (Reps.set r i t)
theorem Reps.take : ∀ {vs : List V} {ds : List D} (n : Nat), Reps K T cm G vs ds → Reps K T cm G (vs.take n) (ds.take n)
  | _, _, 0, _ => .nil
  | _, _, _ + 1, .nil => .nil
  | _, _, n + 1, .cons r t => .cons r (Reps.take n t)
theorem Reps.drop : ∀ {vs : List V} {ds : List D} (n : Nat), Reps K T cm G vs ds → Reps K T cm G (vs.drop n) (ds.drop n)
  | _, _, 0, r => r
  | _, _, _ + 1, .nil => .nil
  | _, _, n + 1, .cons _ t => Reps.drop n t
theorem Reps.reverse : ∀ {vs : List V} {ds : List D}, Reps K T cm G vs ds → Reps K T cm G vs.reverse ds.reverse
  | _, _, .nil => .nil
  | _, _, .cons r t => by
    rw [List.reverse_cons, List.reverse_cons]
    exact Reps.app (Reps.reverse t) (.cons r .nil)
theorem Reps.dropLast {vs : List V} {ds : List D} (h : Reps K T cm G vs ds) : Reps K T cm G vs.dropLast ds.dropLast := by
  rw [List.dropLast_eq_take, List.dropLast_eq_take, h.len]
  exact Reps.take _ h
end

/-! ### what is hidden -/
open Classical in
noncomputable def hid (p : Addr → Prop) (H : Hp) : Hp := fun a => if p a then none else H a
theorem hid_some {p : Addr → Prop} {H : Hp} {a : Addr} {o : HO} : hid p H a = some o ↔ ¬ p a ∧ H a = some o := by
  unfold hid
  by_cases h : p a
  · rw [if_pos h]
    exact ⟨fun (z : (none : Option HO) = some o) => (by cases z), fun z => absurd h z.1⟩
  · rw [if_neg h]
    exact ⟨fun z => ⟨h, z⟩, fun z => z.2⟩
theorem hid_sub {p p' : Addr → Prop} {H H' : Hp} (h : ∀ a o, ¬ p a → H a = some o → ¬ p' a ∧ H' a = some o) : Sub (hid p H) (hid p' H') := fun a o e => by
  obtain ⟨n, e⟩ := hid_some.mp e
  exact hid_some.mpr (h a o n e)

/-- owned: the list or instance of a slot that this frame made and has not handed on -/
def Ow (σ : L2.St) (ρ : List SD) (a : Addr) : Prop := ∃ (i : Nat) (d : D), ρ[i]? = some (.own d) ∧ σ[i]? = some (some (.ref a))
def HidP (cm : List Addr) (Z : Addr → Prop) (O : Addr → Prop) : Addr → Prop := fun a => a ∈ cm ∨ Z a ∨ O a
noncomputable abbrev GV (cm : List Addr) (Z O : Addr → Prop) (H : Hp) : Hp := hid (HidP cm Z O) H

/-- the object at a is d, its parts stand in G -/
def OwnRep (K : PySem.W.Frag) (T : Tb) (cm : List Addr) (G H : Hp) (a : Addr) : D → Prop
  | .lst ds => ∃ xs, H a = some (.lst xs) ∧ Reps K T cm G xs ds
  | .ins c ds => ∃ dx fs, H a = some (.ins (T.cls c) dx fs) ∧ fs.map (·.1) = (T.fl c).take ds.length ∧ Reps K T cm G (fs.map (·.2)) ds
  | .tab n => a = T.ta n ∧ ∃ ps : Array Value, H a = some (.tbl ps) ∧ TriplesOk ps.toList ∧ ∀ (pos : Pos) (cv : Value), codeAmong pos ps.toList = some cv → ∃ c, cv = .ref c ∧ G c = some (LamX.CodeO c (T.tq n))
  | .sf c ds => T.self = some a ∧ ∃ dx fs, H a = some (.ins (T.cls c) dx fs) ∧ fs.map (·.1) = (T.fl c).take ds.length ∧ Reps K T cm G (fs.map (·.2)) ds
  | _ => False
def D.isSf : D → Bool
  | .sf _ _ => true
  | _ => false

section
variable (K : PySem.W.Frag) (T : Tb)
structure Cells (Z O : Addr → Prop) (cm : List Addr) (H : Hp) (s : S) : Prop where
  len : cm.length = s.length
  nd : cm.Nodup
  at_ : ∀ (n : Nat) (a : Addr) (d : D), cm[n]? = some a → s[n]? = some d → OwnRep K T cm (GV cm Z O H) H a d
  there : ∀ a, a ∈ cm → H a ≠ none
  zok : ∀ a, Z a → H a ≠ none
  nosf : ∀ d, d ∈ s → d.isSf = false
/-- the state of a frame: the slots, the heap, against ρ and s. B: what is to stay; Z: hidden by callers -/
structure Rel (B : Hp) (Z : Addr → Prop) (cm : List Addr) (σ : L2.St) (H : Hp) (ρ : List SD) (s : S) : Prop where
  len : ρ.length = σ.length
  val : ∀ (i : Nat) (d : D), ρ[i]? = some (.v d) → ∃ v, σ[i]? = some (some v) ∧ Rep K T cm (GV cm Z (Ow σ ρ) H) v d
  own : ∀ (i : Nat) (d : D), ρ[i]? = some (.own d) → ∃ a, σ[i]? = some (some (.ref a)) ∧ OwnRep K T cm (GV cm Z (Ow σ ρ) H) H a d ∧ a ∉ cm ∧ ¬ Z a ∧ B a = none
  apart : ∀ (i j : Nat) (d e : D) (a : Addr), ρ[i]? = some (.own d) → ρ[j]? = some (.own e) → σ[i]? = some (some (.ref a)) → σ[j]? = some (some (.ref a)) → i = j
  cells : Cells K T Z (Ow σ ρ) cm H s
  base : ∀ a o, B a = some o → H a = some o ∧ a ∉ cm
/-- all but the cells stays, the cells grow by new ones -/
structure Ext (cm : List Addr) (H : Hp) (cm' : List Addr) (H' : Hp) : Prop where
  pre : Pre cm cm'
  keep : ∀ a o, H a = some o → a ∉ cm → H' a = some o ∧ a ∉ cm'
  there : ∀ a, H a ≠ none → H' a ≠ none
end
section
variable {K : PySem.W.Frag} {T : Tb} {B : Hp} {Z O : Addr → Prop} {cm cm1 cm2 : List Addr} {σ : L2.St} {H H1 H2 : Hp} {ρ : List SD} {s s1 : S}
theorem Ext.refl (cm : List Addr) (H : Hp) : Ext cm H cm H := ⟨.refl _, fun _ _ h n => ⟨h, n⟩, fun _ h => h⟩
theorem Ext.trans (a : Ext cm H cm1 H1) (b : Ext cm1 H1 cm2 H2) : Ext cm H cm2 H2 :=
  ⟨a.pre.trans b.pre, fun x o h n => b.keep x o (a.keep x o h n).1 (a.keep x o h n).2, fun x h => b.there x (a.there x h)⟩
theorem Ext.sub (e : Ext cm H cm1 H1) : Sub (GV cm Z O H) (GV cm1 Z O H1) := hid_sub fun a o (n : ¬ HidP cm Z O a) h => by
  have nc : a ∉ cm := fun z => n (.inl z)
  obtain ⟨h1, h2⟩ := e.keep a o h nc
  refine ⟨fun (z : HidP cm1 Z O a) => ?_, h1⟩
  · rcases z with z | z
    · exact h2 z
    · exact n (.inr z)
/-- a new thing at p -/
theorem Ext.new {p : Addr} {o : HO} (h : H p = none) (hc : ∀ a, a ∈ cm → H a ≠ none) : Ext cm H cm (upd H p o) :=
  ⟨.refl _, fun a u e n => ⟨by rw [upd_ne (ne_of_none e h)]; exact e, n⟩, fun a e => by
    by_cases q : a = p
    · rw [q, upd_same]; intro z; cases z
    · rw [upd_ne q]; exact e⟩
theorem OwnRep.ext {G G1 : Hp} {a : Addr} {d : D} (r : OwnRep K T cm G H a d) (hc : Pre cm cm1) (hg : Sub G G1) (ha : ∀ o, H a = some o → H1 a = some o) : OwnRep K T cm1 G1 H1 a d := by
  cases d with
  | lst ds =>
    obtain ⟨xs, e, q⟩ := r
    exact ⟨xs, ha _ e, Reps.mono hc hg _ _ q⟩
  | ins c ds =>
    obtain ⟨dx, fs, e, n, q⟩ := r
    exact ⟨dx, fs, ha _ e, n, Reps.mono hc hg _ _ q⟩
  | sf c ds =>
    obtain ⟨es, dx, fs, e, n, q⟩ := r
    exact ⟨es, dx, fs, ha _ e, n, Reps.mono hc hg _ _ q⟩
  | tab n =>
    obtain ⟨e1, ps, e, n, q⟩ := r
    refine ⟨e1, ps, ha _ e, n, fun pos cv h => ?_⟩
    obtain ⟨c, h1, h2⟩ := q pos cv h
    exact ⟨c, h1, hg _ _ h2⟩
  | _ => exact r.elim
theorem OwnRep.there {G : Hp} {a : Addr} {d : D} (r : OwnRep K T cm G H a d) : H a ≠ none := by
  cases d with
  | lst ds =>
    obtain ⟨xs, e, q⟩ := r
    rw [e]; intro z; cases z
  | ins c ds =>
    obtain ⟨dx, fs, e, n, q⟩ := r
    rw [e]; intro z; cases z
  | sf c ds =>
    obtain ⟨es, dx, fs, e, n, q⟩ := r
    rw [e]; intro z; cases z
  | tab n =>
    obtain ⟨e1, ps, e, n, q⟩ := r
    rw [e]; intro z; cases z
  | _ => exact r.elim
/-- the state behind an expression -/
theorem Rel.ext (r : Rel K T B Z cm σ H ρ s) (e : Ext cm H cm1 H1) (c : Cells K T Z (Ow σ ρ) cm1 H1 s1) : Rel K T B Z cm1 σ H1 ρ s1 where
  len := r.len
  val := fun i d h => by
    obtain ⟨v, h1, h2⟩ := r.val i d h
    exact ⟨v, h1, Rep.mono e.pre e.sub _ _ h2⟩
  own := fun i d h => by
    obtain ⟨a, h1, h2, h3, h4, h5⟩ := r.own i d h
    have q : ∃ o, H a = some o := by
      cases z : H a with
      | none => exact absurd z h2.there
      | some o => exact ⟨o, rfl⟩
    obtain ⟨o, q⟩ := q
    refine ⟨a, h1, h2.ext e.pre e.sub (fun o z => (e.keep a o z h3).1), (e.keep a o q h3).2, h4, h5⟩
  apart := r.apart
  cells := c
  base := fun a o h => by
    obtain ⟨h1, h2⟩ := r.base a o h
    exact e.keep a o h1 h2
/-- the cells where the heap grows and no cell is touched -/
theorem Cells.grow (c : Cells K T Z O cm H s) (h : Sub H H1) : Cells K T Z O cm H1 s where
  len := c.len
  nd := c.nd
  at_ := fun n a d e1 e2 => (c.at_ n a d e1 e2).ext (.refl _) (hid_sub fun b o n e => ⟨n, h b o e⟩) fun o e => h a o e
  there := fun a m => by
    have q := c.there a m
    cases z : H a with
    | none => exact absurd z q
    | some o => rw [h a o z]; intro z; cases z
  zok := fun a m => by
    have q := c.zok a m
    cases z : H a with
    | none => exact absurd z q
    | some o => rw [h a o z]; intro z; cases z
  nosf := c.nosf
theorem Ext.grow (h : Sub H H1) : Ext cm H cm H1 := ⟨.refl _, fun a o e n => ⟨h a o e, n⟩, fun a e => by
  cases z : H a with
  | none => exact absurd z e
  | some o => rw [h a o z]; intro z; cases z⟩
theorem sub_upd {p : Addr} {o : HO} (h : H p = none) : Sub H (upd H p o) := fun a u e => by rw [upd_ne (ne_of_none e h)]; exact e
end
end Tv

/-! Tv2: what an expression is to reach; joining -/
namespace Tv
open PySem PySem.Spec PyProof.Rows L2

/-- a frame's fixed things while an expression runs -/
structure Fm where
  B : Hp
  Z : Addr → Prop
  σ : L2.St
  ρ : List SD
abbrev Fm.O (F : Fm) : Addr → Prop := Ow F.σ F.ρ
noncomputable abbrev Fm.G (F : Fm) (cm : List Addr) (H : Hp) : Hp := GV cm F.Z F.O H
abbrev FRel (K : PySem.W.Frag) (T : Tb) (F : Fm) (cm : List Addr) (H : Hp) (s : S) : Prop := Rel K T F.B F.Z cm F.σ H F.ρ s

/-- an exception of the class c with the fields' values ds -/
def ErrRep (K : PySem.W.Frag) (T : Tb) (cm : List Addr) (G H : Hp) (cls : Value) (d : Option Addr) (c : Nat) (ds : List D) : Prop :=
  cls = .ref (T.cls c) ∧ ((ds = [] ∧ d = none ∧ T.fl c = []) ∨ ∃ dx gs, d = some dx ∧ G dx = some (.xd gs) ∧ gs.map (·.1) = T.fl c ∧ Reps K T cm G (gs.map (·.2)) ds)

abbrev AK (α β : Type) := Fm → Hp → List Addr → Hp → S → β → α → Prop
section
variable (K : PySem.W.Frag) (T : Tb)
def Post {α β : Type} (F : Fm) (cm : List Addr) (H : Hp) (W : WX) (A : AK α β) (r : R α) (Q : β → Hp → Prop) : Prop := match r with
  | .ok a s' => ∀ b H' cm', Ext cm H cm' H' → FRel K T F cm' H' s' → A F H cm' H' s' b a → Q b H'
  | .er c ds s' => ∀ cls dx H' cm', Ext cm H cm' H' → FRel K T F cm' H' s' → ErrRep K T cm' (F.G cm' H') H' cls dx c ds → W cls dx F.σ H'
  | .no => False
def tP {α β : Type} (W : WX) (A : AK α β) (m : List SD → S → R α) : L2.St → Hp → (β → Hp → Prop) → Prop := fun σ H Q =>
  ∃ B Z cm ρ s, Rel K T B Z cm σ H ρ s ∧ Post K T ⟨B, Z, σ, ρ⟩ cm H W A (m ρ s) Q
/-- a value | a value, or an owned list as it stands | values | a test | a new list or instance that nobody else has -/
def AR : AK D V := fun F _ cm H _ v d => Rep K T cm (F.G cm H) v d
def AB : AK D V := fun F _ cm H _ v d => Rep K T cm (F.G cm H) v d ∨ ∃ a, v = .ref a ∧ F.O a ∧ OwnRep K T cm (F.G cm H) H a d
def AL : AK (List D) (List V) := fun F _ cm H _ v d => Reps K T cm (F.G cm H) v d
def AT : AK Bool Bool := fun _ _ _ _ _ v d => v = d
def AF : AK D V := fun F H0 cm H s v d => ∃ p ds xs, v = .ref p ∧ d = .lst ds ∧ H0 p = none ∧ p ∉ cm ∧ Rel K T F.B (fun a => F.Z a ∨ a = p) cm F.σ H F.ρ s ∧ H p = some (.lst xs) ∧ Reps K T cm (GV cm (fun a => F.Z a ∨ a = p) F.O H) xs ds
def Up {α β : Type} (A : AK α β) : Prop := ∀ F H H1 cm2 H2 s b a, (∀ x, H x ≠ none → H1 x ≠ none) → A F H1 cm2 H2 s b a → A F H cm2 H2 s b a
end
section
variable {K : PySem.W.Frag} {T : Tb}
theorem up_AR : Up (AR K T) := fun _ _ _ _ _ _ _ _ _ h => h
theorem up_AB : Up (AB K T) := fun _ _ _ _ _ _ _ _ _ h => h
theorem up_AL : Up (AL K T) := fun _ _ _ _ _ _ _ _ _ h => h
theorem up_AT : Up AT := fun _ _ _ _ _ _ _ _ _ h => h
theorem none_of_there {H H1 : Hp} {p : Addr} (h : ∀ x, H x ≠ none → H1 x ≠ none) (e : H1 p = none) : H p = none := by
  cases z : H p with
  | none => rfl
  | some o => exact absurd e (h p (by rw [z]; intro z; cases z))
theorem up_AF : Up (AF K T) := fun _ _ _ _ _ _ _ _ h z => by
  obtain ⟨p, ds, xs, e, ed, hp, r⟩ := z
  exact ⟨p, ds, xs, e, ed, none_of_there h hp, r⟩
section
variable {α β α' β' : Type} {F : Fm} {cm cm1 : List Addr} {H H1 : Hp} {W : WX} {A : AK α β} {A' : AK α' β'} {r : R α} {Q Q' : β → Hp → Prop} {s s1 : S}
theorem Post.mono (h : Post K T F cm H W A r Q) (q : ∀ b H', Q b H' → Q' b H') : Post K T F cm H W A r Q' := by
  cases r with
  | ok a s' => exact fun b H' cm' e r z => q b H' (h b H' cm' e r z)
  | er c ds s' => exact h
  | no => exact h
/-- from further on -/
theorem Post.later (h : Post K T F cm H W A r Q) (e : Ext cm H cm1 H1) (up : Up A) : Post K T F cm1 H1 W A r Q := by
  cases r with
  | ok a s' => exact fun b H' cm' e' r z => h b H' cm' (e.trans e') r (up _ _ _ _ _ _ _ _ e.there z)
  | er c ds s' => exact fun cls dx H' cm' e' r z => h cls dx H' cm' (e.trans e') r z
  | no => exact h
/-- what stands behind the first part -/
def Mid (K : PySem.W.Frag) (T : Tb) {α β α' β' : Type} (F : Fm) (cm : List Addr) (H : Hp) (W : WX) (A : AK α β) (A' : AK α' β') (f : α → S → R α') (Q : β' → Hp → Prop) : β → Hp → Prop := fun b H1 =>
  ∃ cm1 a s1, Ext cm H cm1 H1 ∧ FRel K T F cm1 H1 s1 ∧ A F H cm1 H1 s1 b a ∧ Post K T F cm1 H1 W A' (f a s1) Q
theorem Post.bind {f : α → S → R α'} {Q : β' → Hp → Prop} (h : Post K T F cm H W A' (r.bind f) Q) (up : Up A') : Post K T F cm H W A r (Mid K T F cm H W A A' f Q) := by
  cases r with
  | ok a s' => exact fun b H' cm' e r z => ⟨cm', a, s', e, r, z, Post.later h e up⟩
  | er c ds s' => exact h
  | no => exact h
/-- the first part of a joined reading -/
theorem tP.bind {m : List SD → S → R α} {f : List SD → α → S → R α'} {σ : L2.St} {Q : β' → Hp → Prop} {k : β → Hp → Prop} (A : AK α β)
    (h : tP K T W A' (fun ρ s => (m ρ s).bind (f ρ)) σ H Q) (up : Up A')
    (q : ∀ B Z cm ρ b H1, Mid K T ⟨B, Z, σ, ρ⟩ cm H W A A' (f ρ) Q b H1 → k b H1) : tP K T W A m σ H k := by
  obtain ⟨B, Z, cm, ρ, s, r, p⟩ := h
  exact ⟨B, Z, cm, ρ, s, r, (p.bind (A := A) up).mono fun b H1 z => q B Z cm ρ b H1 z⟩
theorem tP.of {m : List SD → S → R α} {σ : L2.St} {B : Hp} {Z : Addr → Prop} {ρ : List SD} (r : FRel K T ⟨B, Z, σ, ρ⟩ cm H s) (p : Post K T ⟨B, Z, σ, ρ⟩ cm H W A (m ρ s) Q) : tP K T W A m σ H Q := ⟨B, Z, cm, ρ, s, r, p⟩
/-- the end: nothing more is made -/
theorem Post.fin {a : α} {b : β} (h : Post K T F cm H W A (.ok a s) Q) (r : FRel K T F cm H s) (z : A F H cm H s b a) : Q b H := h b H cm (Ext.refl _ _) r z
/-- the end: a new thing stands at p -/
theorem FRel.grow (r : FRel K T F cm H s) (g : Sub H H1) : FRel K T F cm H1 s := Rel.ext r (Ext.grow g) (Rel.cells r |>.grow g)
theorem Post.fin_new {a : α} {b : β} (h : Post K T F cm H W A (.ok a s) Q) (r : FRel K T F cm H s) (g : Sub H H1) (z : A F H cm H1 s b a) : Q b H1 := h b H1 cm (Ext.grow g) (r.grow g) z
end

/-! ### a value is a value -/
theorem Rel.hidden {B : Hp} {Z : Addr → Prop} {cm : List Addr} {σ : L2.St} {H : Hp} {ρ : List SD} {s : S} (r : Rel K T B Z cm σ H ρ s) {a : Addr} (h : HidP cm Z (Ow σ ρ) a) : H a ≠ none := by
  rcases h with h | h | ⟨i, d, e1, e2⟩
  · exact r.cells.there a h
  · exact r.cells.zok a h
  · obtain ⟨b, q1, q2, _⟩ := r.own i d e1
    have e : b = a := by rw [q1] at e2; cases e2; rfl
    subst e
    exact q2.there
theorem FRel.new_vis {F : Fm} {cm : List Addr} {H : Hp} {s : S} (r : FRel K T F cm H s) {p : Addr} (h : H p = none) : ¬ HidP cm F.Z F.O p := fun z => Rel.hidden r z h
/-- a new thing is seen -/
theorem vis_new {F : Fm} {cm : List Addr} {H : Hp} {s : S} (r : FRel K T F cm H s) {p : Addr} {o : HO} (h : H p = none) : F.G cm (upd H p o) p = some o := hid_some.mpr ⟨r.new_vis h, upd_same⟩
theorem sub_new {F : Fm} {cm : List Addr} {H : Hp} {s : S} (r : FRel K T F cm H s) {p : Addr} {o : HO} (h : H p = none) : Sub (F.G cm H) (F.G cm (upd H p o)) := hid_sub fun a u n e => ⟨n, sub_upd h a u e⟩
theorem rep_tup {F : Fm} {cm : List Addr} {H : Hp} {s : S} (r : FRel K T F cm H s) {p : Addr} {xs : List V} {ds : List D} (h : H p = none) (q : Reps K T cm (F.G cm H) xs ds) :
    Rep K T cm (F.G cm (upd H p (.tup xs))) (.ref p) (.tup ds) := .tup (.inl (.inl (vis_new r h))) (Reps.mono (.refl _) (sub_new r h) _ _ q)
/-- a new list, its own -/
theorem rep_lst {F : Fm} {cm : List Addr} {H : Hp} {s : S} (r : FRel K T F cm H s) {p : Addr} {xs : List V} {ds : List D} (h : H p = none) (q : Reps K T cm (F.G cm H) xs ds) :
    AF K T F H cm (upd H p (.lst xs)) s (.ref p) (.lst ds) := by
  have nc : p ∉ cm := fun z => r.new_vis h (.inl z)
  have sub : Sub (F.G cm H) (GV cm (fun a => F.Z a ∨ a = p) F.O (upd H p (.lst xs))) := hid_sub fun a u n e => ⟨fun z => by
    rcases z with z | z | z
    · exact n (.inl z)
    · rcases z with z | z
      · exact n (.inr (.inl z))
      · rw [z, h] at e; cases e
    · exact n (.inr (.inr z)), sub_upd h a u e⟩
  refine ⟨p, ds, xs, rfl, rfl, h, nc, ?_, upd_same, Reps.mono (.refl _) sub _ _ q⟩
  have g := sub_upd (o := .lst xs) h
  refine ⟨r.len, fun i d e => ?_, fun i d e => ?_, r.apart, ⟨r.cells.len, r.cells.nd, fun n a d e1 e2 => ?_, fun a m => (r.cells.grow g).there a m, fun a m => ?_, r.cells.nosf⟩, fun a o e => ?_⟩
  · obtain ⟨v, h1, h2⟩ := r.val i d e
    exact ⟨v, h1, Rep.mono (.refl _) sub _ _ h2⟩
  · obtain ⟨a, h1, h2, h3, h4, h5⟩ := r.own i d e
    refine ⟨a, h1, h2.ext (.refl _) sub fun o z => g a o z, h3, fun z => ?_, h5⟩
    rcases z with z | z
    · exact h4 z
    · exact h2.there (by rw [z]; exact h)
  · exact (r.cells.at_ n a d e1 e2).ext (.refl _) sub fun o z => g a o z
  · rcases m with m | m
    · exact (r.cells.grow g).zok a m
    · rw [m, upd_same]; intro z; cases z
  · obtain ⟨h1, h2⟩ := r.base a o e
    exact ⟨g a o h1, h2⟩
/-- the new list as a value -/
theorem AF.val {F : Fm} {H0 : Hp} {cm : List Addr} {H : Hp} {s : S} {v : V} {d : D} {cm0 : List Addr} {s0 : S} (r0 : FRel K T F cm0 H0 s0) (z : AF K T F H0 cm H s v d) : Rep K T cm (F.G cm H) v d := by
  obtain ⟨p, ds, xs, rfl, rfl, hp, hc, r, e, q⟩ := z
  have nv := r0.new_vis hp
  have sub : Sub (GV cm (fun a => F.Z a ∨ a = p) F.O H) (F.G cm H) := hid_sub fun a u n e => ⟨fun z => by
    rcases z with z | z | z
    · exact n (.inl z)
    · exact n (.inr (.inl (.inl z)))
    · exact n (.inr (.inr z)), e⟩
  have vis : F.G cm H p = some (.lst xs) := hid_some.mpr ⟨fun z => by
    rcases z with z | z
    · exact hc z
    · exact nv (.inr z), e⟩
  exact .lst vis (Reps.mono (.refl _) sub _ _ q)
end
/-! ### the judgements -/
abbrev QE (X : Cx) (T : Tb) (W : WX) (e : Expr) (m : EM) : Prop := PE X e (tP X.K T W (AR X.K T) m)
abbrev QB (X : Cx) (T : Tb) (W : WX) (e : Expr) (m : EM) : Prop := PE X e (tP X.K T W (AB X.K T) m)
abbrev QF (X : Cx) (T : Tb) (W : WX) (e : Expr) (m : EM) : Prop := PE X e (tP X.K T W (AF X.K T) m)
abbrev QT (X : Cx) (T : Tb) (W : WX) (e : Expr) (m : TM) : Prop := PT X e (tP X.K T W AT m)
abbrev QW (X : Cx) (T : Tb) (W : WX) (e : Expr) (m : TM) : Prop := PW X e (tP X.K T W AT m)
abbrev QA (X : Cx) (T : Tb) (W : WX) (es : List Expr) (m : List SD → S → R (List D)) : Prop := PA X es (tP X.K T W (AL X.K T) m)
theorem _root_.L2.PE.conv {X : Cx} {e : Expr} {t t' : TE} (h : PE X e t) (c : ∀ σ H Q, t' σ H Q → t σ H Q) : PE X e t' := ⟨fun pins s σ H Q I w => h.run pins s σ H Q I (c σ H Q w)⟩
theorem _root_.L2.PT.conv {X : Cx} {e : Expr} {t t' : TT} (h : PT X e t) (c : ∀ σ H Q, t' σ H Q → t σ H Q) : PT X e t' := ⟨fun pins s σ H Q I w => h.run pins s σ H Q I (c σ H Q w)⟩
theorem _root_.L2.PW.conv {X : Cx} {e : Expr} {t t' : TT} (h : PW X e t) (c : ∀ σ H Q, t' σ H Q → t σ H Q) : PW X e t' := ⟨fun wh pins s σ H Q I w => h.run wh pins s σ H Q I (c σ H Q w)⟩
theorem _root_.L2.PA.conv {X : Cx} {es : List Expr} {t t' : TA} (h : PA X es t) (c : ∀ σ H Q, t' σ H Q → t σ H Q) : PA X es t' := ⟨fun po pins s σ H Q I w => h.run po pins s σ H Q I (c σ H Q w)⟩
section
variable {X : Cx} {T : Tb} {W : WX} {e : Expr} {m : EM}
theorem tP.imp {K : PySem.W.Frag} {T : Tb} {α β : Type} {W : WX} {A A' : AK α β} {m : List SD → S → R α} {σ : L2.St} {H : Hp} {Q : β → Hp → Prop} (h : tP K T W A' m σ H Q)
    (i : ∀ F cm0 H0 s0 cm H s b a, FRel K T F cm0 H0 s0 → Ext cm0 H0 cm H → FRel K T F cm H s → A F H0 cm H s b a → A' F H0 cm H s b a) : tP K T W A m σ H Q := by
  obtain ⟨B, Z, cm, ρ, s, r, p⟩ := h
  refine ⟨B, Z, cm, ρ, s, r, ?_⟩
  cases hm : m ρ s with
  | ok a s' => rw [hm] at p; exact fun b H' cm' e r' z => p b H' cm' e r' (i _ _ _ _ _ _ _ _ _ r e r' z)
  | er c ds s' => rw [hm] at p; exact p
  | no => rw [hm] at p; exact p
/-- a value where an owned one might stand | a new list as a value -/
theorem qb (h : QE X T W e m) : QB X T W e m := PE.conv h fun _ _ _ z => z.imp fun _ _ _ _ _ _ _ _ _ _ _ _ q => .inl q
theorem qf (h : QF X T W e m) : QE X T W e m := PE.conv h fun _ _ _ z => z.imp fun _ _ _ _ _ _ _ _ _ r _ _ q => AF.val r q
end
end Tv

/-! Tv3: expressions -/
namespace Tv
open PySem PySem.Spec PyProof.Rows L2

/-! ### what they reckon -/
def mVar (i : Nat) : EM := fun ρ s => match ρ[i]? with | some (.v d) => .ok d s | _ => .no
def mVarB (i : Nat) : EM := fun ρ s => match ρ[i]? with | some (.v d) => .ok d s | some (.own d) => .ok d s | _ => .no
def mC (d : D) : EM := fun _ s => .ok d s
def mOp (g : D → D → S → R D) (a b : EM) : EM := fun ρ s => (a ρ s).bind fun x s1 => (b ρ s1).bind fun y s2 => g x y s2
def mUn (g : D → S → R D) (a : EM) : EM := fun ρ s => (a ρ s).bind fun x s1 => g x s1
def mNil : List SD → S → R (List D) := fun _ s => .ok [] s
def mCons (a : EM) (r : List SD → S → R (List D)) : List SD → S → R (List D) := fun ρ s => (a ρ s).bind fun x s1 => (r ρ s1).bind fun xs s2 => .ok (x :: xs) s2
def mTup (a : List SD → S → R (List D)) : EM := fun ρ s => (a ρ s).bind fun xs s1 => .ok (.tup xs) s1
def mLst (a : List SD → S → R (List D)) : EM := fun ρ s => (a ρ s).bind fun xs s1 => .ok (.lst xs) s1
def mTest (a : EM) : TM := fun ρ s => (a ρ s).bind fun x s1 => match x with | .bl b => .ok b s1 | _ => .no
def mB (a : TM) : EM := fun ρ s => (a ρ s).bind fun x s1 => .ok (.bl x) s1
def mAnd (a b : TM) : TM := fun ρ s => (a ρ s).bind fun x s1 => match x with | true => b ρ s1 | false => .ok false s1
def mOr (a b : TM) : TM := fun ρ s => (a ρ s).bind fun x s1 => match x with | true => .ok true s1 | false => b ρ s1
def mNot (a : TM) : TM := fun ρ s => (a ρ s).bind fun x s1 => .ok (!x) s1
def mIf (c : TM) (a b : EM) : EM := fun ρ s => (c ρ s).bind fun x s1 => match x with | true => a ρ s1 | false => b ρ s1
def mAndV (a b : EM) : EM := fun ρ s => (a ρ s).bind fun x s1 => match x with | .bl true => b ρ s1 | .bl false => .ok (.bl false) s1 | _ => .no
def mOrV (a b : EM) : EM := fun ρ s => (a ρ s).bind fun x s1 => match x with | .bl true => .ok (.bl true) s1 | .bl false => b ρ s1 | _ => .no
def mNotV (a : EM) : EM := fun ρ s => (a ρ s).bind fun x s1 => match x with | .bl b => .ok (.bl (!b)) s1 | _ => .no
def mChain (g g' : D → D → S → R D) (a b c : EM) : EM := fun ρ s => (a ρ s).bind fun x s1 => (b ρ s1).bind fun y s2 => (g x y s2).bind fun z s3 => match z with
  | .bl true => (c ρ s3).bind fun w s4 => g' y w s4
  | .bl false => .ok (.bl false) s3
  | _ => .no

section
variable {K : PySem.W.Frag} {T : Tb} {F : Fm} {cm cm1 : List Addr} {H H1 : Hp} {s s1 : S} {v : V} {d : D}
theorem AB.ext {H0 H0' : Hp} (r : FRel K T F cm H s) (e : Ext cm H cm1 H1) (z : AB K T F H0 cm H s v d) : AB K T F H0' cm1 H1 s1 v d := by
  rcases z with z | ⟨a, rfl, o, q⟩
  · exact .inl (Rep.mono e.pre e.sub _ _ z)
  · refine .inr ⟨a, rfl, o, q.ext e.pre e.sub fun u h => (e.keep a u h ?_).1⟩
    obtain ⟨i, dd, h1, h2⟩ := o
    obtain ⟨b, q1, _, q3, _⟩ := r.own i dd h1
    have e : b = a := by rw [q1] at h2; cases h2; rfl
    rw [← e]
    exact q3
theorem AR.ext {H0 H0' : Hp} (e : Ext cm H cm1 H1) (z : AR K T F H0 cm H s v d) : AR K T F H0' cm1 H1 s1 v d := Rep.mono e.pre e.sub _ _ z
theorem AB.of (z : Rep K T cm (F.G cm H) v d) {H0 : Hp} : AB K T F H0 cm H s v d := .inl z
theorem AB.int {H0 : Hp} {i : Int} (z : AB K T F H0 cm H s v (.int i)) : v = .int i := by
  rcases z with z | ⟨a, rfl, o, q⟩
  · cases z; rfl
  · exact q.elim
theorem AB.bl {H0 : Hp} {b : Bool} (z : AB K T F H0 cm H s v (.bl b)) : v = .bl b := by
  rcases z with z | ⟨a, rfl, o, q⟩
  · cases z; rfl
  · exact q.elim
theorem AB.non {H0 : Hp} (z : AB K T F H0 cm H s v .non) : v = .non := by
  rcases z with z | ⟨a, rfl, o, q⟩
  · cases z; rfl
  · exact q.elim
theorem AB.str {H0 : Hp} {x : Str} (z : AB K T F H0 cm H s v (.str x)) : v = .str x := by
  rcases z with z | ⟨a, rfl, o, q⟩
  · cases z; rfl
  · exact q.elim
theorem Sub.hidH {p : Addr → Prop} {H : Hp} : Sub (hid p H) H := fun a o e => (hid_some.mp e).2
theorem AB.tup {H0 : Hp} {ds : List D} (z : AB K T F H0 cm H s v (.tup ds)) : ∃ a xs, v = .ref a ∧ SqT K H a xs ∧ SqT K (F.G cm H) a xs ∧ Reps K T cm (F.G cm H) xs ds := by
  rcases z with z | ⟨a, rfl, o, q⟩
  · cases z with
    | tup h1 h2 => exact ⟨_, _, rfl, Sub.hidH.seqT h1, h1, h2⟩
  · exact q.elim
theorem AB.lst {H0 : Hp} {ds : List D} (z : AB K T F H0 cm H s v (.lst ds)) : ∃ a xs, v = .ref a ∧ H a = some (.lst xs) ∧ Reps K T cm (F.G cm H) xs ds := by
  rcases z with z | ⟨a, rfl, o, q⟩
  · cases z with
    | lst h1 h2 => exact ⟨_, _, rfl, Sub.hidH _ _ h1, h2⟩
  · obtain ⟨xs, h1, h2⟩ := q
    exact ⟨a, xs, rfl, h1, h2⟩
theorem AB.frz {H0 : Hp} {ds : List D} (z : AB K T F H0 cm H s v (.frz ds)) : ∃ a xs, v = .ref a ∧ SqL K H a xs ∧ Reps K T cm (F.G cm H) xs ds := by
  rcases z with z | ⟨a, rfl, o, q⟩
  · cases z with
    | frz h1 h2 => exact ⟨_, _, rfl, Sub.hidH.seqL h1, h2⟩
  · exact q.elim
theorem AB.ins {H0 : Hp} {c : Nat} {ds : List D} (z : AB K T F H0 cm H s v (.ins c ds)) : ∃ a dx fs, v = .ref a ∧ H a = some (.ins (T.cls c) dx fs) ∧ (fs.map (·.1) = (T.fl c).take ds.length) ∧ Reps K T cm (F.G cm H) (fs.map (·.2)) ds := by
  rcases z with z | ⟨a, rfl, o, q⟩
  · cases z with
    | @ins a dx c fs ds h1 h2 h3 =>
      have hl := h3.len
      rw [List.length_map] at hl
      have hl2 := congrArg List.length h2
      rw [List.length_map] at hl2
      exact ⟨_, _, _, rfl, Sub.hidH _ _ h1, by rw [h2, ← hl, hl2, List.take_length], h3⟩
  · obtain ⟨dx, xs, h1, h2, h3⟩ := q
    exact ⟨a, dx, xs, rfl, h1, h2, h3⟩
/-- a list or a tuple: its items -/
def seqD : D → Option (List D)
  | .tup ds => some ds | .lst ds => some ds | .frz ds => some ds | _ => none
theorem AB.seq {H0 : Hp} {ds : List D} (h : seqD d = some ds) (z : AB K T F H0 cm H s v d) : ∃ a xs, v = .ref a ∧ (SqL K H a xs ∨ SqT K H a xs) ∧ Reps K T cm (F.G cm H) xs ds := by
  cases d with
  | tup es =>
    obtain rfl : es = ds := Option.some.inj h
    obtain ⟨a, xs, e, h1, _, h2⟩ := z.tup
    exact ⟨a, xs, e, .inr h1, h2⟩
  | lst es =>
    obtain rfl : es = ds := Option.some.inj h
    obtain ⟨a, xs, e, h1, h2⟩ := z.lst
    exact ⟨a, xs, e, .inl (.of h1), h2⟩
  | frz es =>
    obtain rfl : es = ds := Option.some.inj h
    obtain ⟨a, xs, e, h1, h2⟩ := z.frz
    exact ⟨a, xs, e, .inl h1, h2⟩
  | _ => cases h
end

/-! ### names, constants -/
section
variable {X : Cx} {T : Tb} {W : WX} {a b c e : Expr} {es : List Expr} {ma mb mc : EM} {pos : Pos}
theorem qv (i : Nat) {x : Str} {pos : Pos} (hN : X.N[i]? = some x := by rfl) (hv : Vis X.env.scope x := by first | exact Or.inl rfl | exact Or.inr (Or.inl rfl) | exact Or.inr (Or.inr rfl)) (hd : (x == ("__debug__" : Str)) = false := by decide)
    (hcd : (x == ("__classdict__" : Str)) = false := by decide) : QE X T W (.Name x pos) (mVar i) := PE.conv (pe_var hN hv hd hcd) fun σ H Q h => by
  obtain ⟨B, Z, cm, ρ, s, r, p⟩ := h
  unfold mVar at p
  cases e : ρ[i]? with
  | none => rw [e] at p; exact p.elim
  | some z =>
    rw [e] at p
    cases z with
    | v d =>
      obtain ⟨v, h1, h2⟩ := r.val i d e
      exact ⟨v, h1, p.fin (F := ⟨B, Z, σ, ρ⟩) r h2⟩
    | un => exact p.elim
    | own d => exact p.elim
theorem qvB (i : Nat) {x : Str} {pos : Pos} (hN : X.N[i]? = some x := by rfl) (hv : Vis X.env.scope x := by first | exact Or.inl rfl | exact Or.inr (Or.inl rfl) | exact Or.inr (Or.inr rfl)) (hd : (x == ("__debug__" : Str)) = false := by decide)
    (hcd : (x == ("__classdict__" : Str)) = false := by decide) : QB X T W (.Name x pos) (mVarB i) := PE.conv (pe_var hN hv hd hcd) fun σ H Q h => by
  obtain ⟨B, Z, cm, ρ, s, r, p⟩ := h
  unfold mVarB at p
  cases e : ρ[i]? with
  | none => rw [e] at p; exact p.elim
  | some z =>
    rw [e] at p
    cases z with
    | v d =>
      obtain ⟨v, h1, h2⟩ := r.val i d e
      exact ⟨v, h1, p.fin (F := ⟨B, Z, σ, ρ⟩) r (.inl h2)⟩
    | un => exact p.elim
    | own d =>
      obtain ⟨v, h1, h2, _⟩ := r.own i d e
      exact ⟨.ref v, h1, p.fin (F := ⟨B, Z, σ, ρ⟩) r (.inr ⟨v, rfl, ⟨i, d, e, h1⟩, h2⟩)⟩
theorem q_c {v : V} {d : D} (h : PE X e (tC v)) (hr : ∀ cm G, Rep X.K T cm G v d) : QE X T W e (mC d) := PE.conv h fun σ H Q h => by
  obtain ⟨B, Z, cm, ρ, s, r, p⟩ := h
  exact p.fin (F := ⟨B, Z, σ, ρ⟩) r (hr _ _)
theorem q_int {i : Int} {j} : QE X T W (.Constant (.int i) j pos) (mC (.int i)) := q_c pe_int fun _ _ => .int i
theorem q_bl {i : Bool} {j} : QE X T W (.Constant (.bool i) j pos) (mC (.bl i)) := q_c pe_bl fun _ _ => .bl i
theorem q_non {j} : QE X T W (.Constant .none j pos) (mC .non) := q_c pe_non fun _ _ => .non
theorem q_str {x : Str} {j} : QE X T W (.Constant (.str x) j pos) (mC (.str x)) := q_c pe_str fun _ _ => .str x
/-- a constant of the module: an int, a text -/
theorem q_gint {x : Str} {i : Int} {t : Tok} (hg : Gl X x) (hm : X.mg x = some (.int i t)) (hd : (x == ("__debug__" : Str)) = false := by decide) : QE X T W (.Name x pos) (mC (.int i)) := q_c (v := .int i) (pe_glob hg hm ⟨t, rfl⟩ hd) fun _ _ => .int i
theorem q_gstr {x y : Str} {t : Tok} (hg : Gl X x) (hm : X.mg x = some (.str y t)) (hd : (x == ("__debug__" : Str)) = false := by decide) : QE X T W (.Name x pos) (mC (.str y)) := q_c (v := .str y) (pe_glob hg hm ⟨t, rfl⟩ hd) fun _ _ => .str y

/-! ### two operands -/
def O2 (X : Cx) (T : Tb) (A : AK D V) (r : R2) (g : D → D → S → R D) : Prop := ∀ (F : Fm) (cm : List Addr) (H : Hp) (s : S) (W : WX) (x y : V) (dx dy : D) (Q : VK),
  FRel X.K T F cm H s → AB X.K T F H cm H s x dx → AB X.K T F H cm H s y dy → Post X.K T F cm H W A (g dx dy s) Q → r x y H Q
theorem tOp_of {A : AK D V} {r : R2} {g : D → D → S → R D} (hg : O2 X T A r g) (up : Up A) {σ : L2.St} {H : Hp} {Q : VK} (h : tP X.K T W A (mOp g ma mb) σ H Q) :
    tOp r (tP X.K T W (AB X.K T) ma) (tP X.K T W (AB X.K T) mb) σ H Q := by
  refine h.bind (AB X.K T) up fun B Z cm ρ x H1 ⟨cm1, dx, s1, e1, r1, a1, p1⟩ => ?_
  refine ⟨B, Z, cm1, ρ, s1, r1, (p1.bind (A := AB X.K T) up).mono fun y H2 ⟨cm2, dy, s2, e2, r2, a2, p2⟩ => ?_⟩
  exact hg ⟨B, Z, σ, ρ⟩ cm2 H2 s2 W x y dx dy Q r2 (a1.ext r1 e2) a2 p2
theorem q_op {A : AK D V} {op : Operator} {r : R2} {g : D → D → S → R D} (ho : OpR X (binaryOp op) r) (hg : O2 X T A r g) (up : Up A) (ha : QB X T W a ma) (hb : QB X T W b mb) : PE X (.BinOp a op b pos) (tP X.K T W A (mOp g ma mb)) :=
  PE.conv (pe_op ho ha hb) fun _ _ _ h => tOp_of hg up h
theorem q_cmp {op : CmpOp} {r : R2} {g : D → D → S → R D} (ho : OpR X (compareOp op) r) (hg : O2 X T (AR X.K T) r g) (ha : QB X T W a ma) (hb : QB X T W b mb) (hm : behindInMarks op b = false) : QE X T W (.Compare a [op] [b] pos) (mOp g ma mb) :=
  PE.conv (pe_cmpR ho ha hb hm) fun _ _ _ h => tOp_of hg up_AR h
theorem tTest_of {t : TE} (hc : ∀ σ H Q, tP X.K T W (AR X.K T) ma σ H Q → t σ H Q) {σ : L2.St} {H : Hp} {Q : Bool → Hp → Prop} (h : tP X.K T W AT (mTest ma) σ H Q) : tTest t σ H Q := by
  refine hc _ _ _ (h.bind (AR X.K T) up_AT fun B Z cm ρ x H1 ⟨cm1, dx, s1, e1, r1, a1, p1⟩ => ?_)
  cases dx with
  | bl k =>
    cases a1
    exact ⟨k, rfl, p1.fin r1 rfl⟩
  | _ => exact p1.elim
theorem qt_cmp {op : CmpOp} {r : R2} {g : D → D → S → R D} (ho : OpR X (compareOp op) r) (hg : O2 X T (AR X.K T) r g) (ha : QB X T W a ma) (hb : QB X T W b mb) (hm : behindInMarks op b = false) : QT X T W (.Compare a [op] [b] pos) (mTest (mOp g ma mb)) :=
  PT.conv (pt_cmpR ho ha hb hm) fun _ _ _ h => tTest_of (fun _ _ _ h => tOp_of hg up_AR h) h
theorem qt_val (h : QE X T W e ma) (he : ∀ whole, isTrue e X.env whole = (do let v ← whole; standAt e.pos; holding [v] (truthy v)) := by intro _; rfl) : QT X T W e (mTest ma) :=
  PT.conv (pt_val h he) fun _ _ _ h => tTest_of (fun _ _ _ h => h) h

/-! ### tests joined -/
variable {ta tb tc : TM} {rest : List Expr}
theorem qw_and1 (ha : QT X T W a ta) : QW X T W (.BoolOp .And [a] pos) ta := pw_and1 ha
theorem qw_or1 (ha : QT X T W a ta) : QW X T W (.BoolOp .Or [a] pos) ta := pw_or1 ha
theorem qw_and (ha : QT X T W a ta) (hb : QW X T W (.BoolOp .And (b :: rest) pos) tb) : QW X T W (.BoolOp .And (a :: b :: rest) pos) (mAnd ta tb) := PW.conv (pw_and ha hb) fun σ H Q h => by
  refine h.bind AT up_AT fun B Z cm ρ x H1 ⟨cm1, dx, s1, e1, r1, a1, p1⟩ => ?_
  cases a1
  cases x with
  | true =>
    rw [if_pos rfl]
    exact ⟨B, Z, cm1, ρ, s1, r1, p1⟩
  | false =>
    rw [if_neg Bool.false_ne_true]
    exact p1.fin r1 rfl
theorem qw_or (ha : QT X T W a ta) (hb : QW X T W (.BoolOp .Or (b :: rest) pos) tb) : QW X T W (.BoolOp .Or (a :: b :: rest) pos) (mOr ta tb) := PW.conv (pw_or ha hb) fun σ H Q h => by
  refine h.bind AT up_AT fun B Z cm ρ x H1 ⟨cm1, dx, s1, e1, r1, a1, p1⟩ => ?_
  cases a1
  cases x with
  | true =>
    rw [if_pos rfl]
    exact p1.fin r1 rfl
  | false =>
    rw [if_neg Bool.false_ne_true]
    exact ⟨B, Z, cm1, ρ, s1, r1, p1⟩
theorem qw_pt (h : QW X T W e ta) : QT X T W e ta := PW.pt h
theorem qt_not (ha : QT X T W a ta) : QT X T W (.UnaryOp .Not a pos) (mNot ta) := PT.conv (pt_not ha) fun σ H Q h => by
  refine h.bind AT up_AT fun B Z cm ρ x H1 ⟨cm1, dx, s1, e1, r1, a1, p1⟩ => ?_
  cases a1
  exact p1.fin r1 rfl
/-- as values -/
theorem q_one {op} (h : QE X T W a ma) : QE X T W (.BoolOp op [a] pos) ma := pe_one h
theorem q_and (ha : QE X T W a ma) (hb : QE X T W (.BoolOp .And (b :: rest) pos) mb) : QE X T W (.BoolOp .And (a :: b :: rest) pos) (mAndV ma mb) := PE.conv (pe_and ha hb) fun σ H Q h => by
  refine h.bind (AR X.K T) up_AR fun B Z cm ρ x H1 ⟨cm1, dx, s1, e1, r1, a1, p1⟩ => ?_
  cases dx with
  | bl k =>
    cases a1
    cases k with
    | true => exact ⟨true, rfl, by rw [if_pos rfl]; exact ⟨B, Z, cm1, ρ, s1, r1, p1⟩⟩
    | false => exact ⟨false, rfl, by rw [if_neg Bool.false_ne_true]; exact p1.fin r1 (.bl false)⟩
  | _ => exact p1.elim
theorem q_or (ha : QE X T W a ma) (hb : QE X T W (.BoolOp .Or (b :: rest) pos) mb) : QE X T W (.BoolOp .Or (a :: b :: rest) pos) (mOrV ma mb) := PE.conv (pe_or ha hb) fun σ H Q h => by
  refine h.bind (AR X.K T) up_AR fun B Z cm ρ x H1 ⟨cm1, dx, s1, e1, r1, a1, p1⟩ => ?_
  cases dx with
  | bl k =>
    cases a1
    cases k with
    | true => exact ⟨true, rfl, by rw [if_pos rfl]; exact p1.fin r1 (.bl true)⟩
    | false => exact ⟨false, rfl, by rw [if_neg Bool.false_ne_true]; exact ⟨B, Z, cm1, ρ, s1, r1, p1⟩⟩
  | _ => exact p1.elim
theorem q_not (ha : QE X T W a ma) : QE X T W (.UnaryOp .Not a pos) (mNotV ma) := PE.conv (pe_not ha) fun σ H Q h => by
  refine h.bind (AR X.K T) up_AR fun B Z cm ρ x H1 ⟨cm1, dx, s1, e1, r1, a1, p1⟩ => ?_
  cases dx with
  | bl k =>
    cases a1
    exact ⟨k, rfl, p1.fin r1 (.bl _)⟩
  | _ => exact p1.elim
theorem q_ifExp {A : AK D V} (hc : QT X T W c tc) (up : Up A) (ha : PE X a (tP X.K T W A ma)) (hb : PE X b (tP X.K T W A mb)) : PE X (.IfExp c a b pos) (tP X.K T W A (mIf tc ma mb)) := PE.conv (pe_ifExp hc ha hb) fun σ H Q h => by
  refine h.bind AT up fun B Z cm ρ x H1 ⟨cm1, dx, s1, e1, r1, a1, p1⟩ => ?_
  cases a1
  cases x with
  | true =>
    rw [if_pos rfl]
    exact ⟨B, Z, cm1, ρ, s1, r1, p1⟩
  | false =>
    rw [if_neg Bool.false_ne_true]
    exact ⟨B, Z, cm1, ρ, s1, r1, p1⟩
theorem q_if (hc : QT X T W c tc) (ha : QE X T W a ma) (hb : QE X T W b mb) : QE X T W (.IfExp c a b pos) (mIf tc ma mb) := q_ifExp hc up_AR ha hb
theorem q_ifF (hc : QT X T W c tc) (ha : QF X T W a ma) (hb : QF X T W b mb) : QF X T W (.IfExp c a b pos) (mIf tc ma mb) := q_ifExp hc up_AF ha hb
theorem tChain_of {r r' : R2} {g g' : D → D → S → R D} (hg : O2 X T (AR X.K T) r g) (hg' : O2 X T (AR X.K T) r' g') {σ : L2.St} {H : Hp} {Q : VK} (h : tP X.K T W (AR X.K T) (mChain g g' ma mb mc) σ H Q) :
    tChain r r' (tP X.K T W (AB X.K T) ma) (tP X.K T W (AB X.K T) mb) (tP X.K T W (AB X.K T) mc) σ H Q := by
  refine h.bind (AB X.K T) up_AR fun B Z cm ρ x H1 ⟨cm1, dx, s1, e1, r1, a1, p1⟩ => ?_
  refine ⟨B, Z, cm1, ρ, s1, r1, (p1.bind (A := AB X.K T) up_AR).mono fun y H2 ⟨cm2, dy, s2, e2, r2, a2, p2⟩ => ?_⟩
  refine hg ⟨B, Z, σ, ρ⟩ cm2 H2 s2 W x y dx dy _ r2 (a1.ext r1 e2) a2 ((p2.bind (A := AR X.K T) up_AR).mono fun z H3 ⟨cm3, dz, s3, e3, r3, a3, p3⟩ => ?_)
  cases dz with
  | bl k =>
    cases a3
    refine ⟨k, rfl, ?_⟩
    cases k with
    | true =>
      rw [if_pos rfl]
      refine ⟨B, Z, cm3, ρ, s3, r3, (p3.bind (A := AB X.K T) up_AR).mono fun w H4 ⟨cm4, dw, s4, e4, r4, a4, p4⟩ => ?_⟩
      exact hg' ⟨B, Z, σ, ρ⟩ cm4 H4 s4 W y w dy dw Q r4 (a2.ext r2 (e3.trans e4)) a4 p4
    | false =>
      rw [if_neg Bool.false_ne_true]
      exact p3.fin r3 (.bl false)
  | _ => exact p3.elim
end
end Tv

/-! Tv4: operators, comparisons, subscripts -/
namespace Tv
open PySem PySem.Spec PyProof.Rows L2

/-! ### what they reckon -/
def gAdd : D → D → S → R D := fun x y s => match x, y with
  | .int i, .int j => .ok (.int (i + j)) s
  | .str a, .str b => if a.length + b.length ≤ sizeLine then .ok (.str (a ++ b)) s else .no
  | .tup a, .tup b => if a.length + b.length ≤ sizeLine then .ok (.tup (a ++ b)) s else .no
  | _, _ => .no
def gCat : D → D → S → R D := fun x y s => match x, y with
  | .lst a, .lst b => if a.length + b.length ≤ sizeLine then .ok (.lst (a ++ b)) s else .no
  | _, _ => .no
def gRep : D → D → S → R D := fun x y s => match x, y with
  | .lst a, .int k => if k < 2 ^ 63 ∧ -(2 ^ 63) ≤ k ∧ a.length * k.toNat ≤ sizeLine then .ok (.lst (List.replicate k.toNat a).flatten) s else .no
  | _, _ => .no
def gSub : D → D → S → R D := fun x y s => match x, y with
  | .int i, .int j => .ok (.int (i - j)) s
  | _, _ => .no
def gMul : D → D → S → R D := fun x y s => match x, y with
  | .int i, .int j => if i.natAbs.log2 + j.natAbs.log2 < 1000000 then .ok (.int (i * j)) s else .no
  | .tup a, .int k => if a ≠ [] ∧ 2 ≤ k ∧ k ≤ 1000 ∧ a.length ≤ 1000 then .ok (.tup (List.replicate k.toNat a).flatten) s else .no
  | _, _ => .no
def gDiv : D → D → S → R D := fun x y s => match x, y with
  | .int i, .int j => if 0 < j ∧ j.natAbs.log2 < 9000 then .ok (.int (i / j)) s else .no
  | _, _ => .no
def gMod : D → D → S → R D := fun x y s => match x, y with
  | .int i, .int j => if 0 < j then .ok (.int (i % j)) s else .no
  | _, _ => .no
def gPow : D → D → S → R D := fun x y s => match x, y with
  | .int i, .int j => if 0 ≤ j ∧ j ≤ 1000000 ∧ i.natAbs < 2 ^ 64 then .ok (.int (i ^ j.toNat)) s else .no
  | _, _ => .no
def gLt : D → D → S → R D := fun x y s => match x, y with
  | .int i, .int j => .ok (.bl (decide (i < j))) s
  | .str i, .str j => .ok (.bl (decide (i.cps.toList < j.cps.toList))) s
  | _, _ => .no
def gLe : D → D → S → R D := fun x y s => match x, y with
  | .int i, .int j => .ok (.bl (decide (i ≤ j))) s
  | _, _ => .no
def gGt : D → D → S → R D := fun x y s => match x, y with
  | .int i, .int j => .ok (.bl (decide (j < i))) s
  | _, _ => .no
def gGe : D → D → S → R D := fun x y s => match x, y with
  | .int i, .int j => .ok (.bl (decide (j ≤ i))) s
  | _, _ => .no
def gNeg : D → S → R D := fun x s => match x with
  | .int i => .ok (.int (-i)) s
  | _ => .no
mutual
def D.py : D → Option PyData
  | .non => some .none
  | .bl b => some (.bool b)
  | .int i => some (.int i)
  | .str x => some (.str x)
  | .tup ds => (D.pys ds).map .tuple
  | .lst ds => (D.pys ds).map .list
  | _ => none
def D.pys : List D → Option (List PyData)
  | [] => some []
  | d :: ds => match d.py, D.pys ds with
    | some a, some b => some (a :: b)
    | _, _ => none
end
def eqD (x y : D) : Option Bool := match x.py, y.py with
  | some a, some b => if SeqAt.shaped a = true ∧ SeqAt.shaped b = true then some (PyData.eqv a b) else none
  | _, _ => none
def gEq : D → D → S → R D := fun x y s => match eqD x y with
  | some b => .ok (.bl b) s
  | none => .no
def gNe : D → D → S → R D := fun x y s => match eqD x y with
  | some b => .ok (.bl (!b)) s
  | none => .no
def isNon : D → Bool
  | .non => true | _ => false
def gIs : D → D → S → R D := fun x y s => match y with
  | .non => .ok (.bl (isNon x)) s
  | _ => .no
def gIsNot : D → D → S → R D := fun x y s => match y with
  | .non => .ok (.bl (!isNon x)) s
  | _ => .no
def gIx : D → D → S → R D := fun x y s => match x, y with
  | .tup a, .int i => match atI a i with | some d => .ok d s | none => .no
  | .lst a, .int i => match atI a i with | some d => .ok d s | none => .no
  | .frz a, .int i => match atI a i with | some d => .ok d s | none => .no
  | .str z, .int i => if z.length ≤ sizeLine then match atI z.cps.toList i with | some c => .ok (.str ⟨#[c]⟩) s | none => .no else .no
  | .cell n, .int i => match s[n]? with
    | some (.lst a) => match atI a i with | some d => .ok d s | none => .no
    | _ => .no
  | _, _ => .no

section
variable {X : Cx} {T : Tb}
theorem post_no {K : PySem.W.Frag} {T : Tb} {α β : Type} {F : Fm} {cm : List Addr} {H : Hp} {W : WX} {A : AK α β} {Q : β → Hp → Prop} {P : Prop} (h : Post K T F cm H W A .no Q) : P := h.elim
def rAddAll (K : PySem.W.Frag) : R2 := fun x y H Q => rI0 (fun i j => .int (i + j)) x y H Q ∨ ((∃ i j, x = .str i ∧ y = .str j ∧ i.length + j.length ≤ sizeLine ∧ Q (.str (i ++ j)) H) ∨ rCatA K x y H Q)
theorem op_addAll : OpR X (binaryOp .Add) (rAddAll X.K) := op_add.or (op_add_str.or op_catA)
theorem o2_add : O2 X T (AR X.K T) (rAddAll X.K) gAdd := by
  intro F cm H s W x y dx dy Q r a b p
  unfold gAdd at p
  split at p
  · cases a.int
    cases b.int
    exact .inl ⟨_, _, rfl, rfl, p.fin r (.int _)⟩
  · split at p
    · cases a.str
      cases b.str
      exact .inr (.inl ⟨_, _, rfl, rfl, by assumption, p.fin r (.str _)⟩)
    · exact p.elim
  · split at p
    · rename_i ds es hl
      obtain ⟨p1, xs, rfl, h1, h2, h3⟩ := a.tup
      obtain ⟨p2, ys, rfl, k1, k2, k3⟩ := b.tup
      have l1 := h3.len
      have l2 := k3.len
      refine .inr (.inr ⟨p1, p2, xs, ys, rfl, rfl, h1, k1, by omega, fun e => ?_, fun _ e => ?_, fun _ _ q hq => ?_⟩)
      · subst e
        cases h3
        exact p.fin r (.tup k2 k3)
      · subst e
        cases k3
        exact p.fin r (.tup h2 (by rw [List.append_nil]; exact h3))
      · exact p.fin_new r (sub_upd hq) (rep_tup r hq (h3.app k3))
    · exact p.elim
  · exact p.elim
theorem o2_cat : O2 X T (AF X.K T) rCat gCat := by
  intro F cm H s W x y dx dy Q r a b p
  unfold gCat at p
  split at p
  · split at p
    · obtain ⟨p1, xs, rfl, h1, h3⟩ := a.lst
      obtain ⟨p2, ys, rfl, k1, k3⟩ := b.lst
      have l1 := h3.len
      have l2 := k3.len
      exact ⟨p1, p2, xs, ys, rfl, rfl, h1, k1, by omega, fun q hq => p.fin_new r (sub_upd hq) (rep_lst r hq (h3.app k3))⟩
    · exact p.elim
  · exact p.elim
theorem Reps.rep {K : PySem.W.Frag} {T : Tb} {cm : List Addr} {G : Hp} {xs : List V} {ds : List D} (h : Reps K T cm G xs ds) : ∀ n : Nat, Reps K T cm G (List.replicate n xs).flatten (List.replicate n ds).flatten
  | 0 => .nil
  | n + 1 => by
    rw [List.replicate_succ, List.replicate_succ, List.flatten_cons, List.flatten_cons]
    exact h.app (Reps.rep h n)
theorem o2_rep : O2 X T (AF X.K T) rRep gRep := by
  intro F cm H s W x y dx dy Q r a b p
  unfold gRep at p
  split at p
  · split at p
    · rename_i hk
      obtain ⟨p1, xs, rfl, h1, h3⟩ := a.lst
      cases b.int
      have l1 := h3.len
      exact ⟨p1, _, xs, rfl, rfl, h1, hk.2.1, hk.1, by rw [l1]; exact hk.2.2, fun q hq => p.fin_new r (sub_upd hq) (rep_lst r hq (h3.rep _))⟩
    · exact p.elim
  · exact p.elim
theorem o2_sub : O2 X T (AR X.K T) (rI0 fun i j => .int (i - j)) gSub := by
  intro F cm H s W x y dx dy Q r a b p
  unfold gSub at p
  split at p
  · cases a.int
    cases b.int
    exact ⟨_, _, rfl, rfl, p.fin r (.int _)⟩
  · exact p.elim
def rMulAll (K : PySem.W.Frag) : R2 := fun x y H Q => rI CMulW (fun i j => .int (i * j)) x y H Q ∨ rRepT K x y H Q
theorem op_mulAll : OpR X (binaryOp .Mult) (rMulAll X.K) := op_mulW.or op_repT
theorem o2_mul : O2 X T (AR X.K T) (rMulAll X.K) gMul := by
  intro F cm H s W x y dx dy Q r a b p
  unfold gMul at p
  split at p
  · split at p
    · rename_i hk
      cases a.int
      cases b.int
      exact .inl ⟨_, _, rfl, rfl, hk, p.fin r (.int _)⟩
    · exact p.elim
  · split at p
    · rename_i hk
      obtain ⟨p1, xs, rfl, h1, _, h3⟩ := a.tup
      cases b.int
      have l1 := h3.len
      refine .inr ⟨p1, _, xs, rfl, rfl, h1, fun e => ?_, hk.2.1, hk.2.2.1, by omega, fun q hq => p.fin_new r (sub_upd hq) (rep_tup r hq (h3.rep _))⟩
      subst e
      cases h3
      exact hk.1 rfl
    · exact p.elim
  · exact p.elim
theorem o2_div : O2 X T (AR X.K T) (rI CDivW fun i j => .int (i / j)) gDiv := by
  intro F cm H s W x y dx dy Q r a b p
  unfold gDiv at p
  split at p
  · split at p
    · rename_i hk
      cases a.int
      cases b.int
      exact ⟨_, _, rfl, rfl, hk, p.fin r (.int _)⟩
    · exact p.elim
  · exact p.elim
theorem o2_mod : O2 X T (AR X.K T) (rI (fun _ j => 0 < j) fun i j => .int (i % j)) gMod := by
  intro F cm H s W x y dx dy Q r a b p
  unfold gMod at p
  split at p
  · split at p
    · rename_i hk
      cases a.int
      cases b.int
      exact ⟨_, _, rfl, rfl, hk, p.fin r (.int _)⟩
    · exact p.elim
  · exact p.elim
theorem o2_pow : O2 X T (AR X.K T) (rI CPow fun i j => .int (i ^ j.toNat)) gPow := by
  intro F cm H s W x y dx dy Q r a b p
  unfold gPow at p
  split at p
  · split at p
    · rename_i hk
      cases a.int
      cases b.int
      exact ⟨_, _, rfl, rfl, hk, p.fin r (.int _)⟩
    · exact p.elim
  · exact p.elim
def rLtAll : R2 := fun x y H Q => rI0 (fun i j => .bl (decide (i < j))) x y H Q ∨ ∃ i j, x = .str i ∧ y = .str j ∧ Q (.bl (decide (i.cps.toList < j.cps.toList))) H
theorem op_ltAll : OpR X (compareOp .Lt) rLtAll := op_lt.or op_lt_str
theorem o2_lt : O2 X T (AR X.K T) rLtAll gLt := by
  intro F cm H s W x y dx dy Q r a b p
  unfold gLt at p
  split at p
  · cases a.int
    cases b.int
    exact .inl ⟨_, _, rfl, rfl, p.fin r (.bl _)⟩
  · cases a.str
    cases b.str
    exact .inr ⟨_, _, rfl, rfl, p.fin r (.bl _)⟩
  · exact p.elim
theorem o2_le : O2 X T (AR X.K T) (rI0 fun i j => .bl (decide (i ≤ j))) gLe := by
  intro F cm H s W x y dx dy Q r a b p
  unfold gLe at p
  split at p
  · cases a.int
    cases b.int
    exact ⟨_, _, rfl, rfl, p.fin r (.bl _)⟩
  · exact p.elim
theorem o2_gt : O2 X T (AR X.K T) (rI0 fun i j => .bl (decide (j < i))) gGt := by
  intro F cm H s W x y dx dy Q r a b p
  unfold gGt at p
  split at p
  · cases a.int
    cases b.int
    exact ⟨_, _, rfl, rfl, p.fin r (.bl _)⟩
  · exact p.elim
theorem o2_ge : O2 X T (AR X.K T) (rI0 fun i j => .bl (decide (j ≤ i))) gGe := by
  intro F cm H s W x y dx dy Q r a b p
  unfold gGe at p
  split at p
  · cases a.int
    cases b.int
    exact ⟨_, _, rfl, rfl, p.fin r (.bl _)⟩
  · exact p.elim
mutual
theorem dp_of {K : PySem.W.Frag} {cm : List Addr} {G H : Hp} (hs : Sub G H) : ∀ (d : D) (v : V) (p : PyData), Rep K T cm G v d → d.py = some p → Dp K H v p
  | .non, _, _, h, e => by cases h; cases e; exact .non
  | .bl b, _, _, h, e => by cases h; cases e; exact .bl b
  | .int b, _, _, h, e => by cases h; cases e; exact .int b
  | .str b, _, _, h, e => by cases h; cases e; exact .str b
  | .tup ds, _, _, h, e => by
    cases h with
    | tup h1 h2 =>
      unfold D.py at e
      cases q : D.pys ds with
      | none => rw [q] at e; cases e
      | some l =>
        rw [q] at e
        cases e
        exact .tup (hs.seqT h1) (dps_of hs ds _ _ h2 q)
  | .lst ds, _, _, h, e => by
    cases h with
    | lst h1 h2 =>
      unfold D.py at e
      cases q : D.pys ds with
      | none => rw [q] at e; cases e
      | some l =>
        rw [q] at e
        cases e
        exact .lst (.of (hs _ _ h1)) (dps_of hs ds _ _ h2 q)
  | .frz _, _, _, _, e => by cases e
  | .ins _ _, _, _, _, e => by cases e
  | .cell _, _, _, _, e => by cases e
  | .fn _, _, _, _, e => by cases e
  | .dic _ _, _, _, _, e => by cases e
  | .exc _ _, _, _, _, e => by cases e
theorem dps_of {K : PySem.W.Frag} {cm : List Addr} {G H : Hp} (hs : Sub G H) : ∀ (ds : List D) (vs : List V) (ps : List PyData), Reps K T cm G vs ds → D.pys ds = some ps → DpAll K H vs ps
  | [], _, _, h, e => by cases h; cases e; exact .nil
  | d :: ds, _, _, h, e => by
    cases h with
    | cons h1 h2 =>
      unfold D.pys at e
      cases q1 : d.py with
      | none => rw [q1] at e; cases e
      | some a =>
        cases q2 : D.pys ds with
        | none => rw [q1, q2] at e; cases e
        | some b =>
          rw [q1, q2] at e
          cases e
          exact .cons (dp_of hs d _ _ h1 q1) (dps_of hs ds _ _ h2 q2)
end
theorem AB.dp {K : PySem.W.Frag} {F : Fm} {H0 H : Hp} {cm : List Addr} {s : S} {v : V} {d : D} {p : PyData} (z : AB K T F H0 cm H s v d) (e : d.py = some p) : Dp K H v p := by
  rcases z with z | ⟨a, rfl, o, q⟩
  · exact dp_of Sub.hidH _ _ _ z e
  · cases d with
    | lst ds =>
      obtain ⟨xs, h1, h2⟩ := q
      unfold D.py at e
      cases q : D.pys ds with
      | none => rw [q] at e; cases e
      | some l =>
        rw [q] at e
        cases e
        exact .lst (.of h1) (dps_of Sub.hidH ds _ _ h2 q)
    | ins _ _ => cases e
    | sf _ _ => cases e
    | tab _ => cases e
    | _ => exact q.elim
theorem eqD_some {x y : D} {b : Bool} (h : eqD x y = some b) : ∃ p q, x.py = some p ∧ y.py = some q ∧ SeqAt.shaped p = true ∧ SeqAt.shaped q = true ∧ b = PyData.eqv p q := by
  unfold eqD at h
  split at h
  · rename_i e1 e2
    split at h
    · rename_i hs
      exact ⟨_, _, e1, e2, hs.1, hs.2, (Option.some.inj h).symm⟩
    · cases h
  · cases h
theorem o2_eq : O2 X T (AR X.K T) (rEqD X.K) gEq := by
  intro F cm H s W x y dx dy Q r a b p
  unfold gEq at p
  split at p
  · rename_i h
    obtain ⟨u, v, e1, e2, s1, s2, rfl⟩ := eqD_some h
    exact ⟨u, v, a.dp e1, b.dp e2, s1, s2, p.fin r (.bl _)⟩
  · exact p.elim
theorem o2_ne : O2 X T (AR X.K T) (rNeD X.K) gNe := by
  intro F cm H s W x y dx dy Q r a b p
  unfold gNe at p
  split at p
  · rename_i h
    obtain ⟨u, v, e1, e2, s1, s2, rfl⟩ := eqD_some h
    exact ⟨u, v, a.dp e1, b.dp e2, s1, s2, p.fin r (.bl _)⟩
  · exact p.elim
theorem AB.isNon {K : PySem.W.Frag} {F : Fm} {H0 H : Hp} {cm : List Addr} {s : S} {v : V} {d : D} (z : AB K T F H0 cm H s v d) : decide (v = .non) = isNon d := by
  rcases z with z | ⟨a, rfl, o, q⟩
  · cases z <;> first | rfl | exact decide_eq_false (fun z => nomatch z)
  · cases d with
    | lst ds => exact decide_eq_false (fun z => nomatch z)
    | ins c ds => exact decide_eq_false (fun z => nomatch z)
    | sf c ds => exact decide_eq_false (fun z => nomatch z)
    | tab n => exact decide_eq_false (fun z => nomatch z)
    | _ => exact q.elim
theorem o2_is : O2 X T (AR X.K T) (fun x y H Q => y = .non ∧ Q (.bl (decide (x = .non))) H) gIs := by
  intro F cm H s W x y dx dy Q r a b p
  unfold gIs at p
  split at p
  · refine ⟨b.non, ?_⟩
    rw [a.isNon]
    exact p.fin r (.bl _)
  · exact p.elim
theorem o2_isNot : O2 X T (AR X.K T) (fun x y H Q => y = .non ∧ Q (.bl (!decide (x = .non))) H) gIsNot := by
  intro F cm H s W x y dx dy Q r a b p
  unfold gIsNot at p
  split at p
  · refine ⟨b.non, ?_⟩
    rw [a.isNon]
    exact p.fin r (.bl _)
  · exact p.elim
/-! ### subscripts -/
theorem atI_len {α β : Type} {xs : List α} {ds : List β} (h : xs.length = ds.length) {i : Int} {d : β} (e : atI ds i = some d) : ∃ j : Nat, ds[j]? = some d ∧ atI xs i = xs[j]? := by
  unfold atI at e ⊢
  rw [h]
  cases q : ixN ds.length i with
  | none => rw [q] at e; cases e
  | some j =>
    rw [q] at e
    exact ⟨j, e, rfl⟩
theorem Reps.atI {K : PySem.W.Frag} {cm : List Addr} {G : Hp} {xs : List V} {ds : List D} (h : Reps K T cm G xs ds) {i : Int} {d : D} (e : L2.atI ds i = some d) : ∃ v, L2.atI xs i = some v ∧ Rep K T cm G v d := by
  obtain ⟨j, e1, e2⟩ := atI_len h.len e
  obtain ⟨v, h1, h2⟩ := h.get e1
  exact ⟨v, e2.trans h1, h2⟩
theorem o2_ix : O2 X T (AR X.K T) (rIx X.K) gIx := by
  intro F cm H s W x y dx dy Q r a b p
  unfold gIx at p
  split at p
  · split at p
    · rename_i e
      obtain ⟨p1, xs, rfl, h1, _, h3⟩ := a.tup
      cases b.int
      obtain ⟨v, e1, e2⟩ := h3.atI e
      exact .inr (.inl ⟨p1, xs, _, v, rfl, rfl, h1, e1, p.fin r e2⟩)
    · exact p.elim
  · split at p
    · rename_i e
      obtain ⟨p1, xs, rfl, h1, h3⟩ := a.lst
      cases b.int
      obtain ⟨v, e1, e2⟩ := h3.atI e
      exact .inl ⟨p1, xs, _, v, rfl, rfl, .of h1, e1, p.fin r e2⟩
    · exact p.elim
  · split at p
    · rename_i e
      obtain ⟨p1, xs, rfl, h1, h3⟩ := a.frz
      cases b.int
      obtain ⟨v, e1, e2⟩ := h3.atI e
      exact .inl ⟨p1, xs, _, v, rfl, rfl, h1, e1, p.fin r e2⟩
    · exact p.elim
  · split at p
    · rename_i hl
      split at p
      · rename_i e
        cases a.str
        cases b.int
        exact .inr (.inr ⟨_, _, _, rfl, rfl, hl, e, p.fin r (.str _)⟩)
      · exact p.elim
    · exact p.elim
  · split at p
    · rename_i n i o es e0
      split at p
      · rename_i e
        cases b.int
        have hc : ∃ c, x = .ref c ∧ cm[n]? = some c := by
          rcases a with z | ⟨c, rfl, o, q⟩
          · cases z with
            | cell h => exact ⟨_, rfl, h⟩
          · exact q.elim
        obtain ⟨c, rfl, hc⟩ := hc
        obtain ⟨xs, h1, h3⟩ := r.cells.at_ n c _ hc e0
        obtain ⟨v, e1, e2⟩ := h3.atI e
        exact .inl ⟨c, xs, _, v, rfl, rfl, .of h1, e1, p.fin r e2⟩
      · exact p.elim
    · exact p.elim
  · exact p.elim

/-! ### in short -/
variable {W : WX} {a b c e : Expr} {ma mb mc : EM} {pos : Pos}
theorem q_add (ha : QB X T W a ma) (hb : QB X T W b mb) : QE X T W (.BinOp a .Add b pos) (mOp gAdd ma mb) := q_op op_addAll o2_add up_AR ha hb
theorem q_cat (ha : QB X T W a ma) (hb : QB X T W b mb) : QF X T W (.BinOp a .Add b pos) (mOp gCat ma mb) := q_op op_cat o2_cat up_AF ha hb
theorem q_rep (ha : QB X T W a ma) (hb : QB X T W b mb) : QF X T W (.BinOp a .Mult b pos) (mOp gRep ma mb) := q_op op_rep o2_rep up_AF ha hb
theorem q_sub (ha : QB X T W a ma) (hb : QB X T W b mb) : QE X T W (.BinOp a .Sub b pos) (mOp gSub ma mb) := q_op op_sub o2_sub up_AR ha hb
theorem q_mul (ha : QB X T W a ma) (hb : QB X T W b mb) : QE X T W (.BinOp a .Mult b pos) (mOp gMul ma mb) := q_op op_mulAll o2_mul up_AR ha hb
theorem q_div (ha : QB X T W a ma) (hb : QB X T W b mb) : QE X T W (.BinOp a .FloorDiv b pos) (mOp gDiv ma mb) := q_op op_fdivW o2_div up_AR ha hb
theorem q_mod (ha : QB X T W a ma) (hb : QB X T W b mb) : QE X T W (.BinOp a .Mod b pos) (mOp gMod ma mb) := q_op op_mod o2_mod up_AR ha hb
theorem q_pow (ha : QB X T W a ma) (hb : QB X T W b mb) : QE X T W (.BinOp a .Pow b pos) (mOp gPow ma mb) := q_op op_pow o2_pow up_AR ha hb
theorem q_lt (ha : QB X T W a ma) (hb : QB X T W b mb) : QE X T W (.Compare a [.Lt] [b] pos) (mOp gLt ma mb) := q_cmp op_ltAll o2_lt ha hb (nomark _)
theorem q_le (ha : QB X T W a ma) (hb : QB X T W b mb) : QE X T W (.Compare a [.LtE] [b] pos) (mOp gLe ma mb) := q_cmp op_le o2_le ha hb (nomark _)
theorem q_gt (ha : QB X T W a ma) (hb : QB X T W b mb) : QE X T W (.Compare a [.Gt] [b] pos) (mOp gGt ma mb) := q_cmp op_gt o2_gt ha hb (nomark _)
theorem q_ge (ha : QB X T W a ma) (hb : QB X T W b mb) : QE X T W (.Compare a [.GtE] [b] pos) (mOp gGe ma mb) := q_cmp op_ge o2_ge ha hb (nomark _)
theorem q_eq (hu : X.A.units + 64 < cLine) (ha : QB X T W a ma) (hb : QB X T W b mb) : QE X T W (.Compare a [.Eq] [b] pos) (mOp gEq ma mb) := q_cmp (op_eqD hu) o2_eq ha hb (nomark _)
theorem q_ne (hu : X.A.units + 64 < cLine) (ha : QB X T W a ma) (hb : QB X T W b mb) : QE X T W (.Compare a [.NotEq] [b] pos) (mOp gNe ma mb) := q_cmp (op_neD hu) o2_ne ha hb (nomark _)
theorem q_is (ha : QB X T W a ma) (hb : QB X T W b mb) : QE X T W (.Compare a [.Is] [b] pos) (mOp gIs ma mb) := q_cmp op_isN o2_is ha hb (nomark _)
theorem q_isNot (ha : QB X T W a ma) (hb : QB X T W b mb) : QE X T W (.Compare a [.IsNot] [b] pos) (mOp gIsNot ma mb) := q_cmp op_notN o2_isNot ha hb (nomark _)
theorem qt_lt (ha : QB X T W a ma) (hb : QB X T W b mb) : QT X T W (.Compare a [.Lt] [b] pos) (mTest (mOp gLt ma mb)) := qt_cmp op_ltAll o2_lt ha hb (nomark _)
theorem qt_le (ha : QB X T W a ma) (hb : QB X T W b mb) : QT X T W (.Compare a [.LtE] [b] pos) (mTest (mOp gLe ma mb)) := qt_cmp op_le o2_le ha hb (nomark _)
theorem qt_gt (ha : QB X T W a ma) (hb : QB X T W b mb) : QT X T W (.Compare a [.Gt] [b] pos) (mTest (mOp gGt ma mb)) := qt_cmp op_gt o2_gt ha hb (nomark _)
theorem qt_ge (ha : QB X T W a ma) (hb : QB X T W b mb) : QT X T W (.Compare a [.GtE] [b] pos) (mTest (mOp gGe ma mb)) := qt_cmp op_ge o2_ge ha hb (nomark _)
theorem qt_eq (hu : X.A.units + 64 < cLine) (ha : QB X T W a ma) (hb : QB X T W b mb) : QT X T W (.Compare a [.Eq] [b] pos) (mTest (mOp gEq ma mb)) := qt_cmp (op_eqD hu) o2_eq ha hb (nomark _)
theorem qt_ne (hu : X.A.units + 64 < cLine) (ha : QB X T W a ma) (hb : QB X T W b mb) : QT X T W (.Compare a [.NotEq] [b] pos) (mTest (mOp gNe ma mb)) := qt_cmp (op_neD hu) o2_ne ha hb (nomark _)
theorem qt_is (ha : QB X T W a ma) (hb : QB X T W b mb) : QT X T W (.Compare a [.Is] [b] pos) (mTest (mOp gIs ma mb)) := qt_cmp op_isN o2_is ha hb (nomark _)
theorem qt_isNot (ha : QB X T W a ma) (hb : QB X T W b mb) : QT X T W (.Compare a [.IsNot] [b] pos) (mTest (mOp gIsNot ma mb)) := qt_cmp op_notN o2_isNot ha hb (nomark _)
theorem q_chain {op op' : CmpOp} {r r' : R2} {g g' : D → D → S → R D} (ho : OpR X (compareOp op) r) (hg : O2 X T (AR X.K T) r g) (ho' : OpR X (compareOp op') r') (hg' : O2 X T (AR X.K T) r' g') (ha : QB X T W a ma) (hb : QB X T W b mb) (hc : QB X T W c mc)
    (hm : lastMarks [op, op'] [b, c] = false := by with_unfolding_all rfl) : QE X T W (.Compare a [op, op'] [b, c] pos) (mChain g g' ma mb mc) := PE.conv (pe_chain ho ho' ha hb hc hm) fun _ _ _ h => tChain_of hg hg' h
theorem qt_chain {op op' : CmpOp} {r r' : R2} {g g' : D → D → S → R D} (ho : OpR X (compareOp op) r) (hg : O2 X T (AR X.K T) r g) (ho' : OpR X (compareOp op') r') (hg' : O2 X T (AR X.K T) r' g') (ha : QB X T W a ma) (hb : QB X T W b mb) (hc : QB X T W c mc)
    (hm : lastMarks [op, op'] [b, c] = false := by with_unfolding_all rfl) : QT X T W (.Compare a [op, op'] [b, c] pos) (mTest (mChain g g' ma mb mc)) := PT.conv (pt_chain ho ho' ha hb hc hm) fun _ _ _ h => tTest_of (fun _ _ _ h => tChain_of hg hg' h) h
theorem q_ix (ha : QB X T W a ma) (hb : QB X T W b mb) (hs : PlainIx b := by exact fun _ _ => rfl) : QE X T W (.Subscript a b pos) (mOp gIx ma mb) := PE.conv (pe_ix ix_seq ha hb hs) fun _ _ _ h => tOp_of o2_ix up_AR h
theorem q_neg (ha : QB X T W a ma) : QE X T W (.UnaryOp .USub a pos) (mUn gNeg ma) := PE.conv (pe_un un_neg ha) fun σ H Q h => by
  refine h.bind (AB X.K T) up_AR fun B Z cm ρ x H1 ⟨cm1, dx, s1, e1, r1, a1, p1⟩ => ?_
  unfold gNeg at p1
  dsimp only at p1
  split at p1
  · cases a1.int
    exact ⟨_, rfl, p1.fin r1 (.int _)⟩
  · exact p1.elim
end
end Tv

/-! Tv5: argument lists, displays, built-ins, fields, slices -/
namespace Tv
open PySem PySem.Spec PyProof.Rows L2

inductive ABs (K : PySem.W.Frag) (T : Tb) (F : Fm) (H0 : Hp) (cm : List Addr) (H : Hp) (s : S) : List V → List D → Prop
  | nil : ABs K T F H0 cm H s [] []
  | cons {v : V} {d : D} {vs : List V} {ds : List D} : AB K T F H0 cm H s v d → ABs K T F H0 cm H s vs ds → ABs K T F H0 cm H s (v :: vs) (d :: ds)
def ALn (K : PySem.W.Frag) (T : Tb) (n : Nat) : AK (List D) (List V) := fun F _ cm H _ vs ds => Reps K T cm (F.G cm H) vs ds ∧ vs.length = n
def ALB (K : PySem.W.Frag) (T : Tb) (n : Nat) : AK (List D) (List V) := fun F H0 cm H s vs ds => ABs K T F H0 cm H s vs ds ∧ vs.length = n
abbrev LM := List SD → S → R (List D)
abbrev QS (X : Cx) (T : Tb) (W : WX) (n : Nat) (es : List Expr) (m : LM) : Prop := PA X es (tP X.K T W (ALn X.K T n) m)
abbrev QSB (X : Cx) (T : Tb) (W : WX) (n : Nat) (es : List Expr) (m : LM) : Prop := PA X es (tP X.K T W (ALB X.K T n) m)
theorem up_ALn {K : PySem.W.Frag} {T : Tb} {n : Nat} : Up (ALn K T n) := fun _ _ _ _ _ _ _ _ _ h => h
theorem ABs.ext {K : PySem.W.Frag} {T : Tb} {F : Fm} {cm cm1 : List Addr} {H H1 : Hp} {s s1 : S} {H0 H0' : Hp} (r : FRel K T F cm H s) (e : Ext cm H cm1 H1) : ∀ {vs : List V} {ds : List D}, ABs K T F H0 cm H s vs ds → ABs K T F H0' cm1 H1 s1 vs ds
  | _, _, .nil => .nil
  | _, _, .cons a t => .cons (a.ext r e) (ABs.ext r e t)
theorem ABs.h0 {K : PySem.W.Frag} {T : Tb} {F : Fm} {cm : List Addr} {H : Hp} {s s1 : S} {H0 H0' : Hp} : ∀ {vs : List V} {ds : List D}, ABs K T F H0 cm H s vs ds → ABs K T F H0' cm H s1 vs ds
  | _, _, .nil => .nil
  | _, _, .cons a t => .cons a (ABs.h0 t)
theorem up_ALB {K : PySem.W.Frag} {T : Tb} {n : Nat} : Up (ALB K T n) := fun F H H1 cm2 H2 s b a _ h => ⟨ABs.h0 (H0 := H1) (s := s) h.1, h.2⟩
section
variable {X : Cx} {T : Tb} {W : WX} {n : Nat} {e : Expr} {es : List Expr} {m : EM} {lm : LM} {pos : Pos}
theorem qs_nil : QS X T W 0 [] mNil := PA.conv pa_nil fun σ H Q h => by
  obtain ⟨B, Z, cm, ρ, s, r, p⟩ := h
  exact p.fin (F := ⟨B, Z, σ, ρ⟩) r ⟨.nil, rfl⟩
theorem qs_cons (ha : QE X T W e m) (hr : QS X T W n es lm) (hs : starEach (e :: es) X.env = (false, eval e X.env) :: starEach es X.env := by rfl) : QS X T W (n + 1) (e :: es) (mCons m lm) := PA.conv (pa_cons ha hr hs) fun σ H Q h => by
  refine h.bind (AR X.K T) up_ALn fun B Z cm ρ x H1 ⟨cm1, dx, s1, e1, r1, a1, p1⟩ => ?_
  refine ⟨B, Z, cm1, ρ, s1, r1, (p1.bind (A := ALn X.K T n) up_ALn).mono fun y H2 ⟨cm2, dy, s2, e2, r2, a2, p2⟩ => ?_⟩
  exact p2.fin r2 ⟨.cons (AR.ext (H0' := H) (s1 := s2) e2 a1) a2.1, by rw [List.length_cons, a2.2]⟩
theorem qb_nil : QSB X T W 0 [] mNil := PA.conv pa_nil fun σ H Q h => by
  obtain ⟨B, Z, cm, ρ, s, r, p⟩ := h
  exact p.fin (F := ⟨B, Z, σ, ρ⟩) r ⟨.nil, rfl⟩
theorem qb_cons (ha : QB X T W e m) (hr : QSB X T W n es lm) (hs : starEach (e :: es) X.env = (false, eval e X.env) :: starEach es X.env := by rfl) : QSB X T W (n + 1) (e :: es) (mCons m lm) := PA.conv (pa_cons ha hr hs) fun σ H Q h => by
  refine h.bind (AB X.K T) up_ALB fun B Z cm ρ x H1 ⟨cm1, dx, s1, e1, r1, a1, p1⟩ => ?_
  refine ⟨B, Z, cm1, ρ, s1, r1, (p1.bind (A := ALB X.K T n) up_ALB).mono fun y H2 ⟨cm2, dy, s2, e2, r2, a2, p2⟩ => ?_⟩
  exact p2.fin r2 ⟨.cons (a1.ext r1 e2) (a2.1.h0), by rw [List.length_cons, a2.2]⟩
theorem q_tup {x1} (h : QS X T W n es lm) (hn : n ≤ 1000 := by decide) : QE X T W (.Tuple es x1 pos) (mTup lm) := PE.conv (pe_tup h) fun σ H Q h => by
  refine h.bind (ALn X.K T n) up_AR fun B Z cm ρ x H1 ⟨cm1, dx, s1, e1, r1, a1, p1⟩ => ?_
  refine ⟨by rw [a1.2, sizeLine_eq]; omega, fun p hp => ?_⟩
  exact p1.fin_new r1 (sub_upd hp) (rep_tup r1 hp a1.1)
theorem q_lst (h : QS X T W n es lm) (hn : n ≤ 1000 := by decide) : QF X T W (.List es pos) (mLst lm) := PE.conv (pe_lst h) fun σ H Q h => by
  refine h.bind (ALn X.K T n) up_AF fun B Z cm ρ x H1 ⟨cm1, dx, s1, e1, r1, a1, p1⟩ => ?_
  refine ⟨by rw [a1.2, sizeLine_eq]; omega, fun p hp => ?_⟩
  exact p1.fin_new r1 (sub_upd hp) (rep_lst r1 hp a1.1)

/-! ### built-ins by name -/
def mCall (g : List D → S → R D) (lm : LM) : EM := fun ρ s => (lm ρ s).bind fun ds s1 => g ds s1
def OC (X : Cx) (T : Tb) (A : AK D V) (r : List V → Hp → VK → Prop) (g : List D → S → R D) : Prop := ∀ (F : Fm) (cm : List Addr) (H : Hp) (s : S) (W : WX) (xs : List V) (ds : List D) (Q : VK),
  FRel X.K T F cm H s → ABs X.K T F H cm H s xs ds → Post X.K T F cm H W A (g ds s) Q → r xs H Q
theorem tCB_of {A : AK D V} {r : List V → Hp → VK → Prop} {g : List D → S → R D} (hg : OC X T A r g) (up : Up A) {σ : L2.St} {H : Hp} {Q : VK} (h : tP X.K T W A (mCall g lm) σ H Q) : tCB r (tP X.K T W (ALB X.K T n) lm) σ H Q := by
  refine h.bind (ALB X.K T n) up fun B Z cm ρ x H1 ⟨cm1, dx, s1, e1, r1, a1, p1⟩ => ?_
  exact hg _ _ _ _ _ _ _ _ r1 a1.1.h0 p1
theorem q_callB {A : AK D V} {id : String} {x : Str} {p : Pos} {r : List V → Hp → VK → Prop} {g : List D → S → R D} (hc : CallR X (.builtin id) r) (hg : OC X T A r g) (up : Up A) (hgl : Gl X x) (hm : X.mg x = none) (hv : bootBuiltins x = some (.builtin id)) (ha : QSB X T W n (e :: es) lm) (hn : x ≠ "__name__" := by decide) (hdb : (x == ("__debug__" : Str)) = false := by decide)
    (he : starEach (e :: es) X.env = (false, eval e X.env) :: starEach es X.env := by rfl) (hpl : (backTo pos (starEach es X.env)).any (·.1) = false := by rfl) : PE X (.Call (.Name x p) (e :: es) [] pos) (tP X.K T W A (mCall g lm)) :=
  PE.conv (pe_callB hc hgl hm hv ha hn hdb he hpl) fun _ _ _ h => tCB_of hg up h
theorem q_callTy {A : AK D V} {id : String} {x : Str} {p : Pos} {r : List V → Hp → VK → Prop} {g : List D → S → R D} (hc : CallR X (.type id) r) (hg : OC X T A r g) (up : Up A) (hgl : Gl X x) (hm : X.mg x = none) (hv : bootBuiltins x = some (.type id)) (ha : QSB X T W n (e :: es) lm) (hn : x ≠ "__name__" := by decide) (hdb : (x == ("__debug__" : Str)) = false := by decide)
    (he : starEach (e :: es) X.env = (false, eval e X.env) :: starEach es X.env := by rfl) (hpl : (backTo pos (starEach es X.env)).any (·.1) = false := by rfl) : PE X (.Call (.Name x p) (e :: es) [] pos) (tP X.K T W A (mCall g lm)) :=
  PE.conv (pe_callTy hc hgl hm hv ha hn hdb he hpl) fun _ _ _ h => tCB_of hg up h

def gLen : List D → S → R D := fun ds s => match ds with
  | [.tup a] => .ok (.int a.length) s
  | [.lst a] => .ok (.int a.length) s
  | [.frz a] => .ok (.int a.length) s
  | [.str z] => if z.length ≤ sizeLine then .ok (.int z.length) s else .no
  | _ => .no
def rLenAll (K : PySem.W.Frag) : List V → Hp → VK → Prop := fun xs H Q => (∃ p ys, xs = [.ref p] ∧ (SqL K H p ys ∨ SqT K H p ys) ∧ Q (.int ys.length) H) ∨ ∃ z, xs = [.str z] ∧ z.length ≤ sizeLine ∧ Q (.int z.length) H
theorem call_lenAll : CallR X (.builtin "len") (rLenAll X.K) := call_len_seq.or call_len_str
theorem oc_len : OC X T (AR X.K T) (rLenAll X.K) gLen := by
  intro F cm H s W xs ds Q r a p
  unfold gLen at p
  split at p
  · cases a with
    | cons a t =>
      cases t
      obtain ⟨c, ys, rfl, h1, _, h3⟩ := a.tup
      exact .inl ⟨c, ys, rfl, .inr h1, by rw [h3.len]; exact p.fin r (.int _)⟩
  · cases a with
    | cons a t =>
      cases t
      obtain ⟨c, ys, rfl, h1, h3⟩ := a.lst
      exact .inl ⟨c, ys, rfl, .inl (.of h1), by rw [h3.len]; exact p.fin r (.int _)⟩
  · cases a with
    | cons a t =>
      cases t
      obtain ⟨c, ys, rfl, h1, h3⟩ := a.frz
      exact .inl ⟨c, ys, rfl, .inl h1, by rw [h3.len]; exact p.fin r (.int _)⟩
  · split at p
    · cases a with
      | cons a t =>
        cases t
        cases a.str
        exact .inr ⟨_, rfl, by assumption, p.fin r (.int _)⟩
    · exact p.elim
  · exact p.elim
def gAbs : List D → S → R D := fun ds s => match ds with
  | [.int i] => .ok (.int (if i < 0 then -i else i)) s
  | _ => .no
theorem oc_abs : OC X T (AR X.K T) (fun xs H Q => ∃ i, xs = [.int i] ∧ Q (.int (if i < 0 then -i else i)) H) gAbs := by
  intro F cm H s W xs ds Q r a p
  unfold gAbs at p
  split at p
  · cases a with
    | cons a t =>
      cases t
      cases a.int
      exact ⟨_, rfl, p.fin r (.int _)⟩
  · exact p.elim
def gMin : List D → S → R D := fun ds s => match ds with
  | [.int i, .int j] => .ok (.int (if j < i then j else i)) s
  | _ => .no
theorem oc_min : OC X T (AR X.K T) (fun xs H Q => ∃ i j, xs = [.int i, .int j] ∧ Q (.int (if j < i then j else i)) H) gMin := by
  intro F cm H s W xs ds Q r a p
  unfold gMin at p
  split at p
  · cases a with
    | cons a t =>
      cases t with
      | cons b t =>
        cases t
        cases a.int
        cases b.int
        exact ⟨_, _, rfl, p.fin r (.int _)⟩
  · exact p.elim
def gMax : List D → S → R D := fun ds s => match ds with
  | [.int i, .int j] => .ok (.int (if j > i then j else i)) s
  | _ => .no
theorem oc_max : OC X T (AR X.K T) (fun xs H Q => ∃ i j, xs = [.int i, .int j] ∧ Q (.int (if j > i then j else i)) H) gMax := by
  intro F cm H s W xs ds Q r a p
  unfold gMax at p
  split at p
  · cases a with
    | cons a t =>
      cases t with
      | cons b t =>
        cases t
        cases a.int
        cases b.int
        exact ⟨_, _, rfl, p.fin r (.int _)⟩
  · exact p.elim
def gInt : List D → S → R D := fun ds s => match ds with
  | [.int i] => .ok (.int i) s
  | [.bl b] => .ok (.int (if b then 1 else 0)) s
  | _ => .no
theorem oc_int : OC X T (AR X.K T) (fun xs H Q => (∃ i, xs = [.int i] ∧ Q (.int i) H) ∨ ∃ k, xs = [.bl k] ∧ Q (.int (if k then 1 else 0)) H) gInt := by
  intro F cm H s W xs ds Q r a p
  unfold gInt at p
  split at p
  · cases a with
    | cons a t =>
      cases t
      cases a.int
      exact .inl ⟨_, rfl, p.fin r (.int _)⟩
  · cases a with
    | cons a t =>
      cases t
      cases a.bl
      exact .inr ⟨_, rfl, p.fin r (.int _)⟩
  · exact p.elim
def bls : List D → Option (List Bool)
  | [] => some []
  | .bl b :: r => (bls r).map (b :: ·)
  | _ :: _ => none
theorem bls_of {K : PySem.W.Frag} {cm : List Addr} {G : Hp} : ∀ {ds : List D} {bs : List Bool} {xs : List V}, bls ds = some bs → Reps K T cm G xs ds → xs = bs.map V.bl
  | [], bs, xs, h, r => by
    cases r
    cases h
    rfl
  | d :: ds, bs, xs, h, r => by
    cases r with
    | cons r1 r2 =>
      cases d with
      | bl b =>
        unfold bls at h
        cases q : bls ds with
        | none => rw [q] at h; cases h
        | some cs =>
          rw [q] at h
          cases h
          cases r1
          rw [bls_of q r2]
          rfl
      | _ => cases h
def gAll : List D → S → R D := fun ds s => match ds with
  | [.lst a] => match bls a with | some bs => .ok (.bl (bs.all id)) s | none => .no
  | _ => .no
def gAny : List D → S → R D := fun ds s => match ds with
  | [.lst a] => match bls a with | some bs => .ok (.bl (bs.any id)) s | none => .no
  | _ => .no
theorem oc_all : OC X T (AR X.K T) (rAll X.K) gAll := by
  intro F cm H s W xs ds Q r a p
  unfold gAll at p
  split at p
  · split at p
    · rename_i e
      cases a with
      | cons a t =>
        cases t
        obtain ⟨c, ys, rfl, h1, h3⟩ := a.lst
        obtain rfl := bls_of e h3
        exact ⟨c, _, rfl, .of h1, p.fin r (.bl _)⟩
    · exact p.elim
  · exact p.elim
theorem oc_any : OC X T (AR X.K T) (rAny X.K) gAny := by
  intro F cm H s W xs ds Q r a p
  unfold gAny at p
  split at p
  · split at p
    · rename_i e
      cases a with
      | cons a t =>
        cases t
        obtain ⟨c, ys, rfl, h1, h3⟩ := a.lst
        obtain rfl := bls_of e h3
        exact ⟨c, _, rfl, .of h1, p.fin r (.bl _)⟩
    · exact p.elim
  · exact p.elim
def gTuple : List D → S → R D := fun ds s => match ds with
  | [.tup a] => .ok (.tup a) s
  | [.lst a] => .ok (.tup a) s
  | [.frz a] => .ok (.tup a) s
  | _ => .no
theorem oc_tuple : OC X T (AR X.K T) (fun xs H Q => ∃ p ys, xs = [.ref p] ∧ ((SqL X.K H p ys ∧ ∀ l, H l = none → Q (.ref l) (upd H l (.tup ys))) ∨ (SqT X.K H p ys ∧ Q (.ref p) H))) gTuple := by
  intro F cm H s W xs ds Q r a p
  unfold gTuple at p
  split at p
  · cases a with
    | cons a t =>
      cases t
      obtain ⟨c, ys, rfl, h1, h2, h3⟩ := a.tup
      exact ⟨c, ys, rfl, .inr ⟨h1, p.fin r (.tup h2 h3)⟩⟩
  · cases a with
    | cons a t =>
      cases t
      obtain ⟨c, ys, rfl, h1, h3⟩ := a.lst
      exact ⟨c, ys, rfl, .inl ⟨.of h1, fun q hq => p.fin_new r (sub_upd hq) (rep_tup r hq h3)⟩⟩
  · cases a with
    | cons a t =>
      cases t
      obtain ⟨c, ys, rfl, h1, h3⟩ := a.frz
      exact ⟨c, ys, rfl, .inl ⟨h1, fun q hq => p.fin_new r (sub_upd hq) (rep_tup r hq h3)⟩⟩
  · exact p.elim
def gList : List D → S → R D := fun ds s => match ds with
  | [.tup a] => .ok (.lst a) s
  | [.lst a] => .ok (.lst a) s
  | [.frz a] => .ok (.lst a) s
  | _ => .no
theorem oc_list : OC X T (AF X.K T) (fun xs H Q => ∃ p ys, xs = [.ref p] ∧ (SqL X.K H p ys ∨ SqT X.K H p ys) ∧ ∀ l, H l = none → Q (.ref l) (upd H l (.lst ys))) gList := by
  intro F cm H s W xs ds Q r a p
  unfold gList at p
  split at p
  · cases a with
    | cons a t =>
      cases t
      obtain ⟨c, ys, rfl, h1, h2, h3⟩ := a.tup
      exact ⟨c, ys, rfl, .inr h1, fun q hq => p.fin_new r (sub_upd hq) (rep_lst r hq h3)⟩
  · cases a with
    | cons a t =>
      cases t
      obtain ⟨c, ys, rfl, h1, h3⟩ := a.lst
      exact ⟨c, ys, rfl, .inl (.of h1), fun q hq => p.fin_new r (sub_upd hq) (rep_lst r hq h3)⟩
  · cases a with
    | cons a t =>
      cases t
      obtain ⟨c, ys, rfl, h1, h3⟩ := a.frz
      exact ⟨c, ys, rfl, .inl h1, fun q hq => p.fin_new r (sub_upd hq) (rep_lst r hq h3)⟩
  · exact p.elim
def intsD : List D → Option (List Int)
  | [] => some []
  | .int b :: r => (intsD r).map (b :: ·)
  | _ :: _ => none
theorem intsD_of {K : PySem.W.Frag} {cm : List Addr} {G : Hp} : ∀ {ds : List D} {bs : List Int} {xs : List V}, intsD ds = some bs → Reps K T cm G xs ds → xs = bs.map V.int
  | [], bs, xs, h, r => by
    cases r
    cases h
    rfl
  | d :: ds, bs, xs, h, r => by
    cases r with
    | cons r1 r2 =>
      cases d with
      | int b =>
        unfold intsD at h
        cases q : intsD ds with
        | none => rw [q] at h; cases h
        | some cs =>
          rw [q] at h
          cases h
          cases r1
          rw [intsD_of q r2]
          rfl
      | _ => cases h

/-! ### fields -/
def fldIx (fl : List Str) (f : Str) : Option Nat := match fl with
  | [] => none
  | g :: r => if f = g then some 0 else (fldIx r f).map (· + 1)
theorem lookup_fld {f : Str} : ∀ {fs : List (Str × V)} {j : Nat}, fldIx (fs.map (·.1)) f = some j → fs.lookup f = (fs.map (·.2))[j]?
  | [], j, h => by cases h
  | (g, v) :: r, j, h => by
    have h : (if f = g then some 0 else (fldIx (r.map (·.1)) f).map (· + 1)) = some j := h
    by_cases e : f = g
    · rw [if_pos e] at h
      cases h
      subst e
      simp [List.lookup]
    · rw [if_neg e] at h
      have e' : (f == g) = false := by simpa using e
      cases q : fldIx (r.map (·.1)) f with
      | none =>
        have h' : (fldIx (r.map (·.1)) f).map (· + 1) = some j := h
        rw [q] at h'
        cases h'
      | some i =>
        have h' : (fldIx (r.map (·.1)) f).map (· + 1) = some j := h
        rw [q] at h'
        cases h'
        show List.lookup f ((g, v) :: r) = _
        rw [List.lookup_cons, e']
        exact lookup_fld q
/-- ixs: for each class that may stand here the field's place -/
def mFld (ixs : List (Nat × Nat)) (m : EM) : EM := fun ρ s => (m ρ s).bind fun x s1 => match x with
  | .ins c ds => match ixs.lookup c with
    | some j => match ds[j]? with | some d => .ok d s1 | none => .no
    | none => .no
  | .cell n => match s1[n]? with
    | some (.ins c ds) => match ixs.lookup c with
      | some j => match ds[j]? with | some d => .ok d s1 | none => .no
      | none => .no
    | _ => .no
  | _ => .no
/-- what the classes give -/
def ClsOk (K : PySem.W.Frag) (T : Tb) (c : Nat) : Prop := Cls K (T.cls c) ∧ ∀ f ∈ T.fl c, NoAttr K (T.cls c) f
def FldOk (T : Tb) (f : Str) (ixs : List (Nat × Nat)) : Prop := ∀ p ∈ ixs, fldIx (T.fl p.1) f = some p.2
theorem fldIx_mem {f : Str} : ∀ {l : List Str} {j : Nat}, fldIx l f = some j → f ∈ l
  | [], j, h => by cases h
  | g :: r, j, h => by
    unfold fldIx at h
    by_cases e : f = g
    · rw [e]; exact List.mem_cons_self
    · rw [if_neg e] at h
      cases q : fldIx r f with
      | none => rw [q] at h; cases h
      | some i => exact List.mem_cons_of_mem _ (fldIx_mem q)
theorem fldIx_take {f : Str} : ∀ {l : List Str} {j n : Nat}, fldIx l f = some j → j < n → fldIx (l.take n) f = some j
  | [], j, n, h, _ => by cases h
  | g :: r, j, 0, h, hj => absurd hj (Nat.not_lt_zero _)
  | g :: r, j, n + 1, h, hj => by
    unfold fldIx at h ⊢
    rw [List.take_succ_cons]
    by_cases e : f = g
    · rw [if_pos e] at h
      show (if f = g then some 0 else _) = _
      rw [if_pos e]
      exact h
    · rw [if_neg e] at h
      show (if f = g then some 0 else (fldIx (r.take n) f).map (· + 1)) = _
      rw [if_neg e]
      cases q : fldIx r f with
      | none => rw [q] at h; cases h
      | some i =>
        rw [q] at h
        cases h
        have hj : i + 1 < n + 1 := hj
        rw [fldIx_take q (by omega)]
        rfl
theorem lookup_mem {α β : Type} [BEq α] [LawfulBEq α] {a : α} {b : β} : ∀ {l : List (α × β)}, l.lookup a = some b → (a, b) ∈ l
  | [], h => by cases h
  | (c, d) :: r, h => by
    rw [List.lookup_cons] at h
    cases q : a == c with
    | true =>
      rw [q] at h
      cases h
      rw [eq_of_beq q]
      exact List.mem_cons_self
    | false =>
      rw [q] at h
      exact List.mem_cons_of_mem _ (lookup_mem h)
theorem q_fld {f : Str} {ixs : List (Nat × Nat)} (hc : ∀ p ∈ ixs, ClsOk X.K T p.1) (hf : FldOk T f ixs) (he : QB X T W e m) (hb : attributeBase e f X.env (eval e X.env) = eval e X.env := by rfl) : QE X T W (.Attribute e f pos) (mFld ixs m) := PE.conv (pe_fld he hb) fun σ H Q h => by
  refine h.bind (AB X.K T) up_AR fun B Z cm ρ x H1 ⟨cm1, dx, s1, e1, r1, a1, p1⟩ => ?_
  have key : ∀ (a dxx : Addr) (fs : List (Str × V)) (c : Nat) (ds : List D) (j : Nat) (d : D), H1 a = some (.ins (T.cls c) dxx fs) → fs.map (·.1) = (T.fl c).take ds.length → Reps X.K T cm1 (Fm.G ⟨B, Z, σ, ρ⟩ cm1 H1) (fs.map (·.2)) ds → ixs.lookup c = some j → ds[j]? = some d →
      Post X.K T ⟨B, Z, σ, ρ⟩ cm1 H1 W (AR X.K T) (.ok d s1) Q → ∃ a' C dx fs v, V.ref a = .ref a' ∧ H1 a' = some (.ins C dx fs) ∧ Cls X.K C ∧ NoAttr X.K C f ∧ fs.lookup f = some v ∧ Q v H1 := fun a dxx fs c ds j d ha hn hr hl hd pp => by
    have hm := lookup_mem hl
    obtain ⟨v, h1, h2⟩ := hr.get hd
    have hx := hf _ hm
    have hj : j < ds.length := (List.getElem?_eq_some_iff.mp hd).1
    have hx2 : fldIx (fs.map (·.1)) f = some j := by rw [hn]; exact fldIx_take hx hj
    exact ⟨a, _, dxx, fs, v, rfl, ha, (hc _ hm).1, (hc _ hm).2 f (fldIx_mem hx), by rw [lookup_fld hx2]; exact h1, pp.fin r1 h2⟩
  dsimp only at p1
  split at p1
  · split at p1
    · rename_i hl
      split at p1
      · rename_i hd
        obtain ⟨a, dxx, fs, rfl, ha, hn, hr⟩ := a1.ins
        exact key a dxx fs _ _ _ _ ha hn hr hl hd p1
      · exact p1.elim
    · exact p1.elim
  · split at p1
    · rename_i n o c ds e0
      split at p1
      · rename_i hl
        split at p1
        · rename_i hd
          have hc' : ∃ a, x = .ref a ∧ cm1[n]? = some a := by
            rcases a1 with z | ⟨c, rfl, o, q⟩
            · cases z with
              | cell h => exact ⟨_, rfl, h⟩
            · exact q.elim
          obtain ⟨a, rfl, hca⟩ := hc'
          obtain ⟨dxx, fs, h1, h2, h3⟩ := r1.cells.at_ n a _ hca e0
          exact key a dxx fs _ _ _ _ h1 h2 h3 hl hd p1
        · exact p1.elim
      · exact p1.elim
    · exact p1.elim
  · exact p1.elim

/-! ### slices -/
def cutD {α : Type} (xs : List α) (lo hi : Option Int) : List α := (xs.drop (HT.sIx xs.length 0 lo)).take (HT.sIx xs.length xs.length hi - HT.sIx xs.length 0 lo)
def gSlice (x : D) (lo hi : Option Int) (s : S) : R D := match x with
  | .tup a => .ok (.tup (cutD a lo hi)) s
  | .str z => if z.length ≤ sizeLine then .ok (.str (cutS z lo hi)) s else .no
  | _ => .no
def gSliceL (x : D) (lo hi : Option Int) (s : S) : R D := match x with
  | .lst a => .ok (.lst (cutD a lo hi)) s
  | .frz a => .ok (.lst (cutD a lo hi)) s
  | _ => .no
abbrev OM := List SD → S → R (Option Int)
def mNoPart : OM := fun _ s => .ok none s
def mPart (m : EM) : OM := fun ρ s => (m ρ s).bind fun x s1 => match x with | .int i => .ok (some i) s1 | _ => .no
def mSlice (g : D → Option Int → Option Int → S → R D) (m : EM) (lo hi : OM) : EM := fun ρ s => (m ρ s).bind fun x s1 => (lo ρ s1).bind fun l s2 => (hi ρ s2).bind fun u s3 => g x l u s3
def AO : AK (Option Int) (Option Int) := fun _ _ _ _ _ v d => v = d
theorem up_AO : Up AO := fun _ _ _ _ _ _ _ _ _ h => h
abbrev QO (X : Cx) (T : Tb) (W : WX) (e : Option Expr) (m : OM) : Prop := PO X e (tP X.K T W AO m)
theorem _root_.L2.PO.conv {X : Cx} {e : Option Expr} {t t' : TO} (h : PO X e t) (c : ∀ σ H Q, t' σ H Q → t σ H Q) : PO X e t' := ⟨fun pins s σ H Q I w => h.run pins s σ H Q I (c σ H Q w)⟩
theorem qo_none : QO X T W none mNoPart := PO.conv po_none fun σ H Q h => by
  obtain ⟨B, Z, cm, ρ, s, r, p⟩ := h
  exact p.fin (F := ⟨B, Z, σ, ρ⟩) r rfl
theorem qo_some (he : QE X T W e m) : QO X T W (some e) (mPart m) := PO.conv (po_some he) fun σ H Q h => by
  refine h.bind (AR X.K T) up_AO fun B Z cm ρ x H1 ⟨cm1, dx, s1, e1, r1, a1, p1⟩ => ?_
  cases dx with
  | int i =>
    cases a1
    exact ⟨i, rfl, p1.fin r1 rfl⟩
  | _ => exact p1.elim
def OSl (X : Cx) (T : Tb) (A : AK D V) (r : V → Option Int → Option Int → Hp → VK → Prop) (g : D → Option Int → Option Int → S → R D) : Prop := ∀ (F : Fm) (cm : List Addr) (H : Hp) (s : S) (W : WX) (x : V) (d : D) (lo hi : Option Int) (Q : VK),
  FRel X.K T F cm H s → AB X.K T F H cm H s x d → Post X.K T F cm H W A (g d lo hi s) Q → r x lo hi H Q
theorem tSl_of {A : AK D V} {r : V → Option Int → Option Int → Hp → VK → Prop} {g : D → Option Int → Option Int → S → R D} {lo hi : OM} (hg : OSl X T A r g) (up : Up A) {σ : L2.St} {H : Hp} {Q : VK} (h : tP X.K T W A (mSlice g m lo hi) σ H Q) :
    tSl r (tP X.K T W (AB X.K T) m) (tP X.K T W AO lo) (tP X.K T W AO hi) σ H Q := by
  refine h.bind (AB X.K T) up fun B Z cm ρ x H1 ⟨cm1, dx, s1, e1, r1, a1, p1⟩ => ?_
  refine ⟨B, Z, cm1, ρ, s1, r1, (p1.bind (A := AO) up).mono fun l H2 ⟨cm2, dl, s2, e2, r2, a2, p2⟩ => ?_⟩
  refine ⟨B, Z, cm2, ρ, s2, r2, (p2.bind (A := AO) up).mono fun u H3 ⟨cm3, du, s3, e3, r3, a3, p3⟩ => ?_⟩
  cases a2
  cases a3
  exact hg _ _ _ _ _ _ _ _ _ _ r3 (a1.ext r1 (e2.trans e3)) p3
theorem Reps.cut {K : PySem.W.Frag} {cm : List Addr} {G : Hp} {xs : List V} {ds : List D} (h : Reps K T cm G xs ds) (lo hi : Option Int) : Reps K T cm G (cutV xs lo hi) (cutD ds lo hi) := by
  unfold cutV cutD
  rw [h.len]
  exact Reps.take _ (Reps.drop _ h)
theorem cutD_whole {α : Type} {xs : List α} {lo hi : Option Int} (h : HT.sIx xs.length 0 lo = 0 ∧ HT.sIx xs.length xs.length hi = xs.length) : cutD xs lo hi = xs := by
  unfold cutD
  rw [h.1, h.2, List.drop_zero, Nat.sub_zero, List.take_length]

theorem osl_tup : OSl X T (AR X.K T) (fun x lo hi H Q => rSlA X.K x lo hi H Q ∨ rSlS x lo hi H Q) gSlice := by
  intro F cm H s W x d lo hi Q r a p
  unfold gSlice at p
  split at p
  · obtain ⟨c, xs, rfl, h1, h2, h3⟩ := a.tup
    refine .inl ⟨c, xs, rfl, h1, fun hw => ?_, fun hw q hq => ?_⟩
    · refine p.fin r (.tup h2 ?_)
      rw [cutD_whole (by rw [← h3.len]; exact hw)]
      exact h3
    · exact p.fin_new r (sub_upd hq) (rep_tup r hq (h3.cut lo hi))
  · split at p
    · cases a.str
      exact .inr ⟨_, rfl, by assumption, p.fin r (.str _)⟩
    · exact p.elim
  · exact p.elim
theorem osl_lst : OSl X T (AF X.K T) (rSlL X.K) gSliceL := by
  intro F cm H s W x d lo hi Q r a p
  unfold gSliceL at p
  split at p
  · obtain ⟨c, xs, rfl, h1, h3⟩ := a.lst
    exact ⟨c, xs, rfl, .of h1, fun q hq => p.fin_new r (sub_upd hq) (rep_lst r hq (h3.cut lo hi))⟩
  · obtain ⟨c, xs, rfl, h1, h3⟩ := a.frz
    exact ⟨c, xs, rfl, h1, fun q hq => p.fin_new r (sub_upd hq) (rep_lst r hq (h3.cut lo hi))⟩
  · exact p.elim
variable {lo hi : Option Expr} {lom him : OM} {p2 : Pos}
theorem q_slice (he : QB X T W e m) (hl : QO X T W lo lom) (hh : QO X T W hi him) : QE X T W (.Subscript e (.Slice lo hi none p2) pos) (mSlice gSlice m lom him) :=
  PE.conv (pe_slice (sl_tupA.or sl_str) he hl hh) fun _ _ _ h => tSl_of osl_tup up_AR h
theorem q_sliceL (he : QB X T W e m) (hl : QO X T W lo lom) (hh : QO X T W hi him) : QF X T W (.Subscript e (.Slice lo hi none p2) pos) (mSlice gSliceL m lom him) :=
  PE.conv (pe_slice sl_list he hl hh) fun _ _ _ h => tSl_of osl_lst up_AF h
/-! built-ins in short -/
variable {p : Pos}
theorem q_len (hg : Gl X "len") (hm : X.mg "len" = none) (ha : QB X T W e m) (hs : starEach [e] X.env = (false, eval e X.env) :: starEach [] X.env := by rfl) (hpl : (backTo pos (starEach [] X.env)).any (·.1) = false := by rfl) : QE X T W (.Call (.Name "len" p) [e] [] pos) (mCall gLen (mCons m mNil)) :=
  q_callB call_lenAll oc_len up_AR hg hm PySem.boot_len (qb_cons ha qb_nil hs) (by decide) (by decide) hs hpl
theorem q_abs (hg : Gl X "abs") (hm : X.mg "abs" = none) (ha : QB X T W e m) (hs : starEach [e] X.env = (false, eval e X.env) :: starEach [] X.env := by rfl) (hpl : (backTo pos (starEach [] X.env)).any (·.1) = false := by rfl) : QE X T W (.Call (.Name "abs" p) [e] [] pos) (mCall gAbs (mCons m mNil)) :=
  q_callB call_abs oc_abs up_AR hg hm PyProof.Rows.boot_abs (qb_cons ha qb_nil hs) (by decide) (by decide) hs hpl
theorem q_all (hc : X.calm = true) (hg : Gl X "all") (hm : X.mg "all" = none) (ha : QB X T W e m) (hs : starEach [e] X.env = (false, eval e X.env) :: starEach [] X.env := by rfl) (hpl : (backTo pos (starEach [] X.env)).any (·.1) = false := by rfl) : QE X T W (.Call (.Name "all" p) [e] [] pos) (mCall gAll (mCons m mNil)) :=
  q_callB (cr_all hc) oc_all up_AR hg hm PyProof.Rows.boot_all (qb_cons ha qb_nil hs) (by decide) (by decide) hs hpl
theorem q_any (hc : X.calm = true) (hg : Gl X "any") (hm : X.mg "any" = none) (ha : QB X T W e m) (hs : starEach [e] X.env = (false, eval e X.env) :: starEach [] X.env := by rfl) (hpl : (backTo pos (starEach [] X.env)).any (·.1) = false := by rfl) : QE X T W (.Call (.Name "any" p) [e] [] pos) (mCall gAny (mCons m mNil)) :=
  q_callB (cr_any hc) oc_any up_AR hg hm PyProof.Rows.boot_any (qb_cons ha qb_nil hs) (by decide) (by decide) hs hpl
theorem q_tupleOf (hg : Gl X "tuple") (hm : X.mg "tuple" = none) (ha : QB X T W e m) (hs : starEach [e] X.env = (false, eval e X.env) :: starEach [] X.env := by rfl) (hpl : (backTo pos (starEach [] X.env)).any (·.1) = false := by rfl) : QE X T W (.Call (.Name "tuple" p) [e] [] pos) (mCall gTuple (mCons m mNil)) :=
  q_callTy call_tuple_of oc_tuple up_AR hg hm PyProof.Rows.boot_tuple (qb_cons ha qb_nil hs) (by decide) (by decide) hs hpl
theorem q_listOf (hg : Gl X "list") (hm : X.mg "list" = none) (ha : QB X T W e m) (hs : starEach [e] X.env = (false, eval e X.env) :: starEach [] X.env := by rfl) (hpl : (backTo pos (starEach [] X.env)).any (·.1) = false := by rfl) : QF X T W (.Call (.Name "list" p) [e] [] pos) (mCall gList (mCons m mNil)) :=
  q_callTy call_list_of oc_list up_AF hg hm PyProof.Rows.boot_list (qb_cons ha qb_nil hs) (by decide) (by decide) hs hpl
theorem q_intOf (hg : Gl X "int") (hm : X.mg "int" = none) (ha : QB X T W e m) (hs : starEach [e] X.env = (false, eval e X.env) :: starEach [] X.env := by rfl) (hpl : (backTo pos (starEach [] X.env)).any (·.1) = false := by rfl) : QE X T W (.Call (.Name "int" p) [e] [] pos) (mCall gInt (mCons m mNil)) :=
  q_callTy call_int1 oc_int up_AR hg hm PyProof.Rows.boot_int (qb_cons ha qb_nil hs) (by decide) (by decide) hs hpl
variable {e2 : Expr} {m2 : EM}
theorem q_min2 (hc : X.calm = true) (hg : Gl X "min") (hm : X.mg "min" = none) (ha : QB X T W e m) (hb : QB X T W e2 m2) (hs : starEach [e, e2] X.env = (false, eval e X.env) :: starEach [e2] X.env := by rfl) (hs2 : starEach [e2] X.env = (false, eval e2 X.env) :: starEach [] X.env := by rfl) (hpl : (backTo pos (starEach [e2] X.env)).any (·.1) = false := by rfl) :
    QE X T W (.Call (.Name "min" p) [e, e2] [] pos) (mCall gMin (mCons m (mCons m2 mNil))) := q_callB (call_min2 hc) oc_min up_AR hg hm PyProof.Rows.boot_min (qb_cons ha (qb_cons hb qb_nil hs2) hs) (by decide) (by decide) hs hpl
theorem q_max2 (hc : X.calm = true) (hg : Gl X "max") (hm : X.mg "max" = none) (ha : QB X T W e m) (hb : QB X T W e2 m2) (hs : starEach [e, e2] X.env = (false, eval e X.env) :: starEach [e2] X.env := by rfl) (hs2 : starEach [e2] X.env = (false, eval e2 X.env) :: starEach [] X.env := by rfl) (hpl : (backTo pos (starEach [e2] X.env)).any (·.1) = false := by rfl) :
    QE X T W (.Call (.Name "max" p) [e, e2] [] pos) (mCall gMax (mCons m (mCons m2 mNil))) := q_callB (call_max2 hc) oc_max up_AR hg hm PyProof.Rows.boot_max (qb_cons ha (qb_cons hb qb_nil hs2) hs) (by decide) (by decide) hs hpl

/-! ### isinstance -/
/-- what isinstance asks of an own class -/
structure InsT (K : PySem.W.Frag) (C : Addr) : Prop where
  cl : Cls K C
  ha : PySem.W.findIn K (.ref C) "__class__" = some (some (.builtin "object.__class__"))
  hn : PySem.W.specialIn K (.builtin "object.__class__") "__get__" = some (some (.builtin "getset_descriptor.__get__"))
  htk : PySem.W.takesIn K (.builtin "object.__class__") = some true
  hm : PySem.W.mroIn K C (.type "object") = some true
def tyD (T : Tb) (d : D) : Option Value := match d with
  | .non => some (.type "NoneType")
  | .bl _ => some (.type "bool")
  | .int _ => some (.type "int")
  | .str _ => some (.type "str")
  | .tup _ => some (.type "tuple")
  | .lst _ => some (.type "list")
  | .dic _ _ => some (.type "dict")
  | .ins c _ => some (.ref (T.cls c))
  | _ => none
theorem tyX_of {F : Fm} {H0 H : Hp} {cm : List Addr} {s : S} {v : V} {d : D} {t : Value} (hi : ∀ c ds, d = .ins c ds → InsT X.K (T.cls c)) (z : AB X.K T F H0 cm H s v d) (h : tyD T d = some t) : TyX X.K H v t := by
  cases d with
  | non => cases h; cases z.non; exact .base .non
  | bl b => cases h; cases z.bl; exact .base (.bl b)
  | int b => cases h; cases z.int; exact .base (.int b)
  | str b => cases h; cases z.str; exact .base (.str b)
  | tup ds =>
    cases h
    obtain ⟨a, xs, rfl, h1, _⟩ := z.tup
    rcases h1 with (h1 | ⟨o, h1⟩) | ⟨o, its, n, h1, h2, _⟩
    · exact .base (.tup h1)
    · exact .fTuple h1
    · exact .kTuple h1 h2
  | lst ds =>
    cases h
    obtain ⟨a, xs, rfl, h1, _⟩ := z.lst
    exact .base (.lst h1)
  | ins c ds =>
    cases h
    obtain ⟨a, dx, fs, rfl, h1, _⟩ := z.ins
    have q := hi c ds rfl
    exact .base (.ins h1 q.cl q.ha q.hn q.htk q.hm)
  | dic ks ds =>
    cases h
    rcases z with z | ⟨a, rfl, o, q⟩
    · cases z with
      | dic h1 _ =>
        rcases Sub.hidH.rd h1 with h1 | ⟨o, h1⟩
        · exact .base (.dK h1)
        · exact .fDict h1
    · exact q.elim
  | _ => cases h
/-- k: for each class number that may come, the answer; kb: for the built-in types -/
def gIsi (k : D → Option Bool) (m : EM) : EM := fun ρ s => (m ρ s).bind fun x s1 => match k x with | some b => .ok (.bl b) s1 | none => .no
def IsiOk (K : PySem.W.Frag) (T : Tb) (cv : Value) (k : D → Option Bool) : Prop := ∀ d b, k d = some b → (∀ c ds, d = .ins c ds → InsT K (T.cls c)) ∧ ∃ t, tyD T d = some t ∧ PySem.W.kitOne K t cv = some b
theorem q_isi1 {k : D → Option Bool} {c : V} {cv : Value} {te : TE} (hk : IsiOk X.K T cv k) (hcv : ClsV c cv) (he2 : PE X e2 (tC c)) (hg : Gl X "isinstance") (hm : X.mg "isinstance" = none) (ha : QB X T W e m)
    (hs : starEach [e, e2] X.env = (false, eval e X.env) :: starEach [e2] X.env := by rfl) (hs2 : starEach [e2] X.env = (false, eval e2 X.env) :: starEach [] X.env := by rfl) (hpl : (backTo pos (starEach [e2] X.env)).any (·.1) = false := by rfl) :
    QE X T W (.Call (.Name "isinstance" p) [e, e2] [] pos) (gIsi k m) := PE.conv (pe_callB call_isi hg hm PyProof.Rows.boot_isinstance (pa_cons ha (pa_cons he2 pa_nil hs2) hs) (by decide) (by decide) hs hpl) fun σ H Q h => by
  refine h.bind (AB X.K T) up_AR fun B Z cm ρ x H1 ⟨cm1, dx, s1, e1, r1, a1, p1⟩ => ?_
  dsimp only at p1
  split at p1
  · rename_i b hb
    obtain ⟨hi, t, ht, hkit⟩ := hk _ _ hb
    exact ⟨x, c, t, cv, b, rfl, hcv, tyX_of hi a1 ht, hkit, p1.fin r1 (.bl _)⟩
  · exact p1.elim
/-- a tuple of classes -/
def IsiTOk (K : PySem.W.Frag) (T : Tb) (cvs : List Value) (k : D → Option Bool) : Prop := ∀ d b, k d = some b → (∀ c ds, d = .ins c ds → InsT K (T.cls c)) ∧ ∃ t, tyD T d = some t ∧ PySem.W.kitAny K t cvs = some b
theorem q_isi2 {k : D → Option Bool} {c1 c2 : V} {v1 v2 : Value} {a1 a2 : Expr} {x1 : Nat} {tpos : Pos} (hk : IsiTOk X.K T [v1, v2] k) (hcv1 : ClsV c1 v1) (hcv2 : ClsV c2 v2) (ha1 : PE X a1 (tC c1)) (ha2 : PE X a2 (tC c2)) (hg : Gl X "isinstance") (hm : X.mg "isinstance" = none) (ha : QB X T W e m)
    (hs : starEach [e, .Tuple [a1, a2] x1 tpos] X.env = (false, eval e X.env) :: starEach [.Tuple [a1, a2] x1 tpos] X.env := by rfl) (hs2 : starEach [.Tuple [a1, a2] x1 tpos] X.env = (false, eval (.Tuple [a1, a2] x1 tpos) X.env) :: starEach [] X.env := by rfl) (hpl : (backTo pos (starEach [.Tuple [a1, a2] x1 tpos] X.env)).any (·.1) = false := by rfl)
    (ht1 : starEach [a1, a2] X.env = (false, eval a1 X.env) :: starEach [a2] X.env := by rfl) (ht2 : starEach [a2] X.env = (false, eval a2 X.env) :: starEach [] X.env := by rfl) :
    QE X T W (.Call (.Name "isinstance" p) [e, .Tuple [a1, a2] x1 tpos] [] pos) (gIsi k m) := PE.conv (pe_callB call_isiT hg hm PyProof.Rows.boot_isinstance (pa_cons ha (pa_cons (pe_tup (pa_cons ha1 (pa_cons ha2 pa_nil ht2) ht1)) pa_nil hs2) hs) (by decide) (by decide) hs hpl) fun σ H Q h => by
  refine h.bind (AB X.K T) up_AR fun B Z cm ρ x H1 ⟨cm1, dx, s1, e1, r1, a1, p1⟩ => ?_
  refine ⟨by show 2 ≤ sizeLine; decide, fun q hq => ?_⟩
  have r2 := r1.grow (sub_upd (o := .tup [c1, c2]) hq)
  have a2 : AB X.K T ⟨B, Z, σ, ρ⟩ H cm1 _ s1 x dx := a1.ext r1 (Ext.grow (sub_upd (o := .tup [c1, c2]) hq))
  dsimp only at p1
  split at p1
  · rename_i b hb
    obtain ⟨hi, t, ht, hkit⟩ := hk _ _ hb
    exact ⟨x, q, [c1, c2], t, [v1, v2], b, rfl, upd_same, .cons hcv1 (.cons hcv2 .nil), tyX_of hi a2 ht, hkit, p1.fin_new r1 (sub_upd hq) (.bl _)⟩
  · exact p1.elim
end
end Tv

/-! Tv6: statements -/
namespace Tv
open PySem PySem.Spec PyProof.Rows L2

inductive SR where
  | nx (ρ : List SD) (s : S) | rt (d : D) (s : S) | bk (ρ : List SD) (s : S) | ct (ρ : List SD) (s : S) | er (c : Nat) (ds : List D) (ρ : List SD) (s : S) | no
abbrev SM := List SD → S → SR

section
variable {K : PySem.W.Frag} {T : Tb} {B : Hp} {Z : Addr → Prop} {cm cm1 : List Addr} {σ : L2.St} {H H1 : Hp} {ρ : List SD} {s s1 : S}
/-! ### the slots change -/
theorem set_get {α : Type} {l : List α} {i j : Nat} {x y : α} (h : (l.set i x)[j]? = some y) : (j = i ∧ i < l.length ∧ y = x) ∨ (j ≠ i ∧ l[j]? = some y) := by
  by_cases e : j = i
  · subst e
    by_cases hl : j < l.length
    · rw [List.getElem?_set_self hl] at h
      exact .inl ⟨rfl, hl, (Option.some.inj h).symm⟩
    · rw [List.getElem?_eq_none (by rw [List.length_set]; omega)] at h
      cases h
  · rw [List.getElem?_set_ne (Ne.symm e)] at h
    exact .inr ⟨e, h⟩
/-- fewer owned ones: what was seen is seen -/
theorem Rel.slots {σ' : L2.St} {ρ' : List SD} (r : Rel K T B Z cm σ H ρ s) (len : ρ'.length = σ'.length) (O : ∀ a, Ow σ' ρ' a → Ow σ ρ a)
    (val : Sub (GV cm Z (Ow σ ρ) H) (GV cm Z (Ow σ' ρ') H) → ∀ (i : Nat) (d : D), ρ'[i]? = some (.v d) → ∃ v, σ'[i]? = some (some v) ∧ Rep K T cm (GV cm Z (Ow σ' ρ') H) v d)
    (own : ∀ (i : Nat) (d : D), ρ'[i]? = some (.own d) → ρ[i]? = some (.own d) ∧ σ'[i]? = σ[i]?) : Rel K T B Z cm σ' H ρ' s := by
  have sub : Sub (GV cm Z (Ow σ ρ) H) (GV cm Z (Ow σ' ρ') H) := hid_sub fun a u n e => ⟨fun z => by
    rcases z with z | z | z
    · exact n (.inl z)
    · exact n (.inr (.inl z))
    · exact n (.inr (.inr (O a z))), e⟩
  refine ⟨len, val sub, fun i d e => ?_, fun i j d e a h1 h2 h3 h4 => ?_, ⟨r.cells.len, r.cells.nd, fun n a d e1 e2 => (r.cells.at_ n a d e1 e2).ext (.refl _) sub fun o z => z, r.cells.there, r.cells.zok, r.cells.nosf⟩, r.base⟩
  · obtain ⟨e1, e2⟩ := own i d e
    obtain ⟨a, h1, h2, h3⟩ := r.own i d e1
    exact ⟨a, e2.trans h1, h2.ext (.refl _) sub fun o z => z, h3⟩
  · obtain ⟨e1, e2⟩ := own i d h1
    obtain ⟨e3, e4⟩ := own j e h2
    exact r.apart i j d e a e1 e3 (e2.symm.trans h3) (e4.symm.trans h4)
theorem Rel.set {i : Nat} {v : V} {d : D} (r : Rel K T B Z cm σ H ρ s) (q : Rep K T cm (GV cm Z (Ow σ ρ) H) v d) : Rel K T B Z cm (σ.set i (some v)) H (ρ.set i (.v d)) s := by
  refine r.slots (by rw [List.length_set, List.length_set]; exact r.len) (fun a ⟨j, e, h1, h2⟩ => ?_) (fun sub j e h => ?_) (fun j e h => ?_)
  · rcases set_get h1 with ⟨_, _, z⟩ | ⟨n, z⟩
    · cases z
    · rw [List.getElem?_set_ne (Ne.symm n)] at h2
      exact ⟨j, e, z, h2⟩
  · rcases set_get h with ⟨rfl, hl, z⟩ | ⟨n, z⟩
    · cases z
      refine ⟨v, ?_, Rep.mono (.refl _) sub _ _ q⟩
      rw [List.getElem?_set_self (by rw [← r.len]; exact hl)]
    · obtain ⟨w, h1, h2⟩ := r.val j e z
      refine ⟨w, ?_, Rep.mono (.refl _) sub _ _ h2⟩
      rw [List.getElem?_set_ne (Ne.symm n)]
      exact h1
  · rcases set_get h with ⟨_, _, z⟩ | ⟨n, z⟩
    · cases z
    · exact ⟨z, List.getElem?_set_ne (Ne.symm n)⟩
/-- a slot forgotten -/
theorem Rel.unset {i : Nat} (r : Rel K T B Z cm σ H ρ s) : Rel K T B Z cm σ H (ρ.set i .un) s := by
  refine r.slots (by rw [List.length_set]; exact r.len) (fun a ⟨j, e, h1, h2⟩ => ?_) (fun sub j e h => ?_) (fun j e h => ?_)
  · rcases set_get h1 with ⟨_, _, z⟩ | ⟨n, z⟩
    · cases z
    · exact ⟨j, e, z, h2⟩
  · rcases set_get h with ⟨_, _, z⟩ | ⟨n, z⟩
    · cases z
    · obtain ⟨w, h1, h2⟩ := r.val j e z
      exact ⟨w, h1, Rep.mono (.refl _) sub _ _ h2⟩
  · rcases set_get h with ⟨_, _, z⟩ | ⟨n, z⟩
    · cases z
    · exact ⟨z, rfl⟩
/-- the owned list of slot i handed on: from now on a value -/
def frz (i : Nat) (ρ : List SD) : List SD := match ρ[i]? with
  | some (.own (.lst ds)) => ρ.set i (.v (.lst ds))
  | _ => ρ
theorem Rel.frz {i : Nat} (r : Rel K T B Z cm σ H ρ s) : Rel K T B Z cm σ H (Tv.frz i ρ) s := by
  unfold Tv.frz
  split
  · rename_i ds e0
    obtain ⟨a, h1, ⟨xs, h2, h3⟩, h4, h5, h6⟩ := r.own i _ e0
    refine r.slots (by rw [List.length_set]; exact r.len) (fun b ⟨j, e, q1, q2⟩ => ?_) (fun sub j e h => ?_) (fun j e h => ?_)
    · rcases set_get q1 with ⟨_, _, z⟩ | ⟨n, z⟩
      · cases z
      · exact ⟨j, e, z, q2⟩
    · rcases set_get h with ⟨rfl, hl, z⟩ | ⟨n, z⟩
      · cases z
        refine ⟨.ref a, h1, .lst (hid_some.mpr ⟨fun z => ?_, h2⟩) (Reps.mono (.refl _) sub _ _ h3)⟩
        rcases z with z | z | ⟨k, e, q1, q2⟩
        · exact h4 z
        · exact h5 z
        · rcases set_get q1 with ⟨_, _, z⟩ | ⟨n, z⟩
          · cases z
          · exact n (r.apart k j _ _ a z e0 q2 h1)
      · obtain ⟨w, h1, h2⟩ := r.val j e z
        exact ⟨w, h1, Rep.mono (.refl _) sub _ _ h2⟩
    · rcases set_get h with ⟨_, _, z⟩ | ⟨n, z⟩
      · cases z
      · exact ⟨z, rfl⟩
  · exact r
/-- a new list to a slot of its own -/
theorem Rel.setOwn {F : Fm} {i : Nat} {v : V} {d : D} {cm0 : List Addr} {H0 : Hp} {s0 : S} (r0 : FRel K T F cm0 H0 s0) (hi : i < F.ρ.length) (z : AF K T F H0 cm H s v d) :
    Rel K T F.B F.Z cm (F.σ.set i (some v)) H (F.ρ.set i (.own d)) s := by
  obtain ⟨p, ds, xs, rfl, rfl, hp, hc, r, hx, q⟩ := z
  have hiσ : i < F.σ.length := by rw [← r0.len]; exact hi
  have nZ : ¬ F.Z p := fun z => r0.cells.zok p z hp
  have sub : Sub (GV cm (fun a => F.Z a ∨ a = p) F.O H) (GV cm F.Z (Ow (F.σ.set i (some (.ref p))) (F.ρ.set i (.own (.lst ds)))) H) := hid_sub fun a u n e => ⟨fun z => by
    rcases z with z | z | ⟨j, e, q1, q2⟩
    · exact n (.inl z)
    · exact n (.inr (.inl (.inl z)))
    · rcases set_get q1 with ⟨rfl, _, z⟩ | ⟨nj, z⟩
      · rw [List.getElem?_set_self hiσ] at q2
        cases q2
        exact n (.inr (.inl (.inr rfl)))
      · rw [List.getElem?_set_ne (Ne.symm nj)] at q2
        exact n (.inr (.inr ⟨j, e, z, q2⟩)), e⟩
  refine ⟨by rw [List.length_set, List.length_set]; exact r.len, fun j e h => ?_, fun j e h => ?_, fun j k e f a h1 h2 h3 h4 => ?_,
    ⟨r.cells.len, r.cells.nd, fun n a d e1 e2 => (r.cells.at_ n a d e1 e2).ext (.refl _) sub fun o z => z, r.cells.there, fun a m => r.cells.zok a (.inl m), r.cells.nosf⟩, r.base⟩
  · rcases set_get h with ⟨_, _, z⟩ | ⟨n, z⟩
    · cases z
    · obtain ⟨w, h1, h2⟩ := r.val j e z
      refine ⟨w, ?_, Rep.mono (.refl _) sub _ _ h2⟩
      rw [List.getElem?_set_ne (Ne.symm n)]
      exact h1
  · rcases set_get h with ⟨rfl, hl, z⟩ | ⟨n, z⟩
    · cases z
      refine ⟨p, ?_, ⟨xs, hx, Reps.mono (.refl _) sub _ _ q⟩, hc, nZ, ?_⟩
      · rw [List.getElem?_set_self hiσ]
      · cases b : F.B p with
        | none => rfl
        | some o =>
          have := (r0.base p o b).1
          rw [hp] at this
          cases this
    · obtain ⟨a, h1, h2, h3, h4, h5⟩ := r.own j e z
      refine ⟨a, ?_, h2.ext (.refl _) sub fun o z => z, h3, fun q => h4 (.inl q), h5⟩
      rw [List.getElem?_set_ne (Ne.symm n)]
      exact h1
  · have key : ∀ (j : Nat) (e : D), (F.ρ.set i (.own (.lst ds)))[j]? = some (.own e) → (F.σ.set i (some (.ref p)))[j]? = some (some (V.ref a)) → (j = i ∧ a = p) ∨ (j ≠ i ∧ F.ρ[j]? = some (.own e) ∧ F.σ[j]? = some (some (.ref a)) ∧ a ≠ p) := fun j e q1 q2 => by
      rcases set_get q1 with ⟨rfl, _, z⟩ | ⟨nj, z⟩
      · rw [List.getElem?_set_self hiσ] at q2
        cases q2
        exact .inl ⟨rfl, rfl⟩
      · rw [List.getElem?_set_ne (Ne.symm nj)] at q2
        obtain ⟨b, h1, _, _, h4, _⟩ := r.own j e z
        rw [q2] at h1
        cases h1
        exact .inr ⟨nj, z, q2, fun e => h4 (.inr e)⟩
    rcases key j e h1 h3 with ⟨e1, e2⟩ | ⟨n1, z1, z2, z3⟩
    · rcases key k f h2 h4 with ⟨e3, e4⟩ | ⟨n2, y1, y2, y3⟩
      · rw [e1, e3]
      · exact absurd e2 y3
    · rcases key k f h2 h4 with ⟨e3, e4⟩ | ⟨n2, y1, y2, y3⟩
      · exact absurd e4 z3
      · exact r.apart j k e f a z1 y1 z2 y2
theorem GV_mut {cm : List Addr} {Z O O' : Addr → Prop} {H : Hp} {a : Addr} {o : HO} (h : HidP cm Z O a) (e : ∀ b, O' b ↔ O b) : GV cm Z O' (upd H a o) = GV cm Z O H := by
  funext b
  have hp : HidP cm Z O' b ↔ HidP cm Z O b := by
    unfold HidP
    rw [e b]
  by_cases hb : HidP cm Z O b
  · show hid _ _ b = hid _ _ b
    unfold hid
    rw [if_pos hb, if_pos (hp.mpr hb)]
  · show hid _ _ b = hid _ _ b
    unfold hid
    rw [if_neg hb, if_neg (fun z => hb (hp.mp z)), upd_ne (fun z : b = a => hb (by rw [z]; exact h))]
theorem ow_set {i : Nat} {d d' : D} (h : ρ[i]? = some (.own d)) (b : Addr) : Ow σ (ρ.set i (.own d')) b ↔ Ow σ ρ b := by
  have hi : i < ρ.length := (List.getElem?_eq_some_iff.mp h).1
  constructor
  · rintro ⟨j, e, h1, h2⟩
    rcases set_get h1 with ⟨rfl, _, _⟩ | ⟨n, z⟩
    · exact ⟨j, d, h, h2⟩
    · exact ⟨j, e, z, h2⟩
  · rintro ⟨j, e, h1, h2⟩
    by_cases hj : j = i
    · subst hj
      exact ⟨j, d', by rw [List.getElem?_set_self hi], h2⟩
    · exact ⟨j, e, by rw [List.getElem?_set_ne (Ne.symm hj)]; exact h1, h2⟩
/-- the owned thing of slot i changes -/
theorem Rel.mutOwn {i : Nat} {a : Addr} {d d' : D} {o : HO} (r : Rel K T B Z cm σ H ρ s) (h : ρ[i]? = some (.own d)) (ha : σ[i]? = some (some (.ref a))) (q : OwnRep K T cm (GV cm Z (Ow σ ρ) H) (upd H a o) a d') :
    Rel K T B Z cm σ (upd H a o) (ρ.set i (.own d')) s := by
  obtain ⟨a', h1, h2, h3, h4, h5⟩ := r.own i d h
  have ea : a' = a := by rw [h1] at ha; cases ha; rfl
  subst ea
  have hO : Ow σ ρ a' := ⟨i, d, h, h1⟩
  have hi : i < ρ.length := (List.getElem?_eq_some_iff.mp h).1
  have eG : GV cm Z (Ow σ (ρ.set i (.own d'))) (upd H a' o) = GV cm Z (Ow σ ρ) H := GV_mut (.inr (.inr hO)) (ow_set h)
  have keep : ∀ b, b ≠ a' → ∀ u, H b = some u → upd H a' o b = some u := fun b n u e => by rw [upd_ne n]; exact e
  have there : ∀ b, H b ≠ none → upd H a' o b ≠ none := fun b e => by
    by_cases hb : b = a'
    · rw [hb, upd_same]; intro z; cases z
    · rw [upd_ne hb]; exact e
  refine ⟨by rw [List.length_set]; exact r.len, fun j e z => ?_, fun j e z => ?_, fun j k e f b q1 q2 q3 q4 => ?_, ⟨r.cells.len, r.cells.nd, fun n b e e1 e2 => ?_, fun b m => there b (r.cells.there b m), fun b m => there b (r.cells.zok b m), r.cells.nosf⟩, fun b u e => ?_⟩
  · rw [eG]
    rcases set_get z with ⟨_, _, z⟩ | ⟨n, z⟩
    · cases z
    · exact r.val j e z
  · rw [eG]
    rcases set_get z with ⟨rfl, _, z⟩ | ⟨n, z⟩
    · cases z
      exact ⟨a', h1, q, h3, h4, h5⟩
    · obtain ⟨b, k1, k2, k3⟩ := r.own j e z
      have nb : b ≠ a' := fun e' => n (r.apart j i e d a' z h (e' ▸ k1) h1)
      exact ⟨b, k1, k2.ext (.refl _) (Sub.refl _) (keep b nb), k3⟩
  · have key : ∀ (j : Nat) (e : D), (ρ.set i (.own d'))[j]? = some (.own e) → ∃ e', ρ[j]? = some (.own e') := fun j e z => by
      rcases set_get z with ⟨rfl, _, z⟩ | ⟨n, z⟩
      · exact ⟨d, h⟩
      · exact ⟨e, z⟩
    obtain ⟨_, z1⟩ := key j e q1
    obtain ⟨_, z2⟩ := key k f q2
    exact r.apart j k _ _ b z1 z2 q3 q4
  · rw [eG]
    have nb : b ≠ a' := fun e' => h3 (e' ▸ List.mem_of_getElem? e1)
    exact (r.cells.at_ n b e e1 e2).ext (.refl _) (Sub.refl _) (keep b nb)
  · obtain ⟨k1, k2⟩ := r.base b u e
    refine ⟨keep b (fun z => ?_) u k1, k2⟩
    rw [z, h5] at e
    cases e
/-- a cell changes -/
theorem Rel.mutCell {n : Nat} {a : Addr} {d' : D} {o : HO} (r : Rel K T B Z cm σ H ρ s) (h : cm[n]? = some a) (q : OwnRep K T cm (GV cm Z (Ow σ ρ) H) (upd H a o) a d') (hsf : d'.isSf = false := by rfl) :
    Rel K T B Z cm σ (upd H a o) ρ (s.set n d') := by
  have hm : a ∈ cm := List.mem_of_getElem? h
  have hn : n < cm.length := (List.getElem?_eq_some_iff.mp h).1
  have hns : n < s.length := by rw [← r.cells.len]; exact hn
  have eG : GV cm Z (Ow σ ρ) (upd H a o) = GV cm Z (Ow σ ρ) H := GV_mut (.inl hm) fun _ => Iff.rfl
  have keep : ∀ b, b ≠ a → ∀ u, H b = some u → upd H a o b = some u := fun b n u e => by rw [upd_ne n]; exact e
  have there : ∀ b, H b ≠ none → upd H a o b ≠ none := fun b e => by
    by_cases hb : b = a
    · rw [hb, upd_same]; intro z; cases z
    · rw [upd_ne hb]; exact e
  refine ⟨r.len, fun j e z => ?_, fun j e z => ?_, r.apart, ⟨by rw [List.length_set]; exact r.cells.len, r.cells.nd, fun k b e e1 e2 => ?_, fun b m => there b (r.cells.there b m), fun b m => there b (r.cells.zok b m), fun d hd => (List.mem_or_eq_of_mem_set hd).elim (r.cells.nosf d) fun e => by rw [e]; exact hsf⟩, fun b u e => ?_⟩
  · rw [eG]; exact r.val j e z
  · rw [eG]
    obtain ⟨b, k1, k2, k3, k4⟩ := r.own j e z
    exact ⟨b, k1, k2.ext (.refl _) (Sub.refl _) (keep b fun e' => k3 (e' ▸ hm)), k3, k4⟩
  · rw [eG]
    rcases set_get e2 with ⟨rfl, _, z⟩ | ⟨nk, z⟩
    · cases z
      have eb : b = a := by rw [e1] at h; cases h; rfl
      subst eb
      exact q
    · have nb : b ≠ a := fun e' => nk (by
        subst e'
        obtain ⟨l1, g1⟩ := List.getElem?_eq_some_iff.mp e1
        obtain ⟨l2, g2⟩ := List.getElem?_eq_some_iff.mp h
        exact (List.getElem_inj r.cells.nd).mp (g1.trans g2.symm))
      exact (r.cells.at_ k b e e1 z).ext (.refl _) (Sub.refl _) (keep b nb)
  · obtain ⟨k1, k2⟩ := r.base b u e
    exact ⟨keep b (fun z => k2 (z ▸ hm)) u k1, k2⟩
/-- a new list becomes a cell -/
theorem Rel.newCell {F : Fm} {v : V} {d : D} {cm0 : List Addr} {H0 : Hp} {s0 : S} (r0 : FRel K T F cm0 H0 s0) (z : AF K T F H0 cm H s v d) :
    ∃ p, v = .ref p ∧ Rel K T F.B F.Z (cm ++ [p]) F.σ H F.ρ (s ++ [d]) := by
  obtain ⟨p, ds, xs, rfl, rfl, hp, hc, r, hx, q⟩ := z
  have nZ : ¬ F.Z p := fun z => r0.cells.zok p z hp
  have sub : Sub (GV cm (fun a => F.Z a ∨ a = p) F.O H) (GV (cm ++ [p]) F.Z F.O H) := hid_sub fun a u n e => ⟨fun z => by
    rcases z with z | z | z
    · rcases List.mem_append.mp z with z | z
      · exact n (.inl z)
      · exact n (.inr (.inl (.inr (List.mem_singleton.mp z))))
    · exact n (.inr (.inl (.inl z)))
    · exact n (.inr (.inr z)), e⟩
  have pre : Pre cm (cm ++ [p]) := ⟨[p], rfl⟩
  refine ⟨p, rfl, r.len, fun j e h => ?_, fun j e h => ?_, r.apart, ⟨by rw [List.length_append, List.length_append, r.cells.len]; rfl, ?_, fun n a d e1 e2 => ?_, fun a m => ?_, fun a m => r.cells.zok a (.inl m), fun d hd => (List.mem_append.mp hd).elim (r.cells.nosf d) fun e => by rw [List.mem_singleton.mp e]; rfl⟩, fun a o e => ?_⟩
  · obtain ⟨w, h1, h2⟩ := r.val j e h
    exact ⟨w, h1, Rep.mono pre sub _ _ h2⟩
  · obtain ⟨a, h1, h2, h3, h4, h5⟩ := r.own j e h
    refine ⟨a, h1, h2.ext pre sub fun o z => z, fun z => ?_, fun q => h4 (.inl q), h5⟩
    rcases List.mem_append.mp z with z | z
    · exact h3 z
    · exact h4 (.inr (List.mem_singleton.mp z))
  · exact List.nodup_append.mpr ⟨r.cells.nd, by simp, fun a h1 b h2 e => hc (by rw [← List.mem_singleton.mp h2, ← e]; exact h1)⟩
  · by_cases hn : n < cm.length
    · rw [List.getElem?_append_left hn] at e1
      rw [List.getElem?_append_left (by rw [← r.cells.len]; exact hn)] at e2
      exact (r.cells.at_ n a d e1 e2).ext pre sub fun o z => z
    · have hn' : cm.length ≤ n := by omega
      rw [List.getElem?_append_right hn'] at e1
      rw [List.getElem?_append_right (by rw [← r.cells.len]; exact hn')] at e2
      have e0 : n - cm.length = 0 := by
        have := (List.getElem?_eq_some_iff.mp e1).1
        simp at this
        omega
      have e0' : n - s.length = 0 := by rw [← r.cells.len]; exact e0
      rw [e0] at e1
      rw [e0'] at e2
      cases e1
      cases e2
      exact ⟨xs, hx, Reps.mono pre sub _ _ q⟩
  · rcases List.mem_append.mp m with m | m
    · exact r.cells.there a m
    · rw [List.mem_singleton.mp m, hx]; intro z; cases z
  · obtain ⟨k1, k2⟩ := r.base a o e
    refine ⟨k1, fun z => ?_⟩
    rcases List.mem_append.mp z with z | z
    · exact k2 z
    · rw [List.mem_singleton.mp z] at e
      have := (r0.base p o e).1
      rw [hp] at this
      cases this
end
end Tv

/-! Tv7: statements' readings and rules -/
namespace Tv
open PySem PySem.Spec PyProof.Rows L2

section
variable (K : PySem.W.Frag) (T : Tb)
def PostS (B : Hp) (Z : Addr → Prop) (cm0 : List Addr) (W : WX) (r : SR) (D : Ends) : Prop := match r with
  | .nx ρ s => ∀ σ H cm, Pre cm0 cm → Rel K T B Z cm σ H ρ s → D.nx σ H
  | .bk ρ s => ∀ σ H cm, Pre cm0 cm → Rel K T B Z cm σ H ρ s → D.bk σ H
  | .ct ρ s => ∀ σ H cm, Pre cm0 cm → Rel K T B Z cm σ H ρ s → D.ct σ H
  | .rt d s => ∀ v σ H cm ρ, Pre cm0 cm → Rel K T B Z cm σ H ρ s → Rep K T cm (GV cm Z (Ow σ ρ) H) v d → D.rt v H
  | .er c ds ρ s => ∀ cls dx σ H cm, Pre cm0 cm → Rel K T B Z cm σ H ρ s → ErrRep K T cm (GV cm Z (Ow σ ρ) H) H cls dx c ds → W cls dx σ H
  | .no => False
def tS (W : WX) (m : SM) : TS := fun D σ H => ∃ B Z cm ρ s, Rel K T B Z cm σ H ρ s ∧ PostS K T B Z cm W (m ρ s) D
end
abbrev QSt (X : Cx) (T : Tb) (W : WX) (st : Stmt) (m : SM) : Prop := PS X st (tS X.K T W m)
abbrev QSs (X : Cx) (T : Tb) (W : WX) (st : List Stmt) (m : SM) : Prop := PSs X st (tS X.K T W m)
theorem _root_.L2.PS.conv {X : Cx} {e : Stmt} {t t' : TS} (h : PS X e t) (c : ∀ D σ H, t' D σ H → t D σ H) : PS X e t' := ⟨fun pins s σ H D I w => h.run pins s σ H D I (c D σ H w)⟩
theorem _root_.L2.PSs.conv {X : Cx} {e : List Stmt} {t t' : TS} (h : PSs X e t) (c : ∀ D σ H, t' D σ H → t D σ H) : PSs X e t' := ⟨fun pins s σ H D I w => h.run pins s σ H D I (c D σ H w)⟩
section
variable {K : PySem.W.Frag} {T : Tb} {B : Hp} {Z : Addr → Prop} {cm cm1 : List Addr} {W : WX} {r : SR} {Ed : Ends}
theorem PostS.later (h : PostS K T B Z cm W r Ed) (p : Pre cm cm1) : PostS K T B Z cm1 W r Ed := by
  cases r with
  | nx ρ s => exact fun σ H c q => h σ H c (p.trans q)
  | bk ρ s => exact fun σ H c q => h σ H c (p.trans q)
  | ct ρ s => exact fun σ H c q => h σ H c (p.trans q)
  | rt d s => exact fun v σ H c ρ q => h v σ H c ρ (p.trans q)
  | er c ds ρ s => exact fun cls dx σ H c q => h cls dx σ H c (p.trans q)
  | no => exact h

/-! ### what they reckon -/
def mNext : SM := fun ρ s => .nx ρ s
def mSeq (a b : SM) : SM := fun ρ s => match a ρ s with
  | .nx ρ' s' => b ρ' s'
  | .rt d s' => .rt d s'
  | .bk ρ' s' => .bk ρ' s'
  | .ct ρ' s' => .ct ρ' s'
  | .er c ds ρ' s' => .er c ds ρ' s'
  | .no => .no
/-- an expression, then what is done with its value -/
def mE (a : EM) (k : D → List SD → S → SR) : SM := fun ρ s => match a ρ s with
  | .ok d s' => k d ρ s'
  | .er c ds s' => .er c ds ρ s'
  | .no => .no
def mSet (i : Nat) (a : EM) : SM := mE a fun d ρ s => .nx (ρ.set i (.v d)) s
def mSetO (i : Nat) (a : EM) : SM := mE a fun d ρ s => if i < ρ.length then .nx (ρ.set i (.own d)) s else .no
def mDrop (a : EM) : SM := mE a fun _ ρ s => .nx ρ s
def mRet (a : EM) : SM := mE a fun d _ s => .rt d s
def mRetN : SM := fun _ s => .rt .non s
def mBrk : SM := fun ρ s => .bk ρ s
def mCnt : SM := fun ρ s => .ct ρ s
def mNever : SM := fun _ _ => .no
def mIfS (c : TM) (a b : SM) : SM := fun ρ s => match c ρ s with
  | .ok true s' => a ρ s'
  | .ok false s' => b ρ s'
  | .er k ds s' => .er k ds ρ s'
  | .no => .no
def mFrz (i : Nat) (a : SM) : SM := fun ρ s => a (frz i ρ) s
end

section
variable {X : Cx} {T : Tb} {W : WX} {st : Stmt} {rest : List Stmt} {a b : SM} {e c : Expr} {m : EM} {tc : TM} {pos : Pos}
/-- from an expression's reading to what stands behind it -/
theorem tE_of {α β : Type} {K : PySem.W.Frag} {B : Hp} {Z : Addr → Prop} {cm : List Addr} {σ : L2.St} {H : Hp} {ρ : List SD} {A : AK α β} {Q : β → Hp → Prop} {x : R α}
    (ok : ∀ d s', x = .ok d s' → ∀ b H' cm', Ext cm H cm' H' → Rel K T B Z cm' σ H' ρ s' → A ⟨B, Z, σ, ρ⟩ H cm' H' s' b d → Q b H')
    (er : ∀ c ds s', x = .er c ds s' → ∀ cls dx H' cm', Ext cm H cm' H' → Rel K T B Z cm' σ H' ρ s' → ErrRep K T cm' (GV cm' Z (Ow σ ρ) H') H' cls dx c ds → W cls dx σ H')
    (no : x = .no → False) : Post K T ⟨B, Z, σ, ρ⟩ cm H W A x Q := by
  cases x with
  | ok d s' => exact ok d s' rfl
  | er c ds s' => exact er c ds s' rfl
  | no => exact no rfl
theorem mE_of {K : PySem.W.Frag} {A : AK D V} {k : D → List SD → S → SR} {D0 : Ends} {σ : L2.St} {H : Hp} {Q : VK} (h : tS K T W (mE m k) D0 σ H)
    (q : ∀ B Z cm0 s0 cm H' ρ d s v, Pre cm0 cm → FRel K T ⟨B, Z, σ, ρ⟩ cm0 H s0 → FRel K T ⟨B, Z, σ, ρ⟩ cm H' s → A ⟨B, Z, σ, ρ⟩ H cm H' s v d → PostS K T B Z cm W (k d ρ s) D0 → Q v H') : tP K T W A m σ H Q := by
  obtain ⟨B, Z, cm, ρ, s, r, p⟩ := h
  refine ⟨B, Z, cm, ρ, s, r, tE_of (fun d s' e b H' cm' ex r' z => ?_) (fun c ds s' e cls dx H' cm' ex r' z => ?_) (fun e => ?_)⟩
  · unfold mE at p
    rw [e] at p
    exact q B Z cm s cm' H' ρ d s' b ex.pre r r' z (p.later ex.pre)
  · unfold mE at p
    rw [e] at p
    exact p cls dx σ H' cm' ex.pre r' z
  · unfold mE at p
    rw [e] at p
    exact p
theorem qss_nil : QSs X T W [] mNext := PSs.conv pss_nil fun D σ H h => by
  obtain ⟨B, Z, cm, ρ, s, r, p⟩ := h
  exact p σ H cm (.refl _) r
theorem qss_cons (h1 : QSt X T W st a) (h2 : QSs X T W rest b) : QSs X T W (st :: rest) (mSeq a b) := PSs.conv (pss_cons h1 h2) fun D σ H h => by
  obtain ⟨B, Z, cm, ρ, s, r, p⟩ := h
  refine ⟨B, Z, cm, ρ, s, r, ?_⟩
  unfold mSeq at p
  cases e : a ρ s with
  | nx ρ' s' => rw [e] at p; exact fun σ' H' cm' q r' => ⟨B, Z, cm', ρ', s', r', p.later q⟩
  | rt d s' => rw [e] at p; exact p
  | bk ρ' s' => rw [e] at p; exact p
  | ct ρ' s' => rw [e] at p; exact p
  | er c ds ρ' s' => rw [e] at p; exact p
  | no => rw [e] at p; exact p
theorem qss_one (h1 : QSt X T W st a) : QSs X T W [st] a := pss_one h1
theorem q_pass : QSt X T W (.Pass pos) mNext := PS.conv ps_pass fun D σ H h => by
  obtain ⟨B, Z, cm, ρ, s, r, p⟩ := h
  exact p σ H cm (.refl _) r
theorem q_break : QSt X T W (.Break pos) mBrk := PS.conv ps_break fun D σ H h => by
  obtain ⟨B, Z, cm, ρ, s, r, p⟩ := h
  exact p σ H cm (.refl _) r
theorem q_continue : QSt X T W (.Continue pos) mCnt := PS.conv ps_continue fun D σ H h => by
  obtain ⟨B, Z, cm, ρ, s, r, p⟩ := h
  exact p σ H cm (.refl _) r
theorem q_never : QSt X T W st mNever := PS.conv ps_never fun D σ H h => by
  obtain ⟨B, Z, cm, ρ, s, r, p⟩ := h
  exact p
theorem qs_frz {i : Nat} (h : QSt X T W st a) : QSt X T W st (mFrz i a) := PS.conv h fun D σ H h => by
  obtain ⟨B, Z, cm, ρ, s, r, p⟩ := h
  exact ⟨B, Z, cm, _, s, r.frz, p⟩
theorem q_ifS {sa sb : List Stmt} (hc : QT X T W c tc) (ha : QSs X T W sa a) (hb : QSs X T W sb b) : QSt X T W (.If c sa sb pos) (mIfS tc a b) := PS.conv (ps_if hc ha hb) fun D σ H h => by
  obtain ⟨B, Z, cm, ρ, s, r, p⟩ := h
  refine ⟨B, Z, cm, ρ, s, r, tE_of (fun d s' e b H' cm' ex r' z => ?_) (fun c ds s' e cls dx H' cm' ex r' z => ?_) (fun e => ?_)⟩
  · unfold mIfS at p
    rw [e] at p
    cases z
    cases d with
    | true => rw [if_pos rfl]; exact ⟨B, Z, cm', ρ, s', r', p.later ex.pre⟩
    | false => rw [if_neg Bool.false_ne_true]; exact ⟨B, Z, cm', ρ, s', r', p.later ex.pre⟩
  · unfold mIfS at p
    rw [e] at p
    exact p cls dx σ H' cm' ex.pre r' z
  · unfold mIfS at p
    rw [e] at p
    exact p
theorem q_expr (he : QE X T W e m) (hs : swapsWith e none pos.line X.env = pure false := by rfl) : QSt X T W (.Expr e pos) (mDrop m) := PS.conv (ps_expr he hs) fun D σ H h =>
  mE_of (A := AR X.K T) h fun B Z cm0 s0 cm H' ρ d s v pre r0 r z p => p σ H' cm (.refl _) r
theorem q_doc {x j p1} : QSt X T W (.Expr (.Constant (.str x) j p1) pos) mNext := PS.conv ps_doc fun D σ H h => by
  obtain ⟨B, Z, cm, ρ, s, r, p⟩ := h
  exact p σ H cm (.refl _) r
theorem q_ret (he : QE X T W e m) : QSt X T W (.Return (some e) pos) (mRet m) := PS.conv (ps_ret he) fun D σ H h =>
  mE_of (A := AR X.K T) h fun B Z cm0 s0 cm H' ρ d s v pre r0 r z p => p v σ H' cm ρ (.refl _) r z
theorem q_retN : QSt X T W (.Return none pos) mRetN := PS.conv ps_retN fun D σ H h => by
  obtain ⟨B, Z, cm, ρ, s, r, p⟩ := h
  exact p .non σ H cm ρ (.refl _) r .non
theorem q_set {i : Nat} {x : Str} {pos' : Pos} (hN : X.N.Nodup) (hi : X.N[i]? = some x := by rfl) (hx : Loc X.env.scope x := by first | exact Or.inl rfl | exact Or.inr rfl) (he : QE X T W e m) (hs : swapsWith e (some (.Name x pos')) pos.line X.env = pure false := by rfl) (hf : X.fn x = true ∨ X.env.scope.names.lookup x = some .local := by first | exact .inl rfl | exact .inr rfl | assumption) :
    QSt X T W (.Assign [.Name x pos'] e pos) (mSet i m) := PS.conv (ps_set hN hi hx he hs hf) fun D σ H h =>
  mE_of (A := AR X.K T) h fun B Z cm0 s0 cm H' ρ d s v pre r0 r z p => p (σ.set i (some v)) H' cm (.refl _) (Rel.set r z)
theorem q_setO {i : Nat} {x : Str} {pos' : Pos} (hN : X.N.Nodup) (hi : X.N[i]? = some x := by rfl) (hx : Loc X.env.scope x := by first | exact Or.inl rfl | exact Or.inr rfl) (he : QF X T W e m) (hs : swapsWith e (some (.Name x pos')) pos.line X.env = pure false := by rfl) (hf : X.fn x = true ∨ X.env.scope.names.lookup x = some .local := by first | exact .inl rfl | exact .inr rfl | assumption) :
    QSt X T W (.Assign [.Name x pos'] e pos) (mSetO i m) := PS.conv (ps_set hN hi hx he hs hf) fun D σ H h =>
  mE_of (A := AF X.K T) h fun B Z cm0 s0 cm H' ρ d s v pre r0 r z p => by
    split at p
    · rename_i hl
      exact p (σ.set i (some v)) H' cm (.refl _) (Rel.setOwn r0 hl z)
    · exact p.elim

/-! ### while -/
def loopW (c : TM) (b : SM) : Nat → SM
  | 0 => fun _ _ => .no
  | n + 1 => fun ρ s => match c ρ s with
    | .ok true s1 => match b ρ s1 with
      | .nx ρ' s' => loopW c b n ρ' s'
      | .ct ρ' s' => loopW c b n ρ' s'
      | .bk ρ' s' => .nx ρ' s'
      | .rt d s' => .rt d s'
      | .er k ds ρ' s' => .er k ds ρ' s'
      | .no => .no
    | .ok false s1 => .nx ρ s1
    | .er k ds s1 => .er k ds ρ s1
    | .no => .no
def mWhile (fuel : List SD → S → Nat) (c : TM) (b : SM) : SM := fun ρ s => loopW c b (fuel ρ s) ρ s
theorem q_while {fuel : List SD → S → Nat} {body : List Stmt} (hp : PassesOwn (model X.prog X.w) X.A X.env X.xe) (hc : QT X T W c tc) (hb : QSs X T W body b) : QSt X T W (.While c body [] pos) (mWhile fuel tc b) := PS.conv (ps_while hp hc hb) fun D σ H h => by
  obtain ⟨B, Z, cm0, ρ, s, r, p⟩ := h
  refine ⟨fun n σ H => ∃ cm ρ s, Pre cm0 cm ∧ Rel X.K T B Z cm σ H ρ s ∧ PostS X.K T B Z cm W (loopW tc b n ρ s) D, ⟨fuel ρ s, cm0, ρ, s, .refl _, r, p⟩, ?_⟩
  rintro n σ H ⟨cm, ρ, s, pre, r, p⟩
  cases n with
  | zero => exact p.elim
  | succ n =>
    refine ⟨B, Z, cm, ρ, s, r, tE_of (fun d s' e bb H' cm' ex r' z => ?_) (fun c ds s' e cls dx H' cm' ex r' z => ?_) (fun e => ?_)⟩
    · unfold loopW at p
      rw [e] at p
      cases z
      cases d with
      | false =>
        rw [if_neg Bool.false_ne_true]
        exact p σ H' cm' ex.pre r'
      | true =>
        rw [if_pos rfl]
        dsimp only at p
        refine ⟨_, fun σ' H' q => ⟨n, Nat.lt_succ_self n, q⟩, B, Z, cm', ρ, s', r', ?_⟩
        cases eb : b ρ s' with
        | nx ρ2 s2 => rw [eb] at p; exact fun σ' H' c q r2 => ⟨c, ρ2, s2, pre.trans (ex.pre.trans q), r2, p.later (ex.pre.trans q)⟩
        | ct ρ2 s2 => rw [eb] at p; exact fun σ' H' c q r2 => ⟨c, ρ2, s2, pre.trans (ex.pre.trans q), r2, p.later (ex.pre.trans q)⟩
        | bk ρ2 s2 => rw [eb] at p; exact fun σ' H' c q r2 => p σ' H' c (ex.pre.trans q) r2
        | rt d2 s2 => rw [eb] at p; exact fun v σ' H' c ρ' q r2 z => p v σ' H' c ρ' (ex.pre.trans q) r2 z
        | er k2 ds2 ρ2 s2 => rw [eb] at p; exact fun cls dx σ' H' c q r2 z => p cls dx σ' H' c (ex.pre.trans q) r2 z
        | no => rw [eb] at p; exact p
    · unfold loopW at p
      rw [e] at p
      exact p cls dx σ H' cm' ex.pre r' z
    · unfold loopW at p
      rw [e] at p
      exact p
end
end Tv

/-! TvW: enumerate and zip over lists and tuples in any mix, as walks of the layer -/
namespace TvW
open PySem PySem.Spec PyProof.Rows L2

/-- b: a tuple | a list -/
def SqB (K : PySem.W.Frag) (b : Bool) (H : Hp) (a : Addr) (xs : List V) : Prop := match b with | true => SqT K H a xs | false => SqL K H a xs
def IterB (b : Bool) (h : Heap) (it a : Addr) (i : Nat) : Prop := match b with | true => h.IsTupleIter it a i | false => h.IsListIter it a i
def IsB (b : Bool) (h : Heap) (a : Addr) (its : Array Value) : Prop := match b with | true => h.IsTuple a its | false => h.IsList a its
def objB (b : Bool) (a : Addr) : Obj := match b with
  | true => { cls := .type "tuple_iterator", data := .fields #[.ref a, .int 0 0] }
  | false => { cls := .type "list_iterator", data := .fields #[.ref a, .int 0 0] }
theorem drawsB {prog : Program} {w : World} {A : Around} (hh : A.handled = none) (b : Bool) (it l : Addr) (hne : l ≠ it) (items : Array Value) :
    Draws prog w A it [it, l] items.size (fun i v => items[i]? = some v) (fun i h => IterB b h it l i ∧ IsB b h l items) := by
  cases b with
  | true => exact Draws.tuple hh it l hne items
  | false => exact Draws.list hh it l hne items
theorem beginsB (b : Bool) (a : Addr) (items : Array Value) : Begins (.ref a) (objB b a) (fun h => IsB b h a items) := by
  cases b with
  | true => exact begins_tuple a items
  | false => exact begins_list a items
theorem IterB.new {b : Bool} {h : Heap} {it a : Addr} (e : h.get? it = some (objB b a)) : IterB b h it a 0 := by
  cases b with
  | true => exact ⟨_, e, rfl, rfl⟩
  | false => exact ⟨_, e, rfl, rfl⟩
theorem IterB.obj {b : Bool} {h : Heap} {it a : Addr} {i : Nat} (e : IterB b h it a i) : ∃ o vs T, h.get? it = some o ∧ o.data = .fields vs ∧ o.cls = .type T ∧ T ≠ "list" ∧ T ≠ "tuple" := by
  cases b with
  | true =>
    obtain ⟨o, h1, h2, h3⟩ := e
    exact ⟨o, _, _, h1, h3, h2, by decide, by decide⟩
  | false =>
    obtain ⟨o, h1, h2, h3⟩ := e
    exact ⟨o, _, _, h1, h3, h2, by decide, by decide⟩
theorem IterB.keep {b : Bool} {h h' : Heap} {it a : Addr} {i : Nat} (e : IterB b h it a i) (k : ∀ o, h.get? it = some o → h'.get? it = some o) : IterB b h' it a i := by
  cases b with
  | true =>
    obtain ⟨o, h1, h2, h3⟩ := e
    exact ⟨o, k _ h1, h2, h3⟩
  | false =>
    obtain ⟨o, h1, h2, h3⟩ := e
    exact ⟨o, k _ h1, h2, h3⟩
theorem IsB.obj {b : Bool} {h : Heap} {a : Addr} {its : Array Value} (e : IsB b h a its) : ∃ o n, h.get? a = some o ∧ o.data = .seq its n := by
  cases b with
  | true =>
    obtain ⟨o, h1, h2, n, h3⟩ := e
    exact ⟨o, n, h1, h3⟩
  | false =>
    obtain ⟨o, h1, h2, n, h3⟩ := e
    exact ⟨o, n, h1, h3⟩
theorem ne_fs {h : Heap} {a b : Addr} {o o' : Obj} {vs : Array Value} {its : Array Value} {n : Nat} (h1 : h.get? a = some o) (d1 : o.data = .fields vs) (h2 : h.get? b = some o') (d2 : o'.data = .seq its n) : a ≠ b := fun e => by
  rw [e, h2] at h1
  cases h1
  rw [d2] at d1
  cases d1
section
variable {X : Cx} {pins : List (Addr × Obj)} {σ : L2.St} {H : Hp} {s : Shared}
theorem inv_B {b : Bool} {a : Addr} {xs : List V} (I : Inv X pins σ H s) (h : SqB X.K b H a xs) : ∃ its : List Value, Vals xs its ∧ IsB b s.heap a its.toArray ∧ xs.length = its.length := by
  cases b with
  | true =>
    obtain ⟨its, r, t, _⟩ := I.tuple h
    exact ⟨its, r, t, r.length⟩
  | false =>
    obtain ⟨its, r, t, _⟩ := I.list h
    exact ⟨its, r, t.isList, r.length⟩
theorem inv_B_inj {b : Bool} {a : Addr} {xs ys : List V} (I : Inv X pins σ H s) (h : SqB X.K b H a xs) (h' : SqB X.K b H a ys) : xs = ys := by
  cases b with
  | true => exact I.tuple_inj h h'
  | false => exact I.list_inj h h'
end

/-! ### enumerate -/
def IteB (K : PySem.W.Frag) (b : Bool) (a : Addr) : It :=
  ⟨fun i H => ∃ (xs : List V) (x : V), SqB K b H a xs ∧ xs[i]? = some x, fun i H v H' => ∃ T x, v = .ref T ∧ H T = none ∧ H' = upd H T (.tup [.int (i : Nat), x]) ∧ ∀ xs, SqB K b H a xs → xs[i]? = some x, fun i H => ∃ xs : List V, SqB K b H a xs ∧ xs.length = i⟩
theorem turn_enumB {P : Program} {w : World} {K : PySem.W.Frag} {elts : List Expr} {kk : Nat} {tpos : Pos} (b : Bool) (a e it : Addr) :
    Turn P w K (.Tuple elts kk tpos) (IteB K b a) [e, it] e (fun i h => (∃ old, IsEnum h e it ((i : Nat) : Int) old) ∧ IterB b h it a i ∧ e ≠ it) where
  mem := by simp
  obj := fun i h st c hc => by
    obtain ⟨⟨old, he⟩, hi, _⟩ := st
    obtain ⟨o, vs, T, h1, h2, h3⟩ := hi.obj
    have e' : c = e ∨ c = it := by simpa using hc
    rcases e' with z | z
    · rw [z]; exact ⟨_, he, fun v q => nomatch q⟩
    · rw [z]; exact ⟨o, h1, fun v q => by rw [h2] at q; cases q⟩
  keep := fun i h h' st k => let ⟨⟨old, he⟩, hi, hne⟩ := st; ⟨⟨old, k e (by simp) _ he⟩, hi.keep fun o q => k it (by simp) o q, hne⟩
  item := by
    intro X hP hw hK hc i pins s σ H E I hf st hg
    subst hP hw hK
    obtain ⟨⟨old, he⟩, hit, hne⟩ := st
    obtain ⟨xs, x, hq, hx⟩ := hg
    obtain ⟨its, rv, p, hlen⟩ := inv_B I hq
    obtain ⟨u, hu, ru⟩ := rv.get hx
    obtain ⟨ol, nl, gl, dl⟩ := p.obj
    obtain ⟨oi, vsi, Ti, gi, di, _⟩ := hit.obj
    have hal : a ≠ it := (ne_fs gi di gl dl).symm
    have hea : e ≠ a := ne_fs he rfl gl dl
    have hh : X.A.in1.handled = none := I.ok.hd hc
    have W := WalksT.enumerateD (drawsB (prog := X.prog) (w := X.w) hh b it a hal its.toArray) e hne (by simp [hne, hea]) (by simp)
    have hi : i < its.toArray.size := by
      rw [List.size_toArray, ← hlen]
      exact (List.getElem?_eq_some_iff.mp hx).1
    refine W.item i s _ _ hi ⟨⟨old, he⟩, hit, p⟩ fun T vals h' tk hP hT hTup hMid hk => ?_
    refine ⟨_, rfl, W.go elts kk tpos i T _ _ _ hMid fun h'' hSt hk2 => ?_⟩
    obtain ⟨t, x', hx', ev⟩ := hP
    have exx : x' = u := by
      have h2 : its.toArray[i]? = some u := by simpa using hu
      rw [h2] at hx'
      exact (Option.some.inj hx').symm
    subst exx
    have ap := W.apart i T h' hMid
    obtain ⟨oT, gT, cT, nT, dT⟩ := hTup
    have gT2 := hk2 T oT ap gT
    have keepAll : ∀ c o, c ∉ [e, it] → s.heap.get? c = some o → h''.get? c = some o := fun c o hc q => hk2 c o hc (hk c o hc q)
    have new : ObjOk X.prog X.w (upd H T (.tup [.int (i : Nat), x])) h'' T (.tup [.int (i : Nat), x]) :=
      ⟨by show 2 ≤ sizeLine; decide, [.int i t, x'], .cons ⟨_, rfl⟩ (.cons ru .nil), ⟨oT, gT2, cT, nT, by rw [dT, ev]⟩⟩
    have I1 : Inv X pins σ (upd H T (.tup [.int (i : Nat), x])) { s with heap := h'', toks := tk } := I.turnedNew (ch := [e, it]) keepAll hf hT new
    obtain ⟨⟨old', he'⟩, hit', _⟩ := hSt
    refine ⟨.ref T, _, I1, rfl, ⟨T, x, rfl, I.hok.fresh hT, rfl, fun ys hy => by rw [inv_B_inj I hy hq]; exact hx⟩, ⟨⟨old', he'⟩, hit', hne⟩, fun c hcm => ?_⟩
    have hcl : c < s.heap.objs.size := by
      have e' : c = e ∨ c = it := by simpa using hcm
      rcases e' with z | z
      · rw [z]; exact Heap.lt_size he
      · rw [z]; exact Heap.lt_size gi
    rw [upd_ne (Nat.ne_of_lt (Nat.lt_of_lt_of_le hcl hT))]
    exact (hf c hcm).1
  done := by
    intro X hP hw hK hc i pins s σ H E I hf st hg
    subst hP hw hK
    obtain ⟨⟨old, he⟩, hit, hne⟩ := st
    obtain ⟨xs, hq, hx⟩ := hg
    obtain ⟨its, rv, p, hlen⟩ := inv_B I hq
    obtain ⟨ol, nl, gl, dl⟩ := p.obj
    obtain ⟨oi, vsi, Ti, gi, di, _⟩ := hit.obj
    have hal : a ≠ it := (ne_fs gi di gl dl).symm
    have hea : e ≠ a := ne_fs he rfl gl dl
    have hh : X.A.in1.handled = none := I.ok.hd hc
    have W := WalksT.enumerateD (drawsB (prog := X.prog) (w := X.w) hh b it a hal its.toArray) e hne (by simp [hne, hea]) (by simp)
    have hi : its.toArray.size = i := by
      rw [List.size_toArray, ← hlen]
      exact hx
    subst hi
    exact W.done s _ _ ⟨⟨old, he⟩, hit, p⟩ fun h' tk hk => ⟨rfl, I.turnedL (ch := [e, it]) hk hf⟩
  self := fun A i s Q E st h => let ⟨⟨_, he⟩, _⟩ := st; wpAny_pyIter_enum he h

theorem meets_enumerate_new1 {v : Value} {o : Obj} {H : Heap → Prop} (B : Begins v o H) :
    Meets (Builtin.«enumerate.__new__» ⟨[.type "enumerate", v], []⟩) (fun _ R s => H s.heap ∧
      R (.ok (.ret (.ref (s.heap.push o).objs.size))) { s with heap := (s.heap.push o).push { cls := .type "enumerate", data := .fields #[.none, .bool false, .ref s.heap.objs.size, rawInt 0, .none, .none] } }) :=
  .of_wp fun prog w A R s h => by
    obtain ⟨hp, g, d, tk, os⟩ := s; obtain ⟨h1, h⟩ := h
    have hsub := sub_enumerate
    have q1 : ∀ {A' : Around} {E : Value → Shared → Prop} {Q : Value → Shared → Prop}, Q (.ref hp.objs.size) ⟨hp.push o, g, d, tk, os⟩ → wpAny (model prog w) A' (pyIter v) Q E ⟨hp, g, d, tk, os⟩ :=
      fun q => B.iter prog w _ _ ⟨hp, g, d, tk, os⟩ _ h1 q
    wp_walk using q1
    refine wpAny_stack_any fun st => wpAny_pure ?_
    split
    · rename_i c _ _ _ _ _
      cases (c == Value.type "enumerate")
      · wp_walk using q1
        exact ⟨_, rfl, h⟩
      · wp_walk using q1
        exact ⟨_, rfl, h⟩
    · wp_walk using q1
      exact ⟨_, rfl, h⟩
section
variable {prog : Program} {w : World} {A : Around} {E : Value → Shared → Prop} {s : Shared}
theorem enum_begins1 {v : Value} {o : Obj} {H : Heap → Prop} {Q : Value → Shared → Prop} (B : Begins v o H) (h1 : H s.heap)
    (h : ∀ h', IsEnum h' (s.heap.objs.size + 1) s.heap.objs.size 0 .none → h'.get? s.heap.objs.size = some o → h'.objs.size = s.heap.objs.size + 2 →
      (∀ b o, s.heap.get? b = some o → h'.get? b = some o) → Q (.ref (s.heap.objs.size + 1)) { s with heap := h' }) :
    wpAny (model prog w) A (call (.type "enumerate") [v]) Q E s := by
  refine callType_new F.called_enumerate (by decide) (F.typeCall_enumerate_1 _) (F.newCall_enumerate_1 _) (fun obj => F.args_object_init_2 obj _) F.entry_enumerate_new
    (meets_enumerate_new1 B) ⟨h1, ?_⟩
  have hz : (s.heap.push o).objs.size = s.heap.objs.size + 1 := Heap.size_push ..
  show _ ∧ _
  rw [hz]
  have he : IsEnum ((s.heap.push o).push { cls := .type "enumerate", data := .fields #[.none, .bool false, .ref s.heap.objs.size, rawInt 0, .none, .none] }) (s.heap.objs.size + 1) s.heap.objs.size 0 .none := by
    have := Heap.get?_push_size (s.heap.push o) (o := { cls := .type "enumerate", data := .fields #[.none, .bool false, .ref s.heap.objs.size, rawInt 0, .none, .none] }) rfl
    rw [hz] at this; exact this
  refine ⟨⟨_, he, rfl⟩, h _ he (Heap.get?_push_of_some _ (Heap.get?_push_size _ B.free)) (by rw [Heap.size_push, hz]) fun b o x => Heap.get?_push_of_some _ (Heap.get?_push_of_some _ x)⟩
end
def iEnumB (K : PySem.W.Frag) (ta : TA) : TI := fun σ H R => ta σ H fun vs H1 => ∃ a b xs, vs = [.ref a] ∧ SqB K b H1 a xs ∧ R (IteB K b a) H1
theorem pi_enumB {X : Cx} {e : Expr} {ta : TA} {p pos tpos : Pos} {elts : List Expr} {kk : Nat} (hg : Gl X "enumerate") (hm : X.mg "enumerate" = none) (ha : PA X [e] ta) (hs : starEach [e] X.env = [(false, eval e X.env)] := by rfl) :
    PI X (.Tuple elts kk tpos) (.Call (.Name "enumerate" p) [e] [] pos) (iEnumB X.K ta) := by
  refine ⟨fun pins s σ H R I h => ?_⟩
  refine Call_ (ld_blt I hg hm boot_enumerate (PyProof.Rows.callWith_type1 (thn (ha.run pos pins s σ H _ I h) fun us s1 ⟨vs, H1, I1, r1, q1⟩ => ?_) hs rfl))
  obtain ⟨a, b, xs, ex, hq, q⟩ := q1
  subst ex
  cases r1 with
  | cons r rr =>
    cases rr
    cases r
    obtain ⟨its, rv, p', hz⟩ := inv_B I1 hq
    refine enum_begins1 (beginsB b a its.toArray) p' fun h' he hit hsz hk => wpAny_pyIter_enum he ?_
    have I2 : Inv X pins σ H1 { s1 with heap := h' } := I1.kept (t' := s1.toks) hk
    refine ⟨s1.heap.objs.size + 1, [s1.heap.objs.size + 1, s1.heap.objs.size], _, _, H1, rfl, I2, turn_enumB b a (s1.heap.objs.size + 1) s1.heap.objs.size, ⟨⟨.none, he⟩, IterB.new hit, Nat.succ_ne_self _⟩, fun b hb => ?_, q⟩
    have e' : b = s1.heap.objs.size + 1 ∨ b = s1.heap.objs.size := by simpa using hb
    have hle : s1.heap.objs.size ≤ b := by
      rcases e' with z | z
      · rw [z]; exact Nat.le_add_right _ _
      · rw [z]; exact Nat.le_refl _
    exact I1.fpOk hle (I1.hok.fresh hle)
theorem walk_enumB {K : PySem.W.Frag} {b : Bool} {a : Addr} {xs : List V} : Walk (IteB K b a) xs.length (fun H => SqB K b H a xs) (YPair (fun i => some (.int (i : Nat))) (fun i => xs[i]?)) :=
  ⟨fun i H hi h => ⟨xs, xs[i], h, List.getElem?_eq_getElem hi⟩, fun H h => ⟨xs, h, rfl⟩, fun i H x H' hi h y => by
    obtain ⟨T, v, e1, e2, e3, e4⟩ := y
    exact ⟨T, _, v, e1, e2, e3, rfl, e4 xs h⟩⟩

/-! ### zip -/
def ItzB (K : PySem.W.Frag) (b1 b2 : Bool) (a1 a2 : Addr) : It :=
  ⟨fun i H => ∃ (xs ys : List V) (x y : V), SqB K b1 H a1 xs ∧ SqB K b2 H a2 ys ∧ xs[i]? = some x ∧ ys[i]? = some y,
    fun i H v H' => ∃ T x y, v = .ref T ∧ H T = none ∧ H' = upd H T (.tup [x, y]) ∧ (∀ xs, SqB K b1 H a1 xs → xs[i]? = some x) ∧ ∀ ys, SqB K b2 H a2 ys → ys[i]? = some y,
    fun i H => ∃ xs ys : List V, SqB K b1 H a1 xs ∧ SqB K b2 H a2 ys ∧ i = min xs.length ys.length⟩
structure Ap (z TI TO i1 i2 : Addr) : Prop where
  TIz : TI ≠ z
  TOz : TO ≠ z
  TITO : TI ≠ TO
  TIi1 : TI ≠ i1
  zi1 : z ≠ i1
  Ti1 : TO ≠ i1
  TIi2 : TI ≠ i2
  zi2 : z ≠ i2
  Ti2 : TO ≠ i2
  ii : i1 ≠ i2
theorem zipFacts {X : Cx} {pins : List (Addr × Obj)} {H : Hp} {s : Shared} {b1 b2 : Bool} {a1 a2 z TI TO i1 i2 : Addr} {i : Nat} {its1 its2 : List Value} (D : Ap z TI TO i1 i2) (hf : ∀ c ∈ [z, TI, TO, i1, i2], FpOk X pins H c) (hh : X.A.in1.handled = none)
    (hz : IsZip s.heap z TI TO .none) (h1 : IterB b1 s.heap i1 a1 i) (h2 : IterB b2 s.heap i2 a2 i) (p1 : IsB b1 s.heap a1 its1.toArray) (p2 : IsB b2 s.heap a2 its2.toArray) (nTO1 : TO ≠ a1) (nTO2 : TO ≠ a2) :
    WalksT X.prog X.w X.A z (z :: TI :: TO :: ([i1, a1] ++ [i2, a2])) [z, TO, i1, i2] (min its1.toArray.size its2.toArray.size)
      (fun i vals => ∃ x1 x2, its1.toArray[i]? = some x1 ∧ its2.toArray[i]? = some x2 ∧ vals = #[x1, x2])
      (fun i h => IsZip h z TI TO .none ∧ IsTupOf2 h TI (.ref i1) (.ref i2) ∧ (∃ a1 a2, IsTupOf2 h TO a1 a2) ∧ (IterB b1 h i1 a1 i ∧ IsB b1 h a1 its1.toArray) ∧ (IterB b2 h i2 a2 i ∧ IsB b2 h a2 its2.toArray))
      (fun i T h => IsZip h z TI TO (rawInt T) ∧ IsTupOf2 h TI (.ref i1) (.ref i2) ∧ (∃ a1 a2, IsTupOf2 h TO a1 a2) ∧ (IterB b1 h i1 a1 (i + 1) ∧ IsB b1 h a1 its1.toArray) ∧ (IterB b2 h i2 a2 (i + 1) ∧ IsB b2 h a2 its2.toArray) ∧ T ≠ z ∧ T ≠ TO ∧ T ≠ i1 ∧ T ≠ i2) := by
  obtain ⟨o1, n1, g1, d1⟩ := p1.obj
  obtain ⟨o2, n2, g2, d2⟩ := p2.obj
  obtain ⟨oi, vsi, Ti, gi, di, _⟩ := h1.obj
  obtain ⟨oj, vsj, Tj, gj, dj, _⟩ := h2.obj
  have n11 : i1 ≠ a1 := ne_fs gi di g1 d1
  have n12 : i1 ≠ a2 := ne_fs gi di g2 d2
  have n21 : i2 ≠ a1 := ne_fs gj dj g1 d1
  have n22 : i2 ≠ a2 := ne_fs gj dj g2 d2
  have nz1 : z ≠ a1 := ne_fs hz rfl g1 d1
  have nz2 : z ≠ a2 := ne_fs hz rfl g2 d2
  exact WalksT.zipD2 ⟨D.TIz, D.TOz, D.TITO, D.TIi1, by simp, by simp [D.zi1, nz1], by simp [D.Ti1, nTO1], D.TIi2, by simp, by simp [D.zi2, nz2], by simp [D.Ti2, nTO2], by simp [D.ii, n12], by simp [D.ii.symm, n21]⟩
    (drawsB hh b1 i1 a1 n11.symm its1.toArray) (drawsB hh b2 i2 a2 n22.symm its2.toArray)
/-- a new address of ours is none of the walked ones -/
theorem fp_ne {X : Cx} {pins : List (Addr × Obj)} {σ : L2.St} {H : Hp} {s : Shared} {b : Bool} {a c : Addr} {xs : List V} (I : Inv X pins σ H s) (hf : FpOk X pins H c) (hq : SqB X.K b H a xs) (hx : ∀ o, X.K.lookup c ≠ some o) : c ≠ a := fun e => by
  subst e
  cases b with
  | true =>
    rcases hq with (h | ⟨o, h⟩) | ⟨o, its, n, h, _⟩
    · rw [hf.1] at h; cases h
    · rw [hf.1] at h; cases h
    · exact hx o h
  | false =>
    rcases hq with (h | ⟨o, h⟩) | ⟨o, its, n, h, _⟩
    · rw [hf.1] at h; cases h
    · rw [hf.1] at h; cases h
    · exact hx o h
theorem fp_noK {X : Cx} {pins : List (Addr × Obj)} {σ : L2.St} {H : Hp} {s : Shared} {c : Addr} (I : Inv X pins σ H s) (hf : FpOk X pins H c) : ∀ o, X.K.lookup c ≠ some o := fun o e => by
  have hb := I.ok.mod.kin c o e
  rcases hf.2.2.2.1 with z | z
  · exact I.ok.noex c o hb z
  · exact absurd (Nat.lt_of_lt_of_le (Heap.lt_size hb) (Nat.le_trans I.ok.bsz z)) (Nat.lt_irrefl _)
theorem turn_zipB {P : Program} {w : World} {K : PySem.W.Frag} {elts : List Expr} {kk : Nat} {tpos : Pos} (b1 b2 : Bool) {a1 a2 z TI TO i1 i2 : Addr} (D : Ap z TI TO i1 i2) :
    Turn P w K (.Tuple elts kk tpos) (ItzB K b1 b2 a1 a2) [z, TI, TO, i1, i2] z (fun i h => IsZip h z TI TO .none ∧ IsTupOf2 h TI (.ref i1) (.ref i2) ∧ (∃ x y, IsTupOf2 h TO x y) ∧ IterB b1 h i1 a1 i ∧ IterB b2 h i2 a2 i) where
  mem := by simp
  obj := fun i h st c hc => by
    obtain ⟨hz, hTI, ⟨x, y, hTO⟩, h1, h2⟩ := st
    obtain ⟨oi, vsi, Ti, gi, di, _⟩ := h1.obj
    obtain ⟨oj, vsj, Tj, gj, dj, _⟩ := h2.obj
    have e' : c = z ∨ c = TI ∨ c = TO ∨ c = i1 ∨ c = i2 := by simpa using hc
    rcases e' with q | q | q | q | q
    · rw [q]; exact ⟨_, hz, fun v q => nomatch q⟩
    · rw [q]; exact ⟨_, hTI, fun v q => nomatch q⟩
    · rw [q]; exact ⟨_, hTO, fun v q => nomatch q⟩
    · rw [q]; exact ⟨oi, gi, fun v q => by rw [di] at q; cases q⟩
    · rw [q]; exact ⟨oj, gj, fun v q => by rw [dj] at q; cases q⟩
  keep := fun i h h' st k => by
    obtain ⟨hz, hTI, ⟨x, y, hTO⟩, h1, h2⟩ := st
    exact ⟨k z (by simp) _ hz, k TI (by simp) _ hTI, ⟨x, y, k TO (by simp) _ hTO⟩, h1.keep fun o q => k i1 (by simp) o q, h2.keep fun o q => k i2 (by simp) o q⟩
  item := by
    intro X hP hw hK hc i pins s σ H E I hf st hg
    subst hP hw hK
    obtain ⟨hz, hTI, ⟨x0, y0, hTO⟩, h1, h2⟩ := st
    obtain ⟨xs, ys, x, y, hqx, hqy, hx, hy⟩ := hg
    obtain ⟨its1, rv1, p1, hl1⟩ := inv_B I hqx
    obtain ⟨its2, rv2, p2, hl2⟩ := inv_B I hqy
    obtain ⟨u1, hu1, ru1⟩ := rv1.get hx
    obtain ⟨u2, hu2, ru2⟩ := rv2.get hy
    have hh : X.A.in1.handled = none := I.ok.hd hc
    have fTO := hf TO (by simp)
    have W := zipFacts D hf hh hz h1 h2 p1 p2 (fp_ne I fTO hqx (fp_noK I fTO)) (fp_ne I fTO hqy (fp_noK I fTO))
    have hi : i < min its1.toArray.size its2.toArray.size := by
      rw [List.size_toArray, List.size_toArray, ← hl1, ← hl2]
      exact Nat.lt_min.mpr ⟨(List.getElem?_eq_some_iff.mp hx).1, (List.getElem?_eq_some_iff.mp hy).1⟩
    refine W.item i s _ _ hi ⟨hz, hTI, ⟨x0, y0, hTO⟩, ⟨h1, p1⟩, h2, p2⟩ fun T vals h' tk hP hT hTup hMid hk => ?_
    refine ⟨_, rfl, W.go elts kk tpos i T _ _ _ hMid fun h'' hSt hk2 => ?_⟩
    obtain ⟨v1, v2, hv1, hv2, ev⟩ := hP
    have e1 : v1 = u1 := by
      have h2 : its1.toArray[i]? = some u1 := by simpa using hu1
      rw [h2] at hv1
      exact (Option.some.inj hv1).symm
    have e2 : v2 = u2 := by
      have h2 : its2.toArray[i]? = some u2 := by simpa using hu2
      rw [h2] at hv2
      exact (Option.some.inj hv2).symm
    subst e1 e2
    have ap := W.apart i T h' hMid
    obtain ⟨oT, gT, cT, nT, dT⟩ := hTup
    have gT2 := hk2 T oT ap gT
    have sub : ∀ c, c ∉ [z, TI, TO, i1, i2] → c ∉ [z, TO, i1, i2] := fun c hc q => hc (by
      have e' : c = z ∨ c = TO ∨ c = i1 ∨ c = i2 := by simpa using q
      rcases e' with e | e | e | e <;> simp [e])
    have keepAll : ∀ c o, c ∉ [z, TI, TO, i1, i2] → s.heap.get? c = some o → h''.get? c = some o := fun c o hc q => hk2 c o (sub c hc) (hk c o (sub c hc) q)
    have new : ObjOk X.prog X.w (upd H T (.tup [x, y])) h'' T (.tup [x, y]) :=
      ⟨by show 2 ≤ sizeLine; decide, [v1, v2], .cons ru1 (.cons ru2 .nil), ⟨oT, gT2, cT, nT, by rw [dT, ev]⟩⟩
    have I1 : Inv X pins σ (upd H T (.tup [x, y])) { s with heap := h'', toks := tk } := I.turnedNew (ch := [z, TI, TO, i1, i2]) keepAll hf hT new
    obtain ⟨q1, q2, q3, ⟨q4, _⟩, q5, _⟩ := hSt
    refine ⟨.ref T, _, I1, rfl, ⟨T, x, y, rfl, I.hok.fresh hT, rfl, fun l hl => by rw [inv_B_inj I hl hqx]; exact hx, fun l hl => by rw [inv_B_inj I hl hqy]; exact hy⟩, ⟨q1, q2, q3, q4, q5⟩, fun c hcm => ?_⟩
    obtain ⟨oi, vsi, Ti, gi, di, _⟩ := h1.obj
    obtain ⟨oj, vsj, Tj, gj, dj, _⟩ := h2.obj
    have hcl : c < s.heap.objs.size := by
      have e' : c = z ∨ c = TI ∨ c = TO ∨ c = i1 ∨ c = i2 := by simpa using hcm
      rcases e' with q | q | q | q | q
      · rw [q]; exact Heap.lt_size hz
      · rw [q]; exact Heap.lt_size hTI
      · rw [q]; exact Heap.lt_size hTO
      · rw [q]; exact Heap.lt_size gi
      · rw [q]; exact Heap.lt_size gj
    rw [upd_ne (Nat.ne_of_lt (Nat.lt_of_lt_of_le hcl hT))]
    exact (hf c hcm).1
  done := by
    intro X hP hw hK hc i pins s σ H E I hf st hg
    subst hP hw hK
    obtain ⟨hz, hTI, ⟨x0, y0, hTO⟩, h1, h2⟩ := st
    obtain ⟨xs, ys, hqx, hqy, hx⟩ := hg
    obtain ⟨its1, rv1, p1, hl1⟩ := inv_B I hqx
    obtain ⟨its2, rv2, p2, hl2⟩ := inv_B I hqy
    have hh : X.A.in1.handled = none := I.ok.hd hc
    have fTO := hf TO (by simp)
    have W := zipFacts D hf hh hz h1 h2 p1 p2 (fp_ne I fTO hqx (fp_noK I fTO)) (fp_ne I fTO hqy (fp_noK I fTO))
    have hi : min its1.toArray.size its2.toArray.size = i := by
      rw [List.size_toArray, List.size_toArray, ← hl1, ← hl2]
      exact hx.symm
    subst hi
    refine W.done s _ _ ⟨hz, hTI, ⟨x0, y0, hTO⟩, ⟨h1, p1⟩, h2, p2⟩ fun h' tk hk => ⟨rfl, I.turnedL (ch := [z, TI, TO, i1, i2]) (fun c o hc q => hk c o (fun q' => hc ?_) q) hf⟩
    have e' : c = z ∨ c = TO ∨ c = i1 ∨ c = i2 := by simpa using q'
    rcases e' with e | e | e | e <;> simp [e]
  self := fun A i s Q E st h => wpAny_pyIter_zip st.1 h
def iZipB (K : PySem.W.Frag) (ta : TA) : TI := fun σ H R => ta σ H fun vs H1 => ∃ a1 a2 b1 b2 xs ys, vs = [.ref a1, .ref a2] ∧ SqB K b1 H1 a1 xs ∧ SqB K b2 H1 a2 ys ∧ R (ItzB K b1 b2 a1 a2) H1
theorem pi_zipB {X : Cx} {e e2 : Expr} {ta : TA} {p pos tpos : Pos} {elts : List Expr} {kk : Nat} (hg : Gl X "zip") (hm : X.mg "zip" = none) (ha : PA X [e, e2] ta)
    (hs : starEach [e, e2] X.env = (false, eval e X.env) :: starEach [e2] X.env := by rfl) (hpl : (backTo pos (starEach [e2] X.env)).any (·.1) = false := by rfl) :
    PI X (.Tuple elts kk tpos) (.Call (.Name "zip" p) [e, e2] [] pos) (iZipB X.K ta) := by
  refine ⟨fun pins s σ H R I h => ?_⟩
  refine Call_ (ld_blt I hg hm PyProof.Rows.boot_zip (PyProof.Rows.callWith_type1 (thn (ha.run pos pins s σ H _ I h) fun us s1 ⟨vs, H1, I1, r1, q1⟩ => ?_) hs hpl))
  obtain ⟨a1, a2, b1, b2, xs, ys, ex, hqx, hqy, q⟩ := q1
  subst ex
  cases r1 with
  | cons r rr =>
    cases rr with
    | cons r' rr =>
      cases rr
      cases r
      cases r'
      obtain ⟨its1, rv1, p1, hl1⟩ := inv_B I1 hqx
      obtain ⟨its2, rv2, p2, hl2⟩ := inv_B I1 hqy
      refine zip_begins2 (beginsB b1 a1 its1.toArray) (beginsB b2 a2 its2.toArray) p1 p2 fun h' hz hTI hTO h1 h2 hsz hk => wpAny_pyIter_zip hz ?_
      have I2 : Inv X pins σ H1 { s1 with heap := h' } := I1.kept (t' := s1.toks) hk
      have D : Ap (s1.heap.objs.size + 4) (s1.heap.objs.size + 2) (s1.heap.objs.size + 3) s1.heap.objs.size (s1.heap.objs.size + 1) := by
        generalize s1.heap.objs.size = n
        exact ⟨fun e => by have e : n + 2 = n + 4 := e; omega, fun e => by have e : n + 3 = n + 4 := e; omega, fun e => by have e : n + 2 = n + 3 := e; omega, fun e => by have e : n + 2 = n := e; omega, fun e => by have e : n + 4 = n := e; omega, fun e => by have e : n + 3 = n := e; omega, fun e => by have e : n + 2 = n + 1 := e; omega, fun e => by have e : n + 4 = n + 1 := e; omega, fun e => by have e : n + 3 = n + 1 := e; omega, fun e => by have e : n = n + 1 := e; omega⟩
      refine ⟨s1.heap.objs.size + 4, [s1.heap.objs.size + 4, s1.heap.objs.size + 2, s1.heap.objs.size + 3, s1.heap.objs.size, s1.heap.objs.size + 1], _, _, H1, rfl, I2, turn_zipB b1 b2 D, ⟨hz, hTI, ⟨_, _, hTO⟩, IterB.new h1, IterB.new h2⟩, fun c hcm => ?_, q⟩
      have e' : c = s1.heap.objs.size + 4 ∨ c = s1.heap.objs.size + 2 ∨ c = s1.heap.objs.size + 3 ∨ c = s1.heap.objs.size ∨ c = s1.heap.objs.size + 1 := by simpa using hcm
      have hle : s1.heap.objs.size ≤ c := by
        rcases e' with z | z | z | z | z
        · rw [z]; exact Nat.le_add_right _ _
        · rw [z]; exact Nat.le_add_right _ _
        · rw [z]; exact Nat.le_add_right _ _
        · rw [z]; exact Nat.le_refl _
        · rw [z]; exact Nat.le_add_right _ _
      exact I1.fpOk hle (I1.hok.fresh hle)
theorem walk_zipB {K : PySem.W.Frag} {b1 b2 : Bool} {a1 a2 : Addr} {xs ys : List V} {n : Nat} (hn : n = min xs.length ys.length) : Walk (ItzB K b1 b2 a1 a2) n (fun H => SqB K b1 H a1 xs ∧ SqB K b2 H a2 ys) (YPair (fun i => xs[i]?) (fun i => ys[i]?)) :=
  ⟨fun i H hi h => by
    subst hn
    have h1 := (Nat.lt_min.mp hi).1
    have h2 := (Nat.lt_min.mp hi).2
    exact ⟨xs, ys, xs[i], ys[i], h.1, h.2, List.getElem?_eq_getElem h1, List.getElem?_eq_getElem h2⟩, fun H h => ⟨xs, ys, h.1, h.2, hn⟩, fun i H x H' hi h y => by
    obtain ⟨T, v, w, e1, e2, e3, e4, e5⟩ := y
    exact ⟨T, v, w, e1, e2, e3, e4 xs h.1, e5 ys h.2⟩⟩
end TvW

/-! Tv8: targets, what is walked, for, comprehensions -/
namespace Tv
open PySem PySem.Spec PyProof.Rows L2

/-! ### targets -/
def Off (vs : List Nat) (σ σ' : L2.St) : Prop := σ'.length = σ.length ∧ ∀ j, j ∉ vs → σ'[j]? = σ[j]?
theorem wipe_get {σ : L2.St} {i : Nat} : ∀ {vs : List Nat}, (wipe σ vs)[i]? = if i ∈ vs ∧ i < σ.length then some none else σ[i]?
  | [] => by simp [wipe]
  | v :: vs => by
    unfold wipe
    by_cases e : v = i
    · subst e
      by_cases hl : v < σ.length
      · rw [List.getElem?_set_self (by rw [wipe_length]; exact hl), if_pos ⟨List.mem_cons_self, hl⟩]
      · rw [List.getElem?_eq_none (by rw [List.length_set, wipe_length]; omega), if_neg (fun z => hl z.2), List.getElem?_eq_none (by omega)]
    · rw [List.getElem?_set_ne e, wipe_get (vs := vs)]
      have h : (i ∈ v :: vs ∧ i < σ.length) ↔ (i ∈ vs ∧ i < σ.length) := by
        rw [List.mem_cons]
        exact ⟨fun z => ⟨z.1.resolve_left (Ne.symm e), z.2⟩, fun z => ⟨.inr z.1, z.2⟩⟩
      by_cases hc : i ∈ vs ∧ i < σ.length
      · rw [if_pos hc, if_pos (h.mpr hc)]
      · rw [if_neg hc, if_neg (fun z => hc (h.mp z))]
theorem Off.wipe {vs : List Nat} {σ σ' : L2.St} (h : Off vs σ σ') : wipe σ' vs = wipe σ vs := by
  apply List.ext_getElem?
  intro i
  rw [wipe_get, wipe_get, h.1]
  by_cases hi : i ∈ vs
  · by_cases hl : i < σ.length
    · rw [if_pos ⟨hi, hl⟩, if_pos ⟨hi, hl⟩]
    · rw [if_neg (fun z => hl z.2), if_neg (fun z => hl z.2), List.getElem?_eq_none (by rw [h.1]; omega), List.getElem?_eq_none (by omega)]
  · rw [if_neg (fun z => hi z.1), if_neg (fun z => hi z.1), h.2 i hi]
theorem Off.refl {vs : List Nat} {σ : L2.St} : Off vs σ σ := ⟨rfl, fun _ _ => rfl⟩
theorem Off.trans {vs : List Nat} {σ σ1 σ2 : L2.St} (a : Off vs σ σ1) (b : Off vs σ1 σ2) : Off vs σ σ2 := ⟨b.1.trans a.1, fun j h => (b.2 j h).trans (a.2 j h)⟩
theorem Off.mono {vs ws : List Nat} {σ σ1 : L2.St} (a : Off vs σ σ1) (h : ∀ j ∈ vs, j ∈ ws) : Off ws σ σ1 := ⟨a.1, fun j q => a.2 j fun z => q (h j z)⟩
theorem Off.set {i : Nat} {σ : L2.St} {v : Option V} : Off [i] σ (σ.set i v) := ⟨List.length_set .., fun j h => List.getElem?_set_ne fun e => h (by rw [e]; exact List.mem_cons_self)⟩

mutual
inductive Pt where
  | nm (i : Nat) | tp (ps : Pts)
inductive Pts where
  | nil | cons (p : Pt) (ps : Pts)
end
mutual
def Pt.run : Pt → D → List SD → Option (List SD)
  | .nm i => fun d ρ => some (ρ.set i (.v d))
  | .tp ps => fun d ρ => match d with | .tup ds => ps.run ds ρ | _ => none
def Pts.run : Pts → List D → List SD → Option (List SD)
  | .nil => fun ds ρ => match ds with | [] => some ρ | _ => none
  | .cons p q => fun ds ρ => match ds with
    | d :: r => match p.run d ρ with | some ρ' => q.run r ρ' | none => none
    | [] => none
end
mutual
def Pt.vs : Pt → List Nat
  | .nm i => [i]
  | .tp ps => ps.vs
def Pts.vs : Pts → List Nat
  | .nil => []
  | .cons p q => p.vs ++ q.vs
end
def Pts.len : Pts → Nat
  | .nil => 0
  | .cons _ q => q.len + 1
theorem Pts.run_len : ∀ (p : Pts) (ds : List D) (ρ ρ' : List SD), p.run ds ρ = some ρ' → ds.length = p.len
  | .nil, [], _, _, _ => rfl
  | .nil, _ :: _, _, _, h => by
    unfold Pts.run at h
    cases h
  | .cons p q, [], _, _, h => by
    unfold Pts.run at h
    cases h
  | .cons p q, d :: ds, ρ, ρ', h => by
    unfold Pts.run at h
    dsimp only at h
    split at h
    · rw [List.length_cons, Pts.run_len q ds _ _ h]
      rfl
    · cases h
/-- what a target leaves: the other slots, nothing owned that was not -/
structure PmOk (vs : List Nat) (ρ ρ' : List SD) : Prop where
  len : ρ'.length = ρ.length
  off : ∀ j, j ∉ vs → ρ'[j]? = ρ[j]?
  own : ∀ (j : Nat) (d : D), ρ'[j]? = some (.own d) → ρ[j]? = some (.own d)
theorem PmOk.trans {vs ws : List Nat} {a b c : List SD} (h : PmOk vs a b) (g : PmOk ws b c) : PmOk (vs ++ ws) a c :=
  ⟨g.len.trans h.len, fun j n => (g.off j fun z => n (List.mem_append_right _ z)).trans (h.off j fun z => n (List.mem_append_left _ z)), fun j d e => h.own j d (g.own j d e)⟩
mutual
theorem Pt.ok : ∀ (p : Pt) (d : D) (ρ ρ' : List SD), p.run d ρ = some ρ' → PmOk p.vs ρ ρ'
  | .nm i, d, ρ, ρ', h => by
    unfold Pt.run at h
    cases h
    refine ⟨List.length_set .., fun j n => List.getElem?_set_ne fun e => n (by rw [e]; unfold Pt.vs; exact List.mem_cons_self), fun j e h => ?_⟩
    by_cases q : i = j
    · subst q
      by_cases hl : i < ρ.length
      · rw [List.getElem?_set_self hl] at h; cases h
      · rw [List.getElem?_eq_none (by rw [List.length_set]; omega)] at h; cases h
    · rw [List.getElem?_set_ne q] at h
      exact h
  | .tp ps, d, ρ, ρ', h => by
    unfold Pt.run at h
    cases d with
    | tup ds =>
      have := Pts.ok ps ds ρ ρ' h
      unfold Pt.vs
      exact this
    | _ => cases h
theorem Pts.ok : ∀ (p : Pts) (ds : List D) (ρ ρ' : List SD), p.run ds ρ = some ρ' → PmOk p.vs ρ ρ'
  | .nil, [], ρ, ρ', h => by
    unfold Pts.run at h
    cases h
    exact ⟨rfl, fun _ _ => rfl, fun _ _ e => e⟩
  | .nil, _ :: _, _, _, h => by
    unfold Pts.run at h
    cases h
  | .cons p q, [], _, _, h => by
    unfold Pts.run at h
    cases h
  | .cons p q, d :: ds, ρ, ρ', h => by
    unfold Pts.run at h
    dsimp only at h
    split at h
    · rename_i ρ1 e
      have h1 := Pt.ok p d ρ ρ1 e
      have h2 := Pts.ok q ds ρ1 ρ' h
      unfold Pts.vs
      exact h1.trans h2
    · cases h
end
section
variable (K : PySem.W.Frag) (T : Tb)
def tG (pm : Pt) : TG := fun v σ H Q => ∃ B Z cm ρ s d ρ', Rel K T B Z cm σ H ρ s ∧ Rep K T cm (GV cm Z (Ow σ ρ) H) v d ∧ pm.run d ρ = some ρ' ∧
  ∀ σ', Rel K T B Z cm σ' H ρ' s → Sub (GV cm Z (Ow σ ρ) H) (GV cm Z (Ow σ' ρ') H) → Off pm.vs σ σ' → Q σ' H
def tGs (pm : Pts) : TGs := fun xs σ H Q => ∃ B Z cm ρ s ds ρ', Rel K T B Z cm σ H ρ s ∧ Reps K T cm (GV cm Z (Ow σ ρ) H) xs ds ∧ pm.run ds ρ = some ρ' ∧
  ∀ σ', Rel K T B Z cm σ' H ρ' s → Sub (GV cm Z (Ow σ ρ) H) (GV cm Z (Ow σ' ρ') H) → Off pm.vs σ σ' → Q σ' H
end
abbrev QG (X : Cx) (T : Tb) (e : Expr) (pm : Pt) : Prop := PG X e (tG X.K T pm)
abbrev QGs (X : Cx) (T : Tb) (es : List Expr) (pm : Pts) : Prop := PGs X es (tGs X.K T pm)
theorem _root_.L2.PG.conv {X : Cx} {e : Expr} {t t' : TG} (h : PG X e t) (c : ∀ v σ H Q, t' v σ H Q → t v σ H Q) : PG X e t' := ⟨fun pins s σ H v u Q I r w => h.run pins s σ H v u Q I r (c v σ H Q w)⟩
theorem _root_.L2.PGs.conv {X : Cx} {e : List Expr} {t t' : TGs} (h : PGs X e t) (c : ∀ v σ H Q, t' v σ H Q → t v σ H Q) : PGs X e t' := ⟨fun pins s σ H v u Q I r w => h.run pins s σ H v u Q I r (c v σ H Q w)⟩
theorem ow_shrink {σ : L2.St} {ρ : List SD} {i : Nat} {v : V} {d : D} {a : Addr} (h : Ow (σ.set i (some v)) (ρ.set i (.v d)) a) : Ow σ ρ a := by
  obtain ⟨j, e, h1, h2⟩ := h
  rcases set_get h1 with ⟨_, _, z⟩ | ⟨n, z⟩
  · cases z
  · rw [List.getElem?_set_ne (Ne.symm n)] at h2
    exact ⟨j, e, z, h2⟩
theorem sub_shrink {cm : List Addr} {Z O O' : Addr → Prop} {H : Hp} (h : ∀ a, O' a → O a) : Sub (GV cm Z O H) (GV cm Z O' H) := hid_sub fun a u n e => ⟨fun z => by
  rcases z with z | z | z
  · exact n (.inl z)
  · exact n (.inr (.inl z))
  · exact n (.inr (.inr (h a z))), e⟩
section
variable {X : Cx} {T : Tb} {e : Expr} {es : List Expr} {pm : Pt} {pms : Pts} {pos : Pos}
theorem qg_name {i : Nat} {x : Str} (hN : X.N.Nodup) (hi : X.N[i]? = some x := by rfl) (hx : Loc X.env.scope x := by first | exact Or.inl rfl | exact Or.inr rfl) (hf : X.fn x = true ∨ X.env.scope.names.lookup x = some .local := by first | exact .inl rfl | exact .inr rfl | assumption) : QG X T (.Name x pos) (.nm i) :=
  PG.conv (pg_name hN hi hx hf) fun v σ H Q h => by
    obtain ⟨B, Z, cm, ρ, s, d, ρ', r, q, e, k⟩ := h
    unfold Pt.run at e
    cases e
    exact k _ (r.set q) (sub_shrink fun a => ow_shrink) (by unfold Pt.vs; exact Off.set)
theorem qgs_nil : QGs X T [] .nil := PGs.conv pgs_nil fun v σ H Q h => by
  obtain ⟨B, Z, cm, ρ, s, ds, ρ', r, q, e, k⟩ := h
  cases q with
  | nil =>
    unfold Pts.run at e
    cases e
    exact ⟨rfl, k σ r (Sub.refl _) Off.refl⟩
  | cons q1 q2 =>
    unfold Pts.run at e
    cases e
theorem qgs_cons (h1 : QG X T e pm) (h2 : QGs X T es pms) (hs : (assignEach (e :: es) X.env).map (·.2) = assign e X.env :: (assignEach es X.env).map (·.2) := by rfl) : QGs X T (e :: es) (.cons pm pms) := PGs.conv (pgs_cons h1 h2 hs) fun v σ H Q h => by
  obtain ⟨B, Z, cm, ρ, s, ds, ρ', r, q, e, k⟩ := h
  cases q with
  | nil =>
    unfold Pts.run at e
    cases e
  | cons q1 q2 =>
    unfold Pts.run at e
    dsimp only at e
    split at e
    · rename_i ρ1 e1
      refine ⟨_, _, rfl, B, Z, cm, ρ, s, _, ρ1, r, q1, e1, fun σ1 r1 sub1 o1 => ⟨B, Z, cm, ρ1, s, _, ρ', r1, Reps.mono (.refl _) sub1 _ _ q2, e, fun σ2 r2 sub2 o2 => ?_⟩⟩
      unfold Pts.vs at k
      exact k σ2 r2 (sub1.trans sub2) ((o1.mono fun j z => List.mem_append_left _ z).trans (o2.mono fun j z => List.mem_append_right _ z))
    · cases e
theorem qg_tup {k : Nat} (hc : X.calm = true) (h : QGs X T es pms)
    (hn : (assignEach es X.env).length = pms.len := by rfl) (hst : (assignEach es X.env).findIdx? (·.1) = none := by rfl) : QG X T (.Tuple es k pos) (.tp pms) := PG.conv (pg_tup hc h hn hst) fun v σ H Q h => by
  obtain ⟨B, Z, cm, ρ, s, d, ρ', r, q, e, k⟩ := h
  unfold Pt.run at e
  cases q with
  | tup q1 q2 => exact ⟨_, _, rfl, Sub.hidH.seqT q1, by rw [q2.len]; exact pms.run_len _ _ _ e, B, Z, cm, ρ, s, _, ρ', r, q2, e, by unfold Pt.vs at k; exact k⟩
  | _ => cases e
end

/-! ### what is walked -/
/-- what was there is as in G, what is new as in H2 -/
def glue (G H1 H2 : Hp) : Hp := fun a => match H1 a with
  | some _ => G a
  | none => H2 a
def AW (K : PySem.W.Frag) (T : Tb) : AK (List D) It := fun F _ cm H _ J ds => ∃ (G : Hp → Prop) (Y : Nat → Hp → V → Hp → Prop), Walk J ds.length G Y ∧ (∀ H1, Sub (F.G cm H) H1 → G H1) ∧
  ∀ i H1 x H2, i < ds.length → Sub (F.G cm H) H1 → Y i H1 x H2 → Sub H1 H2 ∧ ∃ d, ds[i]? = some d ∧ Rep K T cm (glue (F.G cm H) H1 H2) x d
theorem up_AW {K : PySem.W.Frag} {T : Tb} : Up (AW K T) := fun _ _ _ _ _ _ _ _ _ h => h
abbrev QI (X : Cx) (T : Tb) (W : WX) (tg iter : Expr) (m : LM) : Prop := PI X tg iter (tP X.K T W (AW X.K T) m)
theorem _root_.L2.PI.conv {X : Cx} {tg e : Expr} {t t' : TI} (h : PI X tg e t) (c : ∀ σ H Q, t' σ H Q → t σ H Q) : PI X tg e t' := ⟨fun pins s σ H Q I w => h.run pins s σ H Q I (c σ H Q w)⟩
theorem glue_same {G H1 : Hp} (h : Sub G H1) : Sub G (glue G H1 H1) := fun a o e => by
  unfold glue
  rw [h a o e]
  exact e
/-- the walked list or tuple, a range, a text -/
def mSeqI (m : EM) : LM := fun ρ s => (m ρ s).bind fun x s1 => match x with
  | .tup ds => .ok ds s1
  | .lst ds => .ok ds s1
  | .frz ds => .ok ds s1
  | .str z => .ok (z.cps.toList.map fun c => .str ⟨#[c]⟩) s1
  | _ => .no
section
variable {X : Cx} {T : Tb} {W : WX} {tg e e2 : Expr} {es : List Expr} {m m2 : EM} {lm : LM} {pos p : Pos}
theorem walk_items {K : PySem.W.Frag} {cm : List Addr} {G : Hp} {xs : List V} {ds : List D} (h : Reps K T cm G xs ds) {i : Nat} {H1 : Hp} {x : V} {H2 : Hp} (hs : Sub G H1) (y : YAt xs i H1 x H2) : Sub H1 H2 ∧ ∃ d, ds[i]? = some d ∧ Rep K T cm (glue G H1 H2) x d := by
  obtain ⟨rfl, e⟩ := y
  obtain ⟨d, e1, e2⟩ := h.getV e
  exact ⟨Sub.refl _, d, e1, Rep.mono (.refl _) (glue_same hs) _ _ e2⟩
def iSeqA (K : PySem.W.Frag) (tl : TE) : TI := fun σ H R => tl σ H fun x H1 => (∃ a, x = .ref a ∧ (∃ xs, SqL K H1 a xs) ∧ R (Itl K a) H1) ∨ (∃ a, x = .ref a ∧ (∃ xs, SqT K H1 a xs) ∧ R (Itt K a) H1) ∨ ∃ z, x = .str z ∧ R (Its z) H1
theorem pi_seqA {tl : TE} (hl : PE X e tl) : PI X tg e (iSeqA X.K tl) := by
  refine ⟨fun pins s σ H R I h => ?_⟩
  refine thn (hl.run pins s σ H _ I h) fun v s1 ⟨x, H1, I1, r1, q1⟩ => ?_
  rcases q1 with ⟨a, ex, ⟨xs, hq⟩, q⟩ | ⟨a, ex, ⟨xs, hq⟩, q⟩ | ⟨z, ex, q⟩
  · subst ex
    cases r1
    obtain ⟨its, rv, p, hz⟩ := I1.list hq
    refine wpAny_pyIter_list p.isList ?_
    refine ⟨s1.heap.objs.size, [s1.heap.objs.size], _, _, H1, rfl, I1.kept (t' := s1.toks) fun b o e => Heap.get?_push_of_some _ e, turn_list a _, ⟨_, Heap.get?_push_size _ rfl, rfl, rfl⟩, fun b hb => ?_, q⟩
    have e : b = s1.heap.objs.size := by simpa using hb
    subst e
    exact I1.fpOk (Nat.le_refl _) (I1.hok.fresh (Nat.le_refl _))
  · subst ex
    cases r1
    obtain ⟨its, rv, p, hz⟩ := I1.tuple hq
    refine wpAny_pyIter_tuple (show s1.heap.IsTuple a its.toArray from p) ?_
    refine ⟨s1.heap.objs.size, [s1.heap.objs.size], _, _, H1, rfl, I1.kept (t' := s1.toks) fun b o e => Heap.get?_push_of_some _ e, turn_tuple a _, ⟨_, Heap.get?_push_size _ rfl, rfl, rfl⟩, fun b hb => ?_, q⟩
    have e : b = s1.heap.objs.size := by simpa using hb
    subst e
    exact I1.fpOk (Nat.le_refl _) (I1.hok.fresh (Nat.le_refl _))
  · subst ex
    obtain ⟨t, rfl⟩ := r1
    cases ha : z.cps.all (· < 128)
    · exact wpAny_pyIter_wide ha (pi_one (tk := s1.toks) I1 _ (turn_str _ z t "str_iterator" (.inr rfl)) ⟨_, Heap.get?_push_size _ rfl, rfl, rfl⟩ q)
    · exact wpAny_pyIter_ascii ha (pi_one (tk := s1.toks) I1 _ (turn_str _ z t "str_ascii_iterator" (.inl rfl)) ⟨_, Heap.get?_push_size _ rfl, rfl, rfl⟩ q)
theorem aw_items {K : PySem.W.Frag} {T : Tb} {F : Fm} {cm : List Addr} {H H0 : Hp} {s : S} {J : It} {xs : List V} {ds : List D} (G : Hp → Prop) (w : Walk J xs.length G (YAt xs)) (hG : ∀ H1, Sub (F.G cm H) H1 → G H1) (h : Reps K T cm (F.G cm H) xs ds) : AW K T F H0 cm H s J ds :=
  ⟨G, _, by rw [← h.len]; exact w, hG, fun i H1 x H2 hi sub y => walk_items h sub y⟩
theorem q_iSeq (h : QE X T W e m) : QI X T W tg e (mSeqI m) := PI.conv (pi_seqA h) fun σ H R h => by
  refine h.bind (AR X.K T) up_AW fun B Z cm ρ x H1 ⟨cm1, dx, s1, e1, r1, a1, p1⟩ => ?_
  cases dx with
  | tup ds =>
    cases a1 with
    | tup h1 h2 => exact .inr (.inl ⟨_, rfl, ⟨_, Sub.hidH.seqT h1⟩, p1.fin r1 (aw_items _ walk_tup (fun H1 sb => sb.seqT h1) h2)⟩)
  | lst ds =>
    cases a1 with
    | lst h1 h2 => exact .inl ⟨_, rfl, ⟨_, .of (Sub.hidH _ _ h1)⟩, p1.fin r1 (aw_items _ walk_list (fun H1 sb => .of (sb _ _ h1)) h2)⟩
  | frz ds =>
    cases a1 with
    | frz h1 h2 => exact .inl ⟨_, rfl, ⟨_, Sub.hidH.seqL h1⟩, p1.fin r1 (aw_items _ walk_list (fun H1 sb => sb.seqL h1) h2)⟩
  | str z =>
    cases a1
    refine .inr (.inr ⟨z, rfl, p1.fin r1 ⟨_, _, (by simpa using walk_str (z := z)), fun _ _ => trivial, fun i H1 x H2 hi sub y => ?_⟩⟩)
    obtain ⟨rfl, c, hc, rfl⟩ := y
    exact ⟨Sub.refl _, .str ⟨#[c]⟩, by rw [List.getElem?_map, Array.getElem?_toList, hc]; rfl, .str _⟩
  | _ => exact p1.elim
/-- range -/
def rngOk (i : Int) : Bool := decide (-(2 ^ 62) ≤ i ∧ i < 2 ^ 62)
def rngD (i : Int) (n : Nat) : List D := (List.range n).map fun k => .int (i + (k : Nat))
def mRng1 (lm : LM) : LM := fun ρ s => (lm ρ s).bind fun xs s1 => match xs with
  | [.int j] => if rngOk j then .ok (rngD 0 j.toNat) s1 else .no
  | _ => .no
def mRng2 (lm : LM) : LM := fun ρ s => (lm ρ s).bind fun xs s1 => match xs with
  | [.int i, .int j] => if rngOk i && rngOk j then .ok (rngD i (j - i).toNat) s1 else .no
  | _ => .no
theorem rngOk_of {i : Int} (h : rngOk i = true) : -(2 ^ 62) ≤ i ∧ i < 2 ^ 62 := of_decide_eq_true h
theorem aw_rng {K : PySem.W.Frag} {T : Tb} {F : Fm} {cm : List Addr} {H H0 : Hp} {s : S} {i : Int} {n : Nat} : AW K T F H0 cm H s (Itr i n) (rngD i n) :=
  ⟨_, _, by rw [show (rngD i n).length = n by unfold rngD; simp]; exact walk_range, fun _ _ => trivial, fun k H1 x H2 hk sub y => by
    obtain ⟨rfl, rfl⟩ := y
    refine ⟨Sub.refl _, .int (i + (k : Nat)), ?_, .int _⟩
    have hk' : k < n := by unfold rngD at hk; simpa using hk
    unfold rngD
    simp [hk']⟩
theorem ints1 {K : PySem.W.Frag} {T : Tb} {cm : List Addr} {G : Hp} {xs : List V} {j : Int} (h : Reps K T cm G xs [.int j]) : xs = [.int j] := by
  cases h with
  | cons a b =>
    cases a
    cases b
    rfl
theorem ints2 {K : PySem.W.Frag} {T : Tb} {cm : List Addr} {G : Hp} {xs : List V} {i j : Int} (h : Reps K T cm G xs [.int i, .int j]) : xs = [.int i, .int j] := by
  cases h with
  | cons a b =>
    cases a
    rw [ints1 b]
theorem q_iRng1 (hg : Gl X "range") (hm : X.mg "range" = none) (ha : QS X T W 1 [e] lm) (hs : starEach [e] X.env = [(false, eval e X.env)] := by rfl) : QI X T W tg (.Call (.Name "range" p) [e] [] pos) (mRng1 lm) := PI.conv (pi_range1 hg hm ha hs) fun σ H R h => by
  refine h.bind (ALn X.K T 1) up_AW fun B Z cm ρ x H1 ⟨cm1, dx, s1, e1, r1, a1, p1⟩ => ?_
  dsimp only at p1
  split at p1
  · split at p1
    · rename_i hj
      have b := rngOk_of hj
      exact ⟨_, ints1 a1.1, b.1, b.2, p1.fin r1 aw_rng⟩
    · exact p1.elim
  · exact p1.elim
theorem q_iRng2 (hg : Gl X "range") (hm : X.mg "range" = none) (ha : QS X T W 2 [e, e2] lm) (hs : starEach [e, e2] X.env = [(false, eval e X.env), (false, eval e2 X.env)] := by rfl) (hs2 : starEach [e2] X.env = [(false, eval e2 X.env)] := by rfl) : QI X T W tg (.Call (.Name "range" p) [e, e2] [] pos) (mRng2 lm) := PI.conv (pi_range2 hg hm ha hs hs2) fun σ H R h => by
  refine h.bind (ALn X.K T 2) up_AW fun B Z cm ρ x H1 ⟨cm1, dx, s1, e1, r1, a1, p1⟩ => ?_
  dsimp only at p1
  split at p1
  · split at p1
    · rename_i hj
      rw [Bool.and_eq_true] at hj
      have b := rngOk_of hj.1
      have b' := rngOk_of hj.2
      exact ⟨_, _, ints2 a1.1, ⟨b.1, b.2, b'.1, b'.2⟩, p1.fin r1 aw_rng⟩
    · exact p1.elim
  · exact p1.elim
/-- pairs -/
theorem glue_new {G H1 : Hp} {p : Addr} {o : HO} (h : H1 p = none) : glue G H1 (upd H1 p o) p = some o := by
  unfold glue
  rw [h]
  exact upd_same
theorem glue_sub {G H1 H2 : Hp} (h : Sub G H1) : Sub G (glue G H1 H2) := fun a o e => by
  unfold glue
  rw [h a o e]
  exact e
theorem aw_pairs {K : PySem.W.Frag} {T : Tb} {F : Fm} {cm : List Addr} {H H0 : Hp} {s : S} {J : It} {n : Nat} {fx fy : Nat → Option V} {ds : List D} (G : Hp → Prop) (w : Walk J n G (YPair fx fy)) (hn : ds.length = n) (hG : ∀ H1, Sub (F.G cm H) H1 → G H1)
    (h : ∀ i x y, fx i = some x → fy i = some y → ∃ dx dy, ds[i]? = some (.tup [dx, dy]) ∧ Rep K T cm (F.G cm H) x dx ∧ Rep K T cm (F.G cm H) y dy) : AW K T F H0 cm H s J ds :=
  ⟨G, _, by rw [hn]; exact w, hG, fun i H1 x H2 hi sub y => by
    obtain ⟨p, x, y, rfl, hp, rfl, ex, ey⟩ := y
    obtain ⟨dx, dy, e1, e2, e3⟩ := h i x y ex ey
    refine ⟨sub_upd hp, _, e1, .tup (.inl (.inl (glue_new hp))) (.cons (Rep.mono (.refl _) (glue_sub sub) _ _ e2) (.cons (Rep.mono (.refl _) (glue_sub sub) _ _ e3) .nil))⟩⟩
def seqV : D → Option (List D)
  | .tup ds => some ds | .lst ds => some ds | .frz ds => some ds | _ => none
theorem seqV_rep {K : PySem.W.Frag} {T : Tb} {cm : List Addr} {G : Hp} {v : V} {d : D} {ds : List D} (h : seqV d = some ds) (r : Rep K T cm G v d) : ∃ a b xs, v = .ref a ∧ TvW.SqB K b G a xs ∧ Reps K T cm G xs ds := by
  cases r with
  | tup h1 h2 => cases h; exact ⟨_, true, _, rfl, h1, h2⟩
  | lst h1 h2 => cases h; exact ⟨_, false, _, rfl, .of h1, h2⟩
  | frz h1 h2 => cases h; exact ⟨_, false, _, rfl, h1, h2⟩
  | _ => cases h
theorem Sub.sqB {K : PySem.W.Frag} {G G' : Hp} {a : Addr} {b : Bool} {xs : List V} (e : Sub G G') (h : TvW.SqB K b G a xs) : TvW.SqB K b G' a xs := by
  cases b with
  | true => exact e.seqT h
  | false => exact e.seqL h
def enumD (ds : List D) : List D := ds.mapIdx fun i d => .tup [.int i, d]
def mEnumI (lm : LM) : LM := fun ρ s => (lm ρ s).bind fun xs s1 => match xs with
  | [x] => match seqV x with | some ds => .ok (enumD ds) s1 | none => .no
  | _ => .no
def zipD (xs ys : List D) : List D := List.zipWith (fun a b => .tup [a, b]) xs ys
def mZipI (lm : LM) : LM := fun ρ s => (lm ρ s).bind fun xs s1 => match xs with
  | [x, y] => match seqV x, seqV y with | some ds, some es => .ok (zipD ds es) s1 | _, _ => .no
  | _ => .no
theorem q_iEnum {elts : List Expr} {kk : Nat} {tpos : Pos} (hg : Gl X "enumerate") (hm : X.mg "enumerate" = none) (ha : QS X T W 1 [e] lm) (hs : starEach [e] X.env = [(false, eval e X.env)] := by rfl) :
    QI X T W (.Tuple elts kk tpos) (.Call (.Name "enumerate" p) [e] [] pos) (mEnumI lm) := PI.conv (TvW.pi_enumB hg hm ha hs) fun σ H R h => by
  refine h.bind (ALn X.K T 1) up_AW fun B Z cm ρ x H1 ⟨cm1, dx, s1, e1, r1, a1, p1⟩ => ?_
  dsimp only at p1
  split at p1
  · split at p1
    · rename_i hx
      obtain ⟨a1, _⟩ := a1
      cases a1 with
      | cons a1 t =>
        cases t
        obtain ⟨a, b, xs, rfl, h1, h2⟩ := seqV_rep hx a1
        refine ⟨a, b, xs, rfl, Sub.hidH.sqB h1, p1.fin r1 (aw_pairs _ TvW.walk_enumB (by unfold enumD; rw [List.length_mapIdx, h2.len]) (fun H1 sb => sb.sqB h1) fun i x y ex ey => ?_)⟩
        cases ex
        obtain ⟨d, hd, rd⟩ := h2.getV ey
        exact ⟨.int i, d, by unfold enumD; rw [List.getElem?_mapIdx, hd]; rfl, .int _, rd⟩
    · exact p1.elim
  · exact p1.elim
theorem q_iZip {elts : List Expr} {kk : Nat} {tpos : Pos} (hg : Gl X "zip") (hm : X.mg "zip" = none) (ha : QS X T W 2 [e, e2] lm)
    (hs : starEach [e, e2] X.env = (false, eval e X.env) :: starEach [e2] X.env := by rfl) (hpl : (backTo pos (starEach [e2] X.env)).any (·.1) = false := by rfl) :
    QI X T W (.Tuple elts kk tpos) (.Call (.Name "zip" p) [e, e2] [] pos) (mZipI lm) := PI.conv (TvW.pi_zipB hg hm ha hs hpl) fun σ H R h => by
  refine h.bind (ALn X.K T 2) up_AW fun B Z cm ρ x H1 ⟨cm1, dx, s1, e1, r1, a1, p1⟩ => ?_
  dsimp only at p1
  split at p1
  · split at p1
    · rename_i hx hy
      obtain ⟨a1, _⟩ := a1
      cases a1 with
      | cons a1 t =>
        cases t with
        | cons a2 t =>
          cases t
          obtain ⟨a, b, xs, rfl, h1, h2⟩ := seqV_rep hx a1
          obtain ⟨a', b', ys, rfl, h1', h2'⟩ := seqV_rep hy a2
          refine ⟨a, a', b, b', xs, ys, rfl, Sub.hidH.sqB h1, Sub.hidH.sqB h1', p1.fin r1 (aw_pairs _ (TvW.walk_zipB rfl) (by unfold zipD; rw [List.length_zipWith, h2.len, h2'.len]) (fun H1 sb => ⟨sb.sqB h1, sb.sqB h1'⟩) fun i x y ex ey => ?_)⟩
          obtain ⟨d, hd, rd⟩ := h2.getV ex
          obtain ⟨d', hd', rd'⟩ := h2'.getV ey
          exact ⟨d, d', by unfold zipD; rw [List.getElem?_zipWith, hd, hd'], rd, rd'⟩
    · exact p1.elim
  · exact p1.elim
end
end Tv

/-! Tv9: for and comprehensions -/
namespace Tv
open PySem PySem.Spec PyProof.Rows L2

def joinB (B G : Hp) : Hp := fun a => match B a with
  | some o => some o
  | none => G a
theorem joinB_left {B G : Hp} : Sub B (joinB B G) := fun a o e => by
  unfold joinB
  rw [e]
theorem joinB_some {B G : Hp} {a : Addr} {o : HO} (h : joinB B G a = some o) : B a = some o ∨ G a = some o := by
  unfold joinB at h
  cases e : B a with
  | some u => rw [e] at h; exact .inl h
  | none => rw [e] at h; exact .inr h
theorem joinB_none {B G : Hp} {a : Addr} (h : B a = none) (g : G a = none) : joinB B G a = none := by
  unfold joinB
  rw [h]
  exact g
section
variable {K : PySem.W.Frag} {T : Tb} {B B' : Hp} {Z : Addr → Prop} {cm cm1 : List Addr} {σ : L2.St} {H : Hp} {ρ : List SD} {s : S} {W : WX} {r : SR} {Ed : Ends}
theorem Rel.weak (h : Sub B B') (r : Rel K T B' Z cm σ H ρ s) : Rel K T B Z cm σ H ρ s where
  len := r.len
  val := r.val
  own := fun i d e => by
    obtain ⟨a, h1, h2, h3, h4, h5⟩ := r.own i d e
    refine ⟨a, h1, h2, h3, h4, ?_⟩
    cases q : B a with
    | none => rfl
    | some o => rw [h a o q] at h5; cases h5
  apart := r.apart
  cells := r.cells
  base := fun a o e => r.base a o (h a o e)
theorem Rel.strong {G0 : Hp} (hs : Sub G0 (GV cm Z (Ow σ ρ) H)) (r : Rel K T B Z cm σ H ρ s) : Rel K T (joinB B G0) Z cm σ H ρ s where
  len := r.len
  val := r.val
  own := fun i d e => by
    obtain ⟨a, h1, h2, h3, h4, h5⟩ := r.own i d e
    refine ⟨a, h1, h2, h3, h4, joinB_none h5 ?_⟩
    cases q : G0 a with
    | none => rfl
    | some o => exact absurd (.inr (.inr ⟨i, d, e, h1⟩)) (hid_some.mp (hs a o q)).1
  apart := r.apart
  cells := r.cells
  base := fun a o e => by
    rcases joinB_some e with e | e
    · exact r.base a o e
    · obtain ⟨n, e⟩ := hid_some.mp (hs a o e)
      exact ⟨e, fun z => n (.inl z)⟩
theorem PostS.weak (h : Sub B B') (p : PostS K T B Z cm W r Ed) : PostS K T B' Z cm W r Ed := by
  cases r with
  | nx ρ s => exact fun σ H c q r => p σ H c q (r.weak h)
  | bk ρ s => exact fun σ H c q r => p σ H c q (r.weak h)
  | ct ρ s => exact fun σ H c q r => p σ H c q (r.weak h)
  | rt d s => exact fun v σ H c ρ q r z => p v σ H c ρ q (r.weak h) z
  | er c ds ρ s => exact fun cls dx σ H c q r z => p cls dx σ H c q (r.weak h) z
  | no => exact p
/-- what the walk's items stand on is seen -/
structure Seen (B : Hp) (Z : Addr → Prop) (G0 : Hp) : Prop where
  ag : ∀ a u o, B a = some u → G0 a = some o → u = o
  nz : ∀ a o, G0 a = some o → ¬ Z a
theorem Rel.sees {G0 : Hp} (hc : Seen B Z G0) (r : Rel K T (joinB B G0) Z cm σ H ρ s) : Sub G0 (GV cm Z (Ow σ ρ) H) := fun a o e => by
  have hz : ¬ Z a := hc.nz a o e
  have key : ∃ u, joinB B G0 a = some u := by
    cases q : B a with
    | none => exact ⟨o, by unfold joinB; rw [q]; exact e⟩
    | some u => exact ⟨u, joinB_left a u q⟩
  obtain ⟨u, hu⟩ := key
  have own : ¬ Ow σ ρ a := fun ⟨i, d, h1, h2⟩ => by
    obtain ⟨b, q1, _, _, _, q5⟩ := r.own i d h1
    have e : b = a := by rw [q1] at h2; cases h2; rfl
    rw [e, hu] at q5
    cases q5
  obtain ⟨k1, k2⟩ := r.base a u hu
  refine hid_some.mpr ⟨fun z => ?_, ?_⟩
  · rcases z with z | z | z
    · exact k2 z
    · exact hz z
    · exact own z
  · rcases joinB_some hu with q | q
    · rw [k1, hc.ag a u o q e]
    · rw [k1, ← q, e]
theorem Rel.seen {G0 : Hp} (hs : Sub G0 (GV cm Z (Ow σ ρ) H)) (r : Rel K T B Z cm σ H ρ s) : Seen B Z G0 := ⟨fun a u o h g => by
  have h1 := (r.base a u h).1
  have h2 := (hid_some.mp (hs a o g)).2
  rw [h1] at h2
  cases h2
  rfl, fun a o g z => (hid_some.mp (hs a o g)).1 (.inr (.inl z))⟩
/-- an item of the walk, where it came -/
theorem Rel.item {cm0 : List Addr} {G0 H2 : Hp} {x : V} {d : D} (hp : Pre cm0 cm) (hc : Seen B Z G0) (r : Rel K T (joinB B G0) Z cm σ H ρ s) (sb : Sub H H2) (h : Rep K T cm0 (glue G0 H H2) x d) :
    Rep K T cm (GV cm Z (Ow σ ρ) H2) x d := by
  refine Rep.mono hp (fun a o e => ?_) _ _ h
  unfold glue at e
  cases q : H a with
  | none =>
    rw [q] at e
    exact hid_some.mpr ⟨fun z => r.hidden z q, e⟩
  | some u =>
    rw [q] at e
    obtain ⟨n, e⟩ := hid_some.mp (r.sees hc a o e)
    exact hid_some.mpr ⟨n, sb a o e⟩
end

/-! ### for -/
def loopF (pm : Pt) (b : SM) : List D → SM
  | [] => fun ρ s => .nx ρ s
  | d :: ds => fun ρ s => match pm.run d ρ with
    | some ρ1 => match b ρ1 s with
      | .nx ρ' s' => loopF pm b ds ρ' s'
      | .ct ρ' s' => loopF pm b ds ρ' s'
      | .bk ρ' s' => .nx ρ' s'
      | .rt d s' => .rt d s'
      | .er k e ρ' s' => .er k e ρ' s'
      | .no => .no
    | none => .no
def mFor (mi : LM) (pm : Pt) (b : SM) : SM := fun ρ s => match mi ρ s with
  | .ok ds s1 => loopF pm b ds ρ s1
  | .er k e s1 => .er k e ρ s1
  | .no => .no
section
variable {X : Cx} {T : Tb} {W : WX} {tg iter : Expr} {body : List Stmt} {mi : LM} {pm : Pt} {b : SM} {pos : Pos}
theorem q_for (hp : PassesOwn (model X.prog X.w) X.A X.env X.xe) (hc : X.calm = true) (hi : QI X T W tg iter mi) (hg : QG X T tg pm) (hb : QSs X T W body b) (hs : ∀ x, foldedSetIterable iter X.env x = pure x := by intro _; rfl) : QSt X T W (.For tg iter body [] pos) (mFor mi pm b) := PS.conv (ps_for hp hc hi hg hb hs) fun Ed σ H h => by
  obtain ⟨B, Z, cm, ρ, s, r, p⟩ := h
  refine ⟨B, Z, cm, ρ, s, r, tE_of (fun ds s' e J H' cm' ex r' z => ?_) (fun c ds s' e cls dx H' cm' ex r' z => ?_) (fun e => ?_)⟩
  · unfold mFor at p
    rw [e] at p
    dsimp only at p
    obtain ⟨G, Y, w, hG, hY⟩ := z
    have ag := r'.seen (Sub.refl _)
    refine for_it w (fun i σ1 H1 => ∃ cm1 ρ1 s1, Pre cm' cm1 ∧ Rel X.K T (joinB B (GV cm' Z (Ow σ ρ) H')) Z cm1 σ1 H1 ρ1 s1 ∧ PostS X.K T B Z cm1 W (loopF pm b (ds.drop i) ρ1 s1) Ed) ⟨cm', ρ, s', .refl _, r'.strong (Sub.refl _), p.later ex.pre⟩ (fun i σ1 H1 hi q => ?_) (fun i x σ1 H1 H2 hi q y => ?_) (fun σ1 H1 q => ?_)
    · obtain ⟨cm1, ρ1, s1, q1, q2, q3⟩ := q
      exact hG H1 ((q2.sees ag).trans Sub.hidH)
    · obtain ⟨cm1, ρ1, s1, q1, q2, q3⟩ := q
      obtain ⟨sb, d, hd, rd⟩ := hY i H1 x H2 hi ((q2.sees ag).trans Sub.hidH) y
      have rd' := q2.item q1 ag sb rd
      rw [List.drop_eq_getElem_cons hi] at q3
      have ed : ds[i] = d := by rw [List.getElem?_eq_getElem hi] at hd; exact Option.some.inj hd
      rw [ed] at q3
      unfold loopF at q3
      have r2 : Rel X.K T (joinB B (GV cm' Z (Ow σ ρ) H')) Z cm1 σ1 H2 ρ1 s1 := q2.ext (Ext.grow sb) (q2.cells.grow sb)
      cases epm : pm.run d ρ1 with
      | none => rw [epm] at q3; exact q3.elim
      | some ρ2 =>
        rw [epm] at q3
        dsimp only at q3
        refine ⟨_, Z, cm1, ρ1, s1, d, ρ2, r2, rd', epm, fun σ2 r3 _ _ => ⟨_, Z, cm1, ρ2, s1, r3, ?_⟩⟩
        cases eb : b ρ2 s1 with
        | nx ρ3 s3 => rw [eb] at q3; exact fun σ' H' c q r => ⟨c, ρ3, s3, q1.trans q, r, q3.later q⟩
        | ct ρ3 s3 => rw [eb] at q3; exact fun σ' H' c q r => ⟨c, ρ3, s3, q1.trans q, r, q3.later q⟩
        | bk ρ3 s3 => rw [eb] at q3; exact fun σ' H' c q r => q3 σ' H' c q (r.weak joinB_left)
        | rt d3 s3 => rw [eb] at q3; exact fun v σ' H' c ρ' q r z => q3 v σ' H' c ρ' q (r.weak joinB_left) z
        | er k3 e3 ρ3 s3 => rw [eb] at q3; exact fun cls dx σ' H' c q r z => q3 cls dx σ' H' c q (r.weak joinB_left) z
        | no => rw [eb] at q3; exact q3
    · obtain ⟨cm1, ρ1, s1, q1, q2, q3⟩ := q
      rw [List.drop_length] at q3
      exact q3 σ1 H1 cm1 (.refl _) (q2.weak joinB_left)
  · unfold mFor at p
    rw [e] at p
    exact p cls dx σ H' cm' ex.pre r' z
  · unfold mFor at p
    rw [e] at p
    exact p
end

/-! ### comprehensions -/
def W0 : WX := fun _ _ _ _ => False
def R.ne {α : Type} (r : R α) : R α := match r with
  | .ok a s => .ok a s
  | _ => .no
def wipeR : List SD → List Nat → List SD
  | ρ, [] => ρ
  | ρ, v :: vs => (wipeR ρ vs).set v .un
def unowned (ρ : List SD) (vs : List Nat) : Bool := vs.all fun i => match ρ[i]? with | some (.own _) => false | _ => true
def compF (pm : Pt) (tt : TM) (te : EM) (ρ : List SD) : List D → S → R (List D)
  | [] => fun s => .ok [] s
  | d :: ds => fun s => match pm.run d ρ with
    | some ρ1 => (tt ρ1 s).ne.bind fun k s1 => match k with
      | true => (te ρ1 s1).ne.bind fun y s2 => (compF pm tt te ρ ds s2).bind fun ys s3 => .ok (y :: ys) s3
      | false => compF pm tt te ρ ds s1
    | none => .no
def mComp (vs : List Nat) (mi : LM) (pm : Pt) (tt : TM) (te : EM) : EM := fun ρ s => (mi ρ s).bind fun ds s1 =>
  if unowned ρ vs = true ∧ ds.length ≤ sizeLine then (compF pm tt te (wipeR ρ vs) ds s1).bind fun ys s2 => .ok (.lst ys) s2 else .no
def mYes : TM := fun _ s => .ok true s
abbrev QTs (X : Cx) (T : Tb) (W : WX) (es : List Expr) (m : TM) : Prop := PTs X es (tP X.K T W AT m)
theorem _root_.L2.PTs.conv {X : Cx} {e : List Expr} {t t' : TT} (h : PTs X e t) (c : ∀ σ H Q, t' σ H Q → t σ H Q) : PTs X e t' := ⟨fun pins s σ H Q I w => h.run pins s σ H Q I (c σ H Q w)⟩
theorem qts_nil {X : Cx} {T : Tb} {W : WX} : QTs X T W [] mYes := PTs.conv pts_nil fun σ H Q h => by
  obtain ⟨B, Z, cm, ρ, s, r, p⟩ := h
  exact p.fin (F := ⟨B, Z, σ, ρ⟩) r rfl
theorem qts_one {X : Cx} {T : Tb} {W : WX} {c : Expr} {t : TM} (h : QT X T W c t) : QTs X T W [c] t := pts_one h
theorem wipeR_get {i : Nat} : ∀ {ρ : List SD} {vs : List Nat}, (wipeR ρ vs)[i]? = if i ∈ vs ∧ i < ρ.length then some .un else ρ[i]?
  | ρ, [] => by simp [wipeR]
  | ρ, v :: vs => by
    have hlen : ∀ vs, (wipeR ρ vs).length = ρ.length := fun vs => by
      induction vs with
      | nil => rfl
      | cons a l ih => unfold wipeR; rw [List.length_set]; exact ih
    unfold wipeR
    by_cases e : v = i
    · subst e
      by_cases hl : v < ρ.length
      · rw [List.getElem?_set_self (by rw [hlen]; exact hl), if_pos ⟨List.mem_cons_self, hl⟩]
      · rw [List.getElem?_eq_none (by rw [List.length_set, hlen]; omega), if_neg (fun z => hl z.2), List.getElem?_eq_none (by omega)]
    · rw [List.getElem?_set_ne e, wipeR_get (ρ := ρ) (vs := vs)]
      have h : (i ∈ v :: vs ∧ i < ρ.length) ↔ (i ∈ vs ∧ i < ρ.length) := by
        rw [List.mem_cons]
        exact ⟨fun z => ⟨z.1.resolve_left (Ne.symm e), z.2⟩, fun z => ⟨.inr z.1, z.2⟩⟩
      by_cases hc : i ∈ vs ∧ i < ρ.length
      · rw [if_pos hc, if_pos (h.mpr hc)]
      · rw [if_neg hc, if_neg (fun z => hc (h.mp z))]
theorem wipeR_len {ρ : List SD} : ∀ {vs : List Nat}, (wipeR ρ vs).length = ρ.length
  | [] => rfl
  | _ :: vs => by unfold wipeR; rw [List.length_set]; exact wipeR_len
theorem wipe_wipe {σ : L2.St} {vs : List Nat} : wipe (wipe σ vs) vs = wipe σ vs := by
  apply List.ext_getElem?
  intro i
  rw [wipe_get, wipe_get, wipe_length]
  split <;> rfl
theorem ow_wipe {σ : L2.St} {ρ : List SD} {vs : List Nat} (hu : unowned ρ vs = true) : Ow (wipe σ vs) (wipeR ρ vs) = Ow σ ρ := by
  funext a
  apply propext
  constructor
  · rintro ⟨i, d, h1, h2⟩
    rw [wipeR_get] at h1
    rw [wipe_get] at h2
    by_cases hi : i ∈ vs ∧ i < ρ.length
    · rw [if_pos hi] at h1; cases h1
    · rw [if_neg hi] at h1
      have hl := (List.getElem?_eq_some_iff.mp h1).1
      rw [if_neg (fun z => hi ⟨z.1, hl⟩)] at h2
      exact ⟨i, d, h1, h2⟩
  · rintro ⟨i, d, h1, h2⟩
    have hi : i ∉ vs := fun z => by
      have := List.all_eq_true.mp hu i z
      rw [h1] at this
      cases this
    exact ⟨i, d, by rw [wipeR_get, if_neg (fun z => hi z.1)]; exact h1, by rw [wipe_get, if_neg (fun z => hi z.1)]; exact h2⟩
theorem Rel.wipe {K : PySem.W.Frag} {T : Tb} {B : Hp} {Z : Addr → Prop} {cm : List Addr} {σ : L2.St} {H : Hp} {ρ : List SD} {s : S} {vs : List Nat} (r : Rel K T B Z cm σ H ρ s) (hu : unowned ρ vs = true) : Rel K T B Z cm (L2.wipe σ vs) H (wipeR ρ vs) s where
  len := by rw [wipeR_len, wipe_length]; exact r.len
  val := fun i d h => by
    rw [ow_wipe hu]
    rw [wipeR_get] at h
    by_cases hi : i ∈ vs ∧ i < ρ.length
    · rw [if_pos hi] at h; cases h
    · rw [if_neg hi] at h
      have hl := (List.getElem?_eq_some_iff.mp h).1
      obtain ⟨v, h1, h2⟩ := r.val i d h
      exact ⟨v, by rw [wipe_get, if_neg (fun z => hi ⟨z.1, hl⟩)]; exact h1, h2⟩
  own := fun i d h => by
    rw [ow_wipe hu]
    rw [wipeR_get] at h
    by_cases hi : i ∈ vs ∧ i < ρ.length
    · rw [if_pos hi] at h; cases h
    · rw [if_neg hi] at h
      have hl := (List.getElem?_eq_some_iff.mp h).1
      obtain ⟨v, h1, h2⟩ := r.own i d h
      exact ⟨v, by rw [wipe_get, if_neg (fun z => hi ⟨z.1, hl⟩)]; exact h1, h2⟩
  apart := fun i j d e a h1 h2 h3 h4 => by
    rw [wipeR_get] at h1 h2
    rw [wipe_get] at h3 h4
    by_cases hi : i ∈ vs ∧ i < ρ.length
    · rw [if_pos hi] at h1; cases h1
    · by_cases hj : j ∈ vs ∧ j < ρ.length
      · rw [if_pos hj] at h2; cases h2
      · rw [if_neg hi] at h1
        rw [if_neg hj] at h2
        rw [if_neg (fun z => hi ⟨z.1, (List.getElem?_eq_some_iff.mp h1).1⟩)] at h3
        rw [if_neg (fun z => hj ⟨z.1, (List.getElem?_eq_some_iff.mp h2).1⟩)] at h4
        exact r.apart i j d e a h1 h2 h3 h4
  cells := by rw [ow_wipe hu]; exact r.cells
  base := r.base
theorem unowned_wipeR {ρ : List SD} {vs : List Nat} : unowned (wipeR ρ vs) vs = true := by
  apply List.all_eq_true.mpr
  intro i hi
  rw [wipeR_get]
  by_cases hl : i < ρ.length
  · rw [if_pos ⟨hi, hl⟩]
  · rw [if_neg (fun z => hl z.2), List.getElem?_eq_none (by omega)]
theorem PmOk.wipe {vs us : List Nat} {ρ ρ' : List SD} (h : PmOk us ρ ρ') (hs : ∀ j ∈ us, j ∈ vs) : wipeR ρ' vs = wipeR ρ vs := by
  apply List.ext_getElem?
  intro i
  rw [wipeR_get, wipeR_get, h.len]
  by_cases hi : i ∈ vs
  · by_cases hl : i < ρ.length
    · rw [if_pos ⟨hi, hl⟩, if_pos ⟨hi, hl⟩]
    · rw [if_neg (fun z => hl z.2), if_neg (fun z => hl z.2), List.getElem?_eq_none (by rw [h.len]; omega), List.getElem?_eq_none (by omega)]
  · rw [if_neg (fun z => hi z.1), if_neg (fun z => hi z.1), h.off i fun z => hi (hs i z)]
theorem PmOk.unowned {vs us : List Nat} {ρ ρ' : List SD} (h : PmOk us ρ ρ') (hu : unowned ρ vs = true) : unowned ρ' vs = true := by
  apply List.all_eq_true.mpr
  intro i hi
  split
  · rename_i d e
    have := List.all_eq_true.mp hu i hi
    rw [h.own i d e] at this
    exact this
  · rfl
theorem wipeR_wipeR {ρ : List SD} {vs : List Nat} : wipeR (wipeR ρ vs) vs = wipeR ρ vs := by
  apply List.ext_getElem?
  intro i
  rw [wipeR_get, wipeR_get, wipeR_len]
  split <;> rfl
section
variable {K : PySem.W.Frag} {T : Tb} {B : Hp} {Z : Addr → Prop} {cm : List Addr} {σ : L2.St} {H : Hp} {ρ : List SD} {s : S}
/-- what was hidden beyond is so no more -/
theorem Rel.lessZ {Z' : Addr → Prop} (hz : ∀ a, Z a → Z' a) (r : Rel K T B Z' cm σ H ρ s) : Rel K T B Z cm σ H ρ s := by
  have sub : Sub (GV cm Z' (Ow σ ρ) H) (GV cm Z (Ow σ ρ) H) := hid_sub fun a u n e => ⟨fun z => by
    rcases z with z | z | z
    · exact n (.inl z)
    · exact n (.inr (.inl (hz a z)))
    · exact n (.inr (.inr z)), e⟩
  refine ⟨r.len, fun i d e => ?_, fun i d e => ?_, r.apart, ⟨r.cells.len, r.cells.nd, fun n a d e1 e2 => (r.cells.at_ n a d e1 e2).ext (.refl _) sub fun o z => z, r.cells.there, fun a m => r.cells.zok a (hz a m), r.cells.nosf⟩, r.base⟩
  · obtain ⟨v, h1, h2⟩ := r.val i d e
    exact ⟨v, h1, Rep.mono (.refl _) sub _ _ h2⟩
  · obtain ⟨a, h1, h2, h3, h4, h5⟩ := r.own i d e
    exact ⟨a, h1, h2.ext (.refl _) sub fun o z => z, h3, fun z => h4 (hz a z), h5⟩
/-- a hidden list of ours changed -/
theorem Rel.putZ {p : Addr} {o : HO} (hp : Z p) (hH : H p ≠ none) (hc : p ∉ cm) (hb : B p = none) (r : Rel K T B Z cm σ H ρ s) : Rel K T B Z cm σ (upd H p o) ρ s := by
  have eG : ∀ O, GV cm Z O (upd H p o) = GV cm Z O H := fun O => by
    funext a
    show hid (HidP cm Z O) _ a = hid (HidP cm Z O) _ a
    unfold hid
    by_cases h : HidP cm Z O a
    · rw [if_pos h, if_pos h]
    · rw [if_neg h, if_neg h, upd_ne (fun e => h (.inr (.inl (by rw [e]; exact hp))))]
  have keep : ∀ a u, a ≠ p → H a = some u → upd H p o a = some u := fun a u n e => by rw [upd_ne n]; exact e
  have there : ∀ a, H a ≠ none → upd H p o a ≠ none := fun a h => by
    by_cases e : a = p
    · rw [e, upd_same]; intro z; cases z
    · rw [upd_ne e]; exact h
  refine ⟨r.len, fun i d e => by rw [eG]; exact r.val i d e, fun i d e => ?_, r.apart, ⟨r.cells.len, r.cells.nd, fun n a d e1 e2 => ?_, fun a m => there a (r.cells.there a m), fun a m => there a (r.cells.zok a m), r.cells.nosf⟩, fun a u e => ?_⟩
  · rw [eG]
    obtain ⟨a, h1, h2, h3, h4, h5⟩ := r.own i d e
    exact ⟨a, h1, h2.ext (.refl _) (Sub.refl _) (fun u z => keep a u (fun e => h4 (e ▸ hp)) z), h3, h4, h5⟩
  · rw [eG]
    have hm : a ∈ cm := List.mem_of_getElem? e1
    exact (r.cells.at_ n a d e1 e2).ext (.refl _) (Sub.refl _) fun u z => keep a u (fun e => hc (e ▸ hm)) z
  · obtain ⟨h1, h2⟩ := r.base a u e
    exact ⟨keep a u (fun q => by rw [q, hb] at e; cases e) h1, h2⟩
theorem Ext.put {cm1 : List Addr} {H1 : Hp} {p : Addr} {o : HO} (e : Ext cm H cm1 H1) (h : H p = none) : Ext cm H cm1 (upd H1 p o) :=
  ⟨e.pre, fun a u h1 h2 => ⟨by rw [upd_ne (ne_of_none h1 h)]; exact (e.keep a u h1 h2).1, (e.keep a u h1 h2).2⟩, fun a q => by
    by_cases z : a = p
    · rw [z, upd_same]; intro y; cases y
    · rw [upd_ne z]; exact e.there a q⟩
theorem tComp_of {W : WX} {mi : LM} {pm : Pt} {tt : TM} {te : EM} {vs : List Nat} {Q : VK} (hv : ∀ j ∈ pm.vs, j ∈ vs) (h : tP K T W (AF K T) (mComp vs mi pm tt te) σ H Q) :
    tLc (tP K T W (AW K T) mi) (tG K T pm) (tP K T W0 AT tt) (tP K T W0 (AR K T) te) vs σ H Q := by
  refine h.bind (AW K T) up_AF fun B Z cm0 ρ J H1 ⟨cm1, ds, s1, e1, r1, a1, p1⟩ => ?_
  dsimp only at p1
  split at p1
  · rename_i hok
    obtain ⟨hu, hl⟩ := hok
    intro p hD
    obtain ⟨G, Y, w, hG, hY⟩ := a1
    obtain ⟨p', ds0, xs0, ep, ed, _, hc0, r2, hx0, q0⟩ := rep_lst r1 hD (.nil : Reps K T cm1 _ [] [])
    obtain rfl : p = p' := V.ref.inj ep
    cases ed
    have hx0' : (upd H1 p (.lst [])) p = some (.lst []) := upd_same
    have sub1 : Sub (GV cm1 Z (Ow σ ρ) H1) (GV cm1 (fun a => Z a ∨ a = p) (Ow σ ρ) (upd H1 p (.lst []))) := hid_sub fun a u n e => ⟨fun z => by
      rcases z with z | z | z
      · exact n (.inl z)
      · rcases z with z | z
        · exact n (.inr (.inl z))
        · rw [z, hD] at e; cases e
      · exact n (.inr (.inr z)), sub_upd hD a u e⟩
    have rw0 := r2.wipe hu
    have hs0 : Sub (GV cm1 Z (Ow σ ρ) H1) (GV cm1 (fun a => Z a ∨ a = p) (Ow (L2.wipe σ vs) (wipeR ρ vs)) (upd H1 p (.lst []))) := by
      rw [ow_wipe hu]
      exact sub1
    have sn := rw0.seen hs0
    have hBp : B p = none := by
      cases q : B p with
      | none => rfl
      | some o =>
        have := (r1.base p o q).1
        rw [hD] at this
        cases this
    have hJp : joinB B (GV cm1 Z (Ow σ ρ) H1) p = none := joinB_none hBp (by
      cases q : GV cm1 Z (Ow σ ρ) H1 p with
      | none => rfl
      | some o =>
        have := (hid_some.mp q).2
        rw [hD] at this
        cases this)
    refine lc_it w (fun i H2 => ∃ cm2 s2 acc accD, Pre cm1 cm2 ∧ Ext cm1 H1 cm2 H2 ∧ p ∉ cm2 ∧ Rel K T (joinB B (GV cm1 Z (Ow σ ρ) H1)) (fun a => Z a ∨ a = p) cm2 (L2.wipe σ vs) H2 (wipeR ρ vs) s2 ∧ H2 p = some (.lst acc) ∧
      Reps K T cm2 (GV cm2 (fun a => Z a ∨ a = p) (Ow σ ρ) H2) acc accD ∧ accD.length ≤ i ∧ Post K T ⟨B, Z, σ, ρ⟩ cm1 H1 W (AF K T) ((compF pm tt te (wipeR ρ vs) (ds.drop i) s2).bind fun ys s3 => .ok (.lst (accD ++ ys)) s3) Q)
      ⟨cm1, s1, [], [], .refl _, Ext.grow (sub_upd hD), hc0, rw0.strong hs0, upd_same, .nil, Nat.le_refl _, p1⟩ (fun i H2 hi q => ?_) (fun i x H2 H3 hi q y => ?_) (fun H2 q => ?_)
    · obtain ⟨cm2, s2, acc, accD, q1, q2, q3, q4, q5, q6, q7, q8⟩ := q
      exact hG H2 ((q4.sees sn).trans Sub.hidH)
    · obtain ⟨cm2, s2, acc, accD, q1, q2, q3, q4, q5, q6, q7, q8⟩ := q
      obtain ⟨sb, d, hd, rd⟩ := hY i H2 x H3 hi ((q4.sees sn).trans Sub.hidH) y
      have rd' := q4.item q1 sn sb rd
      rw [List.drop_eq_getElem_cons hi] at q8
      have ed : ds[i] = d := by rw [List.getElem?_eq_getElem hi] at hd; exact Option.some.inj hd
      rw [ed] at q8
      have r3 : Rel K T (joinB B (GV cm1 Z (Ow σ ρ) H1)) (fun a => Z a ∨ a = p) cm2 (L2.wipe σ vs) H3 (wipeR ρ vs) s2 := q4.ext (Ext.grow sb) (q4.cells.grow sb)
      have x3 : Ext cm1 H1 cm2 H3 := q2.trans (Ext.grow sb)
      have hp3 := sb _ _ q5
      have sub23 : Sub (GV cm2 (fun a => Z a ∨ a = p) (Ow σ ρ) H2) (GV cm2 (fun a => Z a ∨ a = p) (Ow σ ρ) H3) := (Ext.grow sb).sub
      have acc3 := Reps.mono (.refl _) sub23 _ _ q6
      cases epm : pm.run d (wipeR ρ vs) with
      | none =>
        unfold compF at q8
        rw [epm] at q8
        exact q8.elim
      | some ρ2 =>
        have ok := pm.ok _ _ _ epm
        unfold compF at q8
        rw [epm] at q8
        dsimp only at q8
        have hlenacc : acc.length < sizeLine := by
          have := q6.len
          omega
        have oeq : ∀ σ2, wipe σ2 vs = wipe σ vs → Ow σ2 ρ2 = Ow σ ρ := fun σ2 e => by
          rw [← ow_wipe (σ := σ2) (ok.unowned unowned_wipeR), e, ok.wipe hv, wipeR_wipeR, ow_wipe hu]
        refine ⟨_, _, cm2, wipeR ρ vs, s2, d, ρ2, r3, rd', epm, fun σ2 r4 _ off => ?_⟩
        have hw : wipe σ2 vs = wipe σ vs := by
          rw [(off.mono hv).wipe, wipe_wipe]
        refine ⟨hw, _, _, cm2, ρ2, s2, r4, tE_of (fun k s4 e b H4 cm4 ex4 r5 z => ?_) (fun c es s' e => ?_) (fun e => ?_)⟩
        · cases z
          rw [e] at q8
          obtain ⟨hp4, hc4⟩ := ex4.keep _ _ hp3 q3
          have x4 : Ext cm1 H1 cm4 H4 := x3.trans ex4
          have acc4 := Reps.mono ex4.pre (ex4.sub (Z := fun a => Z a ∨ a = p) (O := Ow σ ρ)) _ _ acc3
          cases k with
          | false =>
            rw [if_neg Bool.false_ne_true]
            have r6 := r5.wipe (vs := vs) (ok.unowned unowned_wipeR)
            rw [hw, ok.wipe hv, wipeR_wipeR] at r6
            exact ⟨cm4, s4, acc, accD, x4.pre, x4, hc4, r6, hp4, acc4, Nat.le_succ_of_le q7, q8⟩
          | true =>
            rw [if_pos rfl]
            refine ⟨_, _, cm4, ρ2, s4, r5, tE_of (fun dy s5 e2 yv H5 cm5 ex5 r6 z2 => ?_) (fun c es s' e2 => ?_) (fun e2 => ?_)⟩
            · have q8 : Post K T ⟨B, Z, σ, ρ⟩ cm1 H1 W (AF K T) ((((te ρ2 s4).ne.bind fun y s2 => (compF pm tt te (wipeR ρ vs) (ds.drop (i + 1)) s2).bind fun ys s3 => .ok (y :: ys) s3)).bind fun ys s3 => .ok (.lst (accD ++ ys)) s3) Q := q8
              rw [e2] at q8
              obtain ⟨hp5, hc5⟩ := ex5.keep _ _ hp4 hc4
              have x5 : Ext cm1 H1 cm5 H5 := x4.trans ex5
              have acc5 := Reps.mono ex5.pre (ex5.sub (Z := fun a => Z a ∨ a = p) (O := Ow σ ρ)) _ _ acc4
              refine ⟨acc, hp5, hlenacc, ?_⟩
              have r7 := r6.wipe (vs := vs) (ok.unowned unowned_wipeR)
              rw [hw, ok.wipe hv, wipeR_wipeR] at r7
              have z2 : Rep K T cm5 (GV cm5 (fun a => Z a ∨ a = p) (Ow σ2 ρ2) H5) yv dy := z2
              rw [oeq σ2 hw] at z2
              have eG : GV cm5 (fun a => Z a ∨ a = p) (Ow σ ρ) (upd H5 p (.lst (acc ++ [yv]))) = GV cm5 (fun a => Z a ∨ a = p) (Ow σ ρ) H5 := by
                funext a
                show hid (HidP cm5 (fun a => Z a ∨ a = p) (Ow σ ρ)) _ a = hid (HidP cm5 (fun a => Z a ∨ a = p) (Ow σ ρ)) _ a
                unfold hid
                by_cases h : HidP cm5 (fun a => Z a ∨ a = p) (Ow σ ρ) a
                · rw [if_pos h, if_pos h]
                · rw [if_neg h, if_neg h, upd_ne (fun e => h (.inr (.inl (.inr e))))]
              refine ⟨cm5, s5, acc ++ [yv], accD ++ [dy], x5.pre, x5.put hD, hc5, r7.putZ (.inr rfl) (by rw [hp5]; intro z; cases z) hc5 hJp, upd_same, by rw [eG]; exact acc5.app (.cons z2 .nil), by rw [List.length_append]; exact Nat.succ_le_succ q7, ?_⟩
              have e3 : ∀ r : R (List D), ((r.bind fun ys s3 => R.ok (dy :: ys) s3).bind fun ys s3 => R.ok (D.lst (accD ++ ys)) s3) = r.bind fun ys s3 => R.ok (D.lst ((accD ++ [dy]) ++ ys)) s3 := fun r => by
                cases r with
                | ok ys s3 =>
                  show R.ok (D.lst (accD ++ (dy :: ys))) s3 = R.ok (.lst ((accD ++ [dy]) ++ ys)) s3
                  rw [List.append_assoc]
                  rfl
                | er _ _ _ => rfl
                | no => rfl
              rw [← e3]
              exact q8
            · have q8 : Post K T ⟨B, Z, σ, ρ⟩ cm1 H1 W (AF K T) ((((te ρ2 s4).ne.bind fun y s2 => (compF pm tt te (wipeR ρ vs) (ds.drop (i + 1)) s2).bind fun ys s3 => .ok (y :: ys) s3)).bind fun ys s3 => .ok (.lst (accD ++ ys)) s3) Q := q8
              rw [e2] at q8
              exact q8.elim
            · have q8 : Post K T ⟨B, Z, σ, ρ⟩ cm1 H1 W (AF K T) ((((te ρ2 s4).ne.bind fun y s2 => (compF pm tt te (wipeR ρ vs) (ds.drop (i + 1)) s2).bind fun ys s3 => .ok (y :: ys) s3)).bind fun ys s3 => .ok (.lst (accD ++ ys)) s3) Q := q8
              rw [e2] at q8
              exact q8
        · rw [e] at q8
          exact q8.elim
        · rw [e] at q8
          exact q8
    · obtain ⟨cm2, s2, acc, accD, q1, q2, q3, q4, q5, q6, q7, q8⟩ := q
      rw [List.drop_length] at q8
      have q8 : Post K T ⟨B, Z, σ, ρ⟩ cm1 H1 W (AF K T) (.ok (.lst (accD ++ [])) s2) Q := q8
      rw [List.append_nil] at q8
      have sub5 : Sub (GV cm1 Z (Ow σ ρ) H1) (GV cm2 (fun a => Z a ∨ a = p) (Ow σ ρ) H2) := hid_sub fun a u n e => by
        have nc : a ∉ cm1 := fun z => n (.inl z)
        obtain ⟨k1, k2⟩ := q2.keep a u e nc
        refine ⟨fun z => ?_, k1⟩
        rcases z with z | z | z
        · exact k2 z
        · rcases z with z | z
          · exact n (.inr (.inl z))
          · rw [z, hD] at e; cases e
        · exact n (.inr (.inr z))
      have r5 : Rel K T B (fun a => Z a ∨ a = p) cm2 σ H2 ρ s2 := by
        refine ⟨r1.len, fun j e h => ?_, fun j e h => ?_, r1.apart, ?_, fun a o e => q4.base a o (joinB_left a o e)⟩
        · obtain ⟨v, h1, h2⟩ := r1.val j e h
          exact ⟨v, h1, Rep.mono q1 sub5 _ _ h2⟩
        · obtain ⟨a, h1, h2, h3, h4, h5⟩ := r1.own j e h
          have ha : ∃ o, H1 a = some o := by
            cases z : H1 a with
            | none => exact absurd z h2.there
            | some o => exact ⟨o, rfl⟩
          obtain ⟨o, ha⟩ := ha
          refine ⟨a, h1, h2.ext q1 sub5 (fun o z => (q2.keep a o z h3).1), (q2.keep a o ha h3).2, fun z => ?_, h5⟩
          rcases z with z | z
          · exact h4 z
          · rw [z, hD] at ha; cases ha
        · have := q4.cells
          rw [ow_wipe hu] at this
          exact this
      exact q8 _ _ cm2 q2 (r5.lessZ fun a z => .inl z) ⟨p, accD, acc, rfl, rfl, hD, q3, r5, q5, q6⟩
  · exact p1.elim
end
section
variable {X : Cx} {T : Tb} {W : WX} {elt tg iter : Expr} {ifs : List Expr} {scope : Scope} {own : List (Str × Nat)} {vs : List Nat} {pos spos : Pos} {mi : LM} {pm : Pt} {tt : TM} {te : EM}
theorem q_comp (hc : X.calm = true) (hN : X.N.Nodup) (hi : QI X T W tg iter mi) (ok : BlkOk X.N X.env.scope scope own)
    (hg : ∀ (s : Shared) (H : Hp) (C : Addr) (cl : List (Str × Addr)) (fp : List Addr), QG (X.blk s H scope (compEnvC scope cl C X.env) fp) T tg pm) (ht : ∀ (s : Shared) (H : Hp) (C : Addr) (cl : List (Str × Addr)) (fp : List Addr), QTs (X.blk s H scope (compEnvC scope cl C X.env) fp) T W0 ifs tt)
    (he : ∀ (s : Shared) (H : Hp) (C : Addr) (cl : List (Str × Addr)) (fp : List Addr), QE (X.blk s H scope (compEnvC scope cl C X.env) fp) T W0 elt te) (hv : ∀ j ∈ pm.vs, j ∈ vs := by decide) (hvs : own.map (·.2) = vs := by rfl) (hs : ∀ x, foldedSetIterable iter X.env x = pure x := by intro _; rfl) :
    QF X T W (.ListComp elt [⟨tg, iter, ifs, 0⟩] scope pos) (mComp vs mi pm tt te) := by
  subst hvs
  exact PE.conv (pe_lc hc hN hi ok hg ht he hs) fun _ _ _ h => tComp_of hv h
theorem q_setComp {i : Nat} {y : Str} {py : Pos} (hc : X.calm = true) (hN : X.N.Nodup) (hyl : X.env.scope.names.lookup y = some .local)
    (hi : QI X T W tg iter mi) (ok : BlkOk X.N X.env.scope scope own)
    (hg : ∀ (s : Shared) (H : Hp) (C : Addr) (cl : List (Str × Addr)) (fp : List Addr), QG (X.blk s H scope (compEnvC scope cl C X.env) fp) T tg pm) (ht : ∀ (s : Shared) (H : Hp) (C : Addr) (cl : List (Str × Addr)) (fp : List Addr), QTs (X.blk s H scope (compEnvC scope cl C X.env) fp) T W0 ifs tt)
    (he : ∀ (s : Shared) (H : Hp) (C : Addr) (cl : List (Str × Addr)) (fp : List Addr), QE (X.blk s H scope (compEnvC scope cl C X.env) fp) T W0 elt te) (hy : X.N[i]? = some y := by rfl) (hsw : swapsWith (.ListComp elt [⟨tg, iter, ifs, 0⟩] scope pos) (some (.Name y py)) spos.line X.env = pure true := by rfl) (hv : ∀ j ∈ pm.vs, j ∈ vs := by decide) (hvs : own.map (·.2) = vs := by rfl) (hs : ∀ x, foldedSetIterable iter X.env x = pure x := by intro _; rfl) :
    QSt X T W (.Assign [.Name y py] (.ListComp elt [⟨tg, iter, ifs, 0⟩] scope pos) spos) (mSet i (mComp vs mi pm tt te)) := by
  subst hvs
  exact PS.conv (ps_setLc hc hN hy hyl hsw hi ok hg ht he hs) fun Ed σ H h => by
    refine tComp_of hv (mE_of (A := AF X.K T) h fun B Z cm0 s0 cm H' ρ d s v pre r0 r z p => ?_)
    exact p (σ.set i (some v)) H' cm (.refl _) (Rel.set r (z.val r0))
theorem q_setCompO {i : Nat} {y : Str} {py : Pos} (hc : X.calm = true) (hN : X.N.Nodup) (hyl : X.env.scope.names.lookup y = some .local)
    (hi : QI X T W tg iter mi) (ok : BlkOk X.N X.env.scope scope own)
    (hg : ∀ (s : Shared) (H : Hp) (C : Addr) (cl : List (Str × Addr)) (fp : List Addr), QG (X.blk s H scope (compEnvC scope cl C X.env) fp) T tg pm) (ht : ∀ (s : Shared) (H : Hp) (C : Addr) (cl : List (Str × Addr)) (fp : List Addr), QTs (X.blk s H scope (compEnvC scope cl C X.env) fp) T W0 ifs tt)
    (he : ∀ (s : Shared) (H : Hp) (C : Addr) (cl : List (Str × Addr)) (fp : List Addr), QE (X.blk s H scope (compEnvC scope cl C X.env) fp) T W0 elt te) (hy : X.N[i]? = some y := by rfl) (hsw : swapsWith (.ListComp elt [⟨tg, iter, ifs, 0⟩] scope pos) (some (.Name y py)) spos.line X.env = pure true := by rfl) (hv : ∀ j ∈ pm.vs, j ∈ vs := by decide) (hvs : own.map (·.2) = vs := by rfl) (hs : ∀ x, foldedSetIterable iter X.env x = pure x := by intro _; rfl) :
    QSt X T W (.Assign [.Name y py] (.ListComp elt [⟨tg, iter, ifs, 0⟩] scope pos) spos) (mSetO i (mComp vs mi pm tt te)) := by
  subst hvs
  exact PS.conv (ps_setLc hc hN hy hyl hsw hi ok hg ht he hs) fun Ed σ H h => by
    refine tComp_of hv (mE_of (A := AF X.K T) h fun B Z cm0 s0 cm H' ρ d s v pre r0 r z p => ?_)
    split at p
    · rename_i hl
      exact p (σ.set i (some v)) H' cm (.refl _) (Rel.setOwn r0 hl z)
    · exact p.elim
end
end Tv

/-! Tv10: what is owned changes; several names at once -/
namespace Tv
open PySem PySem.Spec PyProof.Rows L2

section
variable {K : PySem.W.Frag} {T : Tb} {B : Hp} {Z : Addr → Prop} {cm : List Addr} {σ : L2.St} {H : Hp} {ρ : List SD} {s : S}
theorem Rel.ownLst {i : Nat} {ds : List D} (r : Rel K T B Z cm σ H ρ s) (h : ρ[i]? = some (.own (.lst ds))) : ∃ a xs, σ[i]? = some (some (.ref a)) ∧ H a = some (.lst xs) ∧ Reps K T cm (GV cm Z (Ow σ ρ) H) xs ds := by
  obtain ⟨a, h1, ⟨xs, h2, h3⟩, _⟩ := r.own i _ h
  exact ⟨a, xs, h1, h2, h3⟩
theorem Rel.putOwn {i : Nat} {ds ds' : List D} {a : Addr} {xs' : List V} (r : Rel K T B Z cm σ H ρ s) (h : ρ[i]? = some (.own (.lst ds))) (ha : σ[i]? = some (some (.ref a))) (q : Reps K T cm (GV cm Z (Ow σ ρ) H) xs' ds') :
    Rel K T B Z cm σ (upd H a (.lst xs')) (ρ.set i (.own (.lst ds'))) s := r.mutOwn h ha ⟨xs', upd_same, q⟩
theorem Rel.putOwn_rep {i : Nat} {ds : List D} {d' : D} {a : Addr} {o : HO} {v : V} {d : D} (r : Rel K T B Z cm σ H ρ s) (h : ρ[i]? = some (.own (.lst ds))) (ha : σ[i]? = some (some (.ref a))) (q : Rep K T cm (GV cm Z (Ow σ ρ) H) v d) :
    Rep K T cm (GV cm Z (Ow σ (ρ.set i (.own d'))) (upd H a o)) v d := by
  rw [GV_mut (.inr (.inr ⟨i, _, h, ha⟩)) (ow_set h)]
  exact q
end

/-! ### methods of an owned list -/
/-- r: the method's reading; g: what it gives and leaves -/
def OMeth (K : PySem.W.Frag) (T : Tb) (r : V → List V → Hp → VK → Prop) (g : List D → List D → Option (D × List D)) : Prop := ∀ (cm : List Addr) (G H : Hp) (a : Addr) (xs : List V) (ds : List D) (vs : List V) (as : List D) (d : D) (ds' : List D) (Q : VK),
  g ds as = some (d, ds') → H a = some (.lst xs) → Reps K T cm G xs ds → Reps K T cm G vs as → Sub G H → (∀ v xs', Rep K T cm G v d → Reps K T cm G xs' ds' → Q v (upd H a (.lst xs'))) → r (.ref a) vs H Q
def oAppend : List D → List D → Option (D × List D) := fun ds as => match as with
  | [d] => if ds.length < sizeLine then some (.non, ds ++ [d]) else none
  | _ => none
theorem om_append {K : PySem.W.Frag} {T : Tb} : OMeth K T rAppend oAppend := by
  intro cm G H a xs ds vs as d ds' Q hg ha rx rv sub q
  unfold oAppend at hg
  split at hg
  · split at hg
    · cases hg
      cases rv with
      | cons rv t =>
        cases t
        exact ⟨a, xs, _, rfl, rfl, ha, by rw [rx.len]; assumption, q _ _ .non (rx.app (.cons rv .nil))⟩
    · cases hg
  · cases hg
def oPop : List D → List D → Option (D × List D) := fun ds as => match as with
  | [] => match ds[ds.length - 1]? with | some d => some (d, ds.dropLast) | none => none
  | _ => none
theorem om_pop {K : PySem.W.Frag} {T : Tb} : OMeth K T rPop oPop := by
  intro cm G H a xs ds vs as d ds' Q hg ha rx rv sub q
  unfold oPop at hg
  split at hg
  · split at hg
    · rename_i e
      cases hg
      cases rv
      rw [← rx.len] at e
      obtain ⟨v, h1, h2⟩ := rx.get e
      exact ⟨a, xs, v, rfl, rfl, ha, h1, q _ _ h2 rx.dropLast⟩
    · cases hg
  · cases hg
def oInsert : List D → List D → Option (D × List D) := fun ds as => match as with
  | [.int i, d] => if ds.length < sizeLine ∧ 0 ≤ i ∧ i < 2 ^ 63 then some (.non, ds.take i.toNat ++ [d] ++ ds.drop i.toNat) else none
  | _ => none
def rInsert : V → List V → Hp → VK → Prop := fun x vs H Q => ∃ (l : Addr) (xs : List V) (i : Int) (y : V), x = .ref l ∧ vs = [.int i, y] ∧ H l = some (.lst xs) ∧ xs.length < sizeLine ∧ 0 ≤ i ∧ i < 2 ^ 63 ∧
    Q .non (upd H l (.lst (xs.take i.toNat ++ [y] ++ xs.drop i.toNat)))
theorem om_insert {K : PySem.W.Frag} {T : Tb} : OMeth K T rInsert oInsert := by
  intro cm G H a xs ds vs as d ds' Q hg ha rx rv sub q
  unfold oInsert at hg
  split at hg
  · split at hg
    · rename_i hc
      cases hg
      cases rv with
      | cons r1 t =>
        cases r1
        cases t with
        | cons r2 t =>
          cases t
          exact ⟨a, xs, _, _, rfl, rfl, ha, by rw [rx.len]; exact hc.1, hc.2.1, hc.2.2, q _ _ .non (((rx.take _).app (.cons r2 .nil)).app (rx.drop _))⟩
    · cases hg
  · cases hg
/-- extend by a list (another one) -/
def oExtend : List D → List D → Option (D × List D) := fun ds as => match as with
  | [.lst es] => if ds.length + es.length ≤ sizeLine then some (.non, ds ++ es) else none
  | _ => none
theorem om_extend {K : PySem.W.Frag} {T : Tb} : OMeth K T rExtend oExtend := by
  intro cm G H a xs ds vs as d ds' Q hg ha rx rv sub q
  unfold oExtend at hg
  split at hg
  · split at hg
    · cases hg
      cases rv with
      | cons r1 t =>
        cases t
        cases r1 with
        | lst h1 h2 =>
          exact ⟨a, _, xs, _, rfl, rfl, ha, sub _ _ h1, by rw [rx.len, h2.len]; assumption, q _ _ .non (rx.app h2)⟩
    · cases hg
  · cases hg
/-- the owned list of slot i -/
def ownL (i : Nat) (ρ : List SD) : Option (List D) := match ρ[i]? with
  | some (.own (.lst ds)) => some ds
  | _ => none
theorem ownL_some {i : Nat} {ρ : List SD} {ds : List D} (h : ownL i ρ = some ds) : ρ[i]? = some (.own (.lst ds)) := by
  unfold ownL at h
  split at h
  · cases h
    assumption
  · cases h
def mMethS (i : Nat) (g : List D → List D → Option (D × List D)) (lm : LM) : SM := fun ρ s => match ownL i ρ with
  | some ds => match lm ρ s with
    | .ok as s1 => match g ds as with
      | some (_, ds') => .nx (ρ.set i (.own (.lst ds'))) s1
      | none => .no
    | .er c ds s1 => .er c ds ρ s1
    | .no => .no
  | none => .no
section
variable {X : Cx} {T : Tb} {W : WX} {st : Stmt} {e : Expr} {es : List Expr} {m : EM} {lm : LM} {pos cpos apos p : Pos} {i n : Nat} {x name : Str} {id : String} {r : V → List V → Hp → VK → Prop} {g : List D → List D → Option (D × List D)}
theorem q_meth (pa : PlainAttrs "list") (slot : Slot "list" name id) (hty : typeOf (.builtin id) = pure (.type "method_descriptor")) (hm : MtR X id r) (og : OMeth X.K T r g) (hN : X.N[i]? = some x := by rfl) (hv : Vis X.env.scope x := by first | exact Or.inl rfl | exact Or.inr (Or.inl rfl) | exact Or.inr (Or.inr rfl)) (ha : QS X T W n (e :: es) lm)
    (hd : (x == ("__debug__" : Str)) = false := by decide) (hcd : (x == ("__classdict__" : Str)) = false := by decide)
    (hbase : attributeBase (.Name x p) name X.env (eval (.Name x p) X.env) = eval (.Name x p) X.env := by rfl)
    (hfew : ((backTo cpos (starEach (e :: es) X.env)).all (fun x => !x.1) && (backToKw cpos (keywordEach [] X.env)).all (fun x => x.1.isSome)
      && decide ((e :: es).length + ([] : List Keyword).length + (if ([] : List Keyword).isEmpty then 0 else 1) < 30)) = true := by rfl)
    (hline : (apos.endLine == cpos.line) = true := by rfl) (hs : starEach (e :: es) X.env = (false, eval e X.env) :: starEach es X.env := by rfl) (hplain : (backTo cpos (starEach es X.env)).any (·.1) = false := by rfl)
    (hsw : swapsWith (.Call (.Attribute (.Name x p) name apos) (e :: es) [] cpos) none pos.line X.env = pure false := by rfl) : QSt X T W (.Expr (.Call (.Attribute (.Name x p) name apos) (e :: es) [] cpos) pos) (mMethS i g lm) := by
  have h0 : PS X (.Expr (.Call (.Attribute (.Name x p) name apos) (e :: es) [] cpos) pos) _ := ps_expr (pe_bm pa slot hty hm (pe_var hN hv hd hcd) ha hbase hfew hline hs hplain) hsw
  refine ⟨fun pins s σ H Ed I h => ?_⟩
  refine h0.run pins s σ H Ed I ?_
  obtain ⟨B, Z, cm, ρ, s0, rr, p⟩ := h
  unfold mMethS at p
  cases e0 : ownL i ρ with
  | none => rw [e0] at p; exact p.elim
  | some ds =>
    rw [e0] at p
    have e0 := ownL_some e0
    obtain ⟨a, xs, h1, h2, h3⟩ := rr.ownLst e0
    refine ⟨_, h1, .inl ⟨rfl, xs, .of h2⟩, B, Z, cm, ρ, s0, rr, tE_of (fun as s' e b H' cm' ex r' z => ?_) (fun c es s' e cls dx H' cm' ex r' z => ?_) (fun e => ?_)⟩
    · dsimp only at p
      rw [e] at p
      dsimp only at p
      split at p
      · rename_i d ds' eg
        obtain ⟨a', xs', k1, k2, k3⟩ := r'.ownLst e0
        have ea : a' = a := by rw [h1] at k1; cases k1; rfl
        subst ea
        exact og cm' _ H' a' xs' ds b as d ds' _ eg k2 k3 z.1 Sub.hidH fun v xs2 _ q2 => p σ _ cm' ex.pre (r'.putOwn e0 k1 q2)
      · exact p.elim
    · dsimp only at p
      rw [e] at p
      exact p cls dx σ H' cm' ex.pre r' z
    · dsimp only at p
      rw [e] at p
      exact p
theorem q_meth0 (pa : PlainAttrs "list") (slot : Slot "list" name id) (hty : typeOf (.builtin id) = pure (.type "method_descriptor")) (hm : MtR X id r) (og : OMeth X.K T r g) (hN : X.N[i]? = some x := by rfl) (hv : Vis X.env.scope x := by first | exact Or.inl rfl | exact Or.inr (Or.inl rfl) | exact Or.inr (Or.inr rfl))
    (hd : (x == ("__debug__" : Str)) = false := by decide) (hcd : (x == ("__classdict__" : Str)) = false := by decide)
    (hbase : attributeBase (.Name x p) name X.env (eval (.Name x p) X.env) = eval (.Name x p) X.env := by rfl)
    (hline : (apos.endLine == cpos.line) = true := by rfl)
    (hsw : swapsWith (.Call (.Attribute (.Name x p) name apos) [] [] cpos) none pos.line X.env = pure false := by rfl) : QSt X T W (.Expr (.Call (.Attribute (.Name x p) name apos) [] [] cpos) pos) (mMethS i g mNil) := by
  have h0 : PS X (.Expr (.Call (.Attribute (.Name x p) name apos) [] [] cpos) pos) _ := ps_expr (pe_bm0 pa slot hty hm (pe_var hN hv hd hcd) hbase hline) hsw
  refine ⟨fun pins s σ H Ed I h => ?_⟩
  refine h0.run pins s σ H Ed I ?_
  obtain ⟨B, Z, cm, ρ, s0, rr, p⟩ := h
  unfold mMethS at p
  cases e0 : ownL i ρ with
  | none => rw [e0] at p; exact p.elim
  | some ds =>
    rw [e0] at p
    have e0 := ownL_some e0
    obtain ⟨a, xs, h1, h2, h3⟩ := rr.ownLst e0
    unfold mNil at p
    dsimp only at p
    split at p
    · rename_i d ds' eg
      exact ⟨_, h1, .inl ⟨rfl, xs, .of h2⟩, og cm _ H a xs ds [] [] d ds' _ eg h2 h3 .nil Sub.hidH fun v xs2 _ q2 => p σ _ cm (.refl _) (rr.putOwn e0 h1 q2)⟩
    · exact p.elim
end

/-! ### x[i] = e, of an owned list or a cell -/
def setIx (i : Nat) (k : Int) (d : D) (ρ : List SD) (s : S) : SR := match ρ[i]? with
  | some (.own (.lst ds)) => match ixN ds.length k with
    | some j => .nx (ρ.set i (.own (.lst (ds.set j d)))) s
    | none => .no
  | some (.v (.cell n)) => match s[n]? with
    | some (.lst ds) => match ixN ds.length k with
      | some j => .nx ρ (s.set n (.lst (ds.set j d)))
      | none => .no
    | _ => .no
  | _ => .no
def baseOk (i : Nat) (ρ : List SD) : Bool := match ρ[i]? with
  | some (.own _) => true
  | some (.v (.cell _)) => true
  | _ => false
def mSetIx (i : Nat) (mi m : EM) : SM := mE m fun d ρ s => match baseOk i ρ with
  | true => mE mi (fun k ρ s => match k with
    | .int k => setIx i k d ρ s
    | _ => .no) ρ s
  | false => .no
theorem Rel.baseOk {K : PySem.W.Frag} {T : Tb} {B : Hp} {Z : Addr → Prop} {cm : List Addr} {σ : L2.St} {H : Hp} {ρ : List SD} {s : S} {i : Nat} (r : Rel K T B Z cm σ H ρ s) (h : Tv.baseOk i ρ = true) : ∃ a, σ[i]? = some (some (.ref a)) := by
  unfold Tv.baseOk at h
  split at h
  · rename_i e
    obtain ⟨a, h1, _⟩ := r.own i _ e
    exact ⟨a, h1⟩
  · rename_i n e
    obtain ⟨v, h1, h2⟩ := r.val i _ e
    cases h2
    exact ⟨_, h1⟩
  · cases h
section
variable {X : Cx} {T : Tb} {W : WX} {e ix : Expr} {m mi : EM} {pos p p1 : Pos} {i : Nat} {x : Str}
theorem q_setIx (he : QE X T W e m) (hi : QE X T W ix mi) (hN : X.N[i]? = some x := by rfl) (hv : Vis X.env.scope x := by first | exact Or.inl rfl | exact Or.inr (Or.inl rfl) | exact Or.inr (Or.inr rfl))
    (hd : (x == ("__debug__" : Str)) = false := by decide) (hcd : (x == ("__classdict__" : Str)) = false := by decide)
    (ha : ∀ v, assign (.Subscript (.Name x p) ix p1) X.env v = (do
      let ov ← holding [v] (eval (.Name x p) X.env)
      let iv ← holding [v, ov] (eval ix X.env)
      standAt p1
      holding [v, ov, iv] (setItem ov iv v)
      release [v, ov, iv] []) := by intro _; rfl)
    (hs : swapsWithSole [.Subscript (.Name x p) ix p1] e pos.line X.env = pure false := by rfl) (hw : swappedStores [.Subscript (.Name x p) ix p1] e X.env = pure none := by rfl)
    (h1 : (assignEach [.Subscript (.Name x p) ix p1] X.env).map (·.2) = [assign (.Subscript (.Name x p) ix p1) X.env] := by rfl) : QSt X T W (.Assign [.Subscript (.Name x p) ix p1] e pos) (mSetIx i mi m) := by
  have h0 := ps_asg (pos := pos) he (pg_sub (pe_var (i := i) hN hv hd hcd) hi set_list ha) hs hw h1
  refine h0.conv fun Ed σ H h => ?_
  refine mE_of (A := AR X.K T) h fun B Z cm0 s0 cm H' ρ d s v pre r0 r z p => ?_
  cases eb : baseOk i ρ with
  | false => rw [eb] at p; exact p.elim
  | true =>
    rw [eb] at p
    dsimp only at p
    obtain ⟨a, ha⟩ := r.baseOk eb
    refine ⟨_, ha, B, Z, cm, ρ, s, r, tE_of (fun k s' e b H2 cm2 ex r' z2 => ?_) (fun c es s' e cls dx H2 cm2 ex r' z2 => ?_) (fun e => ?_)⟩
    · unfold mE at p
      rw [e] at p
      dsimp only at p
      split at p
      · rename_i k
        cases z2
        have z' : Rep X.K T cm2 (GV cm2 Z (Ow σ ρ) H2) v d := Rep.mono ex.pre ex.sub _ _ z
        unfold setIx at p
        split at p
        · rename_i ds e0
          split at p
          · rename_i j ej
            obtain ⟨a', xs, h1, h2, h3⟩ := r'.ownLst e0
            have ea : a' = a := by rw [ha] at h1; cases h1; rfl
            subst ea
            exact ⟨a', xs, k, j, rfl, rfl, h2, by rw [h3.len]; exact ej, p σ _ cm2 ex.pre (r'.putOwn e0 h1 (Reps.set z' j h3))⟩
          · exact p.elim
        · rename_i n e0
          split at p
          · rename_i ds es
            split at p
            · rename_i j ej
              obtain ⟨w, h1, h2⟩ := r'.val i _ e0
              rw [ha] at h1
              cases h1
              cases h2 with
              | cell hc =>
                obtain ⟨xs, k1, k2⟩ := r'.cells.at_ n a _ hc es
                exact ⟨a, xs, k, j, rfl, rfl, k1, by rw [k2.len]; exact ej, p σ _ cm2 ex.pre (r'.mutCell hc ⟨xs.set j v, upd_same, Reps.set z' j k2⟩)⟩
            · exact p.elim
          · exact p.elim
        · exact p.elim
      · exact p.elim
    · unfold mE at p
      rw [e] at p
      exact p cls dx σ H2 cm2 ex.pre r' z2
    · unfold mE at p
      rw [e] at p
      exact p
end

/-! ### a new cell, x += e, targets -/
def mCell (i : Nat) (m : EM) : SM := mE m fun d ρ s => .nx (ρ.set i (.v (.cell s.length))) (s ++ [d])
def mAug (i : Nat) (g : Int → Int → Int) (m : EM) : SM := fun ρ s => match ρ[i]? with
  | some (.v (.int a)) => mE m (fun d ρ s => match d with
    | .int b => .nx (ρ.set i (.v (.int (g a b)))) s
    | _ => .no) ρ s
  | _ => .no
def mPt (pt : Pt) (m : EM) : SM := mE m fun d ρ s => match pt.run d ρ with
  | some ρ' => .nx ρ' s
  | none => .no
section
variable {X : Cx} {T : Tb} {W : WX} {e tg : Expr} {m : EM} {pos pos' : Pos} {i : Nat} {x : Str} {g : Int → Int → Int} {pt : Pt}
theorem q_cell (hN : X.N.Nodup) (hi : X.N[i]? = some x := by rfl) (hx : Loc X.env.scope x := by first | exact Or.inl rfl | exact Or.inr rfl) (he : QF X T W e m) (hs : swapsWith e (some (.Name x pos')) pos.line X.env = pure false := by rfl) (hf : X.fn x = true ∨ X.env.scope.names.lookup x = some .local := by first | exact .inl rfl | exact .inr rfl | assumption) :
    QSt X T W (.Assign [.Name x pos'] e pos) (mCell i m) := PS.conv (ps_set hN hi hx he hs hf) fun D σ H h =>
  mE_of (A := AF X.K T) h fun B Z cm0 s0 cm H' ρ d s v pre r0 r z p => by
    obtain ⟨q, rfl, r2⟩ := Rel.newCell r0 z
    have len : cm.length = s.length := r.cells.len
    exact p (σ.set i (some (.ref q))) H' (cm ++ [q]) ⟨[q], rfl⟩ (Rel.set r2 (.cell (by rw [← len]; simp)))
theorem q_aug {op : Operator} (hN : X.N.Nodup) (ho : PIp X op (ipI g)) (he : QE X T W e m) (hi : X.N[i]? = some x := by rfl) (hx : Loc X.env.scope x := by first | exact Or.inl rfl | exact Or.inr rfl) (hf : X.fn x = true ∨ X.env.scope.names.lookup x = some .local := by first | exact .inl rfl | exact .inr rfl | assumption) :
    QSt X T W (.AugAssign (.Name x pos') op e pos) (mAug i g m) := PS.conv (ps_aug hN hi hx he ho hf) fun Ed σ H h => by
  obtain ⟨B, Z, cm, ρ, s, r, p⟩ := h
  unfold mAug at p
  split at p
  · rename_i a e0
    obtain ⟨v, h1, h2⟩ := r.val i _ e0
    cases h2
    refine ⟨_, h1, mE_of (A := AR X.K T) ⟨B, Z, cm, ρ, s, r, p⟩ fun B Z cm0 s0 cm H' ρ d s v pre r0 r z p => ?_⟩
    split at p
    · cases z
      exact ⟨_, _, rfl, rfl, p _ H' cm (.refl _) (r.set (.int _))⟩
    · exact p.elim
  · exact p.elim
theorem q_pt (he : QE X T W e m) (hg : QG X T tg pt) (hs : swapsWithSole [tg] e pos.line X.env = pure false := by rfl) (hw : swappedStores [tg] e X.env = pure none := by rfl)
    (h1 : (assignEach [tg] X.env).map (·.2) = [assign tg X.env] := by rfl) : QSt X T W (.Assign [tg] e pos) (mPt pt m) := PS.conv (ps_asg he hg hs hw h1) fun Ed σ H h =>
  mE_of (A := AR X.K T) h fun B Z cm0 s0 cm H' ρ d s v pre r0 r z p => by
    split at p
    · rename_i ρ' e0
      exact ⟨B, Z, cm, ρ, s, d, ρ', r, z, e0, fun σ' r' _ _ => p σ' H' cm (.refl _) r'⟩
    · exact p.elim
end
end Tv

/-! Tv11: several names at once, some of them with new lists; fields -/
namespace Tv
open PySem PySem.Spec PyProof.Rows L2

inductive MixR (K : PySem.W.Frag) (T : Tb) (cm : List Addr) (G H : Hp) : List Bool → List V → List D → List Addr → Prop
  | nil : MixR K T cm G H [] [] [] []
  | val {v : V} {d : D} {ms : List Bool} {vs : List V} {ds : List D} {ps : List Addr} : Rep K T cm G v d → MixR K T cm G H ms vs ds ps → MixR K T cm G H (false :: ms) (v :: vs) (d :: ds) ps
  | own {p : Addr} {xs : List V} {es : List D} {ms : List Bool} {vs : List V} {ds : List D} {ps : List Addr} : H p = some (.lst xs) → Reps K T cm G xs es → MixR K T cm G H ms vs ds ps → MixR K T cm G H (true :: ms) (.ref p :: vs) (.lst es :: ds) (p :: ps)
theorem MixR.mono {K : PySem.W.Frag} {T : Tb} {cm cm' : List Addr} {G G' H H' : Hp} (hc : Pre cm cm') (hg : Sub G G') : ∀ {ms : List Bool} {vs : List V} {ds : List D} {ps : List Addr}, (∀ p ∈ ps, ∀ o, H p = some o → H' p = some o) → MixR K T cm G H ms vs ds ps → MixR K T cm' G' H' ms vs ds ps
  | _, _, _, _, _, .nil => .nil
  | _, _, _, _, h, .val r t => .val (Rep.mono hc hg _ _ r) (MixR.mono hc hg h t)
  | _, _, _, _, h, .own e r t => .own (h _ List.mem_cons_self _ e) (Reps.mono hc hg _ _ r) (MixR.mono hc hg (fun p hp => h p (List.mem_cons_of_mem _ hp)) t)
def AX (K : PySem.W.Frag) (T : Tb) (ms : List Bool) : AK (List D) (List V) := fun F H0 cm H s vs ds => ∃ ps : List Addr, (∀ p ∈ ps, H0 p = none ∧ p ∉ cm) ∧ ps.Nodup ∧ Rel K T F.B (fun a => F.Z a ∨ a ∈ ps) cm F.σ H F.ρ s ∧
  MixR K T cm (GV cm (fun a => F.Z a ∨ a ∈ ps) F.O H) H ms vs ds ps
theorem up_AX {K : PySem.W.Frag} {T : Tb} {ms : List Bool} : Up (AX K T ms) := fun _ _ _ _ _ _ _ _ h z => by
  obtain ⟨ps, h1, h2⟩ := z
  exact ⟨ps, fun p hp => ⟨none_of_there h (h1 p hp).1, (h1 p hp).2⟩, h2⟩
theorem ErrRep.mono {K : PySem.W.Frag} {T : Tb} {cm cm' : List Addr} {G G' H H' : Hp} {cls : Value} {d : Option Addr} {c : Nat} {ds : List D} (h : ErrRep K T cm G H cls d c ds) (hc : Pre cm cm') (hg : Sub G G') (hh : ∀ a o, H a = some (.xd o) → H' a = some (.xd o)) : ErrRep K T cm' G' H' cls d c ds := by
  obtain ⟨h1, h2⟩ := h
  refine ⟨h1, ?_⟩
  rcases h2 with h2 | ⟨dx, gs, h2, h3, h4, h5⟩
  · exact .inl h2
  · exact .inr ⟨dx, gs, h2, hg _ _ h3, h4, Reps.mono hc hg _ _ h5⟩
abbrev QX (X : Cx) (T : Tb) (W : WX) (ms : List Bool) (es : List Expr) (m : LM) : Prop := PA X es (tP X.K T W (AX X.K T ms) m)
theorem or_nil {Z : Addr → Prop} : (fun a => Z a ∨ a ∈ ([] : List Addr)) = Z := by
  funext a
  simp
section
variable {X : Cx} {T : Tb} {W : WX} {ms : List Bool} {e : Expr} {es : List Expr} {m : EM} {lm : LM} {pos : Pos}
theorem qx_nil : QX X T W [] [] mNil := PA.conv pa_nil fun σ H Q h => by
  obtain ⟨B, Z, cm, ρ, s, r, p⟩ := h
  refine p.fin (F := ⟨B, Z, σ, ρ⟩) r ⟨[], (fun _ h => nomatch h), List.nodup_nil, ?_, .nil⟩
  show Rel X.K T B (fun a => Z a ∨ a ∈ ([] : List Addr)) cm σ H ρ s
  rw [or_nil]
  exact r
theorem qx_val (ha : QE X T W e m) (hr : QX X T W ms es lm) (hs : starEach (e :: es) X.env = (false, eval e X.env) :: starEach es X.env := by rfl) : QX X T W (false :: ms) (e :: es) (mCons m lm) := PA.conv (pa_cons ha hr hs) fun σ H Q h => by
  refine h.bind (AR X.K T) up_AX fun B Z cm ρ x H1 ⟨cm1, dx, s1, e1, r1, a1, p1⟩ => ?_
  refine ⟨B, Z, cm1, ρ, s1, r1, tE_of (fun ys s' e y H2 cm2 e2 r3 z => ?_) (fun c es s' e cls dx H2 cm2 e2 r3 z => ?_) (fun e => ?_)⟩
  · dsimp only at p1
    rw [e] at p1
    obtain ⟨ps, k1, k2, k3, k4⟩ := z
    refine p1 _ H2 cm2 e2 r3 ⟨ps, k1, k2, k3, .val (Rep.mono e2.pre (hid_sub fun a o n e => ?_) _ _ a1) k4⟩
    have nc : a ∉ cm1 := fun z => n (.inl z)
    obtain ⟨q1, q2⟩ := e2.keep a o e nc
    refine ⟨fun z => ?_, q1⟩
    rcases z with z | z | z
    · exact q2 z
    · rcases z with z | z
      · exact n (.inr (.inl z))
      · rw [(k1 a z).1] at e; cases e
    · exact n (.inr (.inr z))
  · dsimp only at p1
    rw [e] at p1
    exact p1 cls dx H2 cm2 e2 r3 z
  · dsimp only at p1
    rw [e] at p1
    exact p1
theorem qx_own (ha : QF X T W e m) (hr : QX X T W ms es lm) (hs : starEach (e :: es) X.env = (false, eval e X.env) :: starEach es X.env := by rfl) : QX X T W (true :: ms) (e :: es) (mCons m lm) := PA.conv (pa_cons ha hr hs) fun σ H Q h => by
  obtain ⟨B, Z, cm, ρ, s, r, P⟩ := h
  refine ⟨B, Z, cm, ρ, s, r, tE_of (fun d s1 em b H1 cm1 e1 r1 a1 => ?_) (fun c es s' e cls dx H2 cm2 e2 r3 z => ?_) (fun e => ?_)⟩
  case refine_2 =>
    unfold mCons at P
    rw [e] at P
    exact P cls dx H2 cm2 e2 r3 z
  case refine_3 =>
    unfold mCons at P
    rw [e] at P
    exact P
  unfold mCons at P
  rw [em] at P
  have p1 : Post X.K T ⟨B, Z, σ, ρ⟩ cm H W (AX X.K T (true :: ms)) ((lm ρ s1).bind fun xs s2 => .ok (d :: xs) s2) Q := P
  obtain ⟨p, ds, xs, rfl, rfl, hp, hc, r2, hx, q⟩ := a1
  have lessG : ∀ cm2 H2, Sub (GV cm2 (fun a => Z a ∨ a = p) (Ow σ ρ) H2) (GV cm2 Z (Ow σ ρ) H2) := fun cm2 H2 => hid_sub fun a o n e => ⟨fun z => by
    rcases z with z | z | z
    · exact n (.inl z)
    · exact n (.inr (.inl (.inl z)))
    · exact n (.inr (.inr z)), e⟩
  refine ⟨B, (fun a => Z a ∨ a = p), cm1, ρ, s1, r2, tE_of (fun ys s' e y H2 cm2 e2 r3 z => ?_) (fun c es s' e cls dx H2 cm2 e2 r3 z => ?_) (fun e => ?_)⟩
  · rw [e] at p1
    have p1 : Post X.K T ⟨B, Z, σ, ρ⟩ cm H W (AX X.K T (true :: ms)) (.ok (.lst ds :: ys) s') Q := p1
    obtain ⟨ps, k1, k2, k3, k4⟩ := z
    obtain ⟨hx2, hc2⟩ := e2.keep p _ hx hc
    have npp : p ∉ ps := fun z => by
      have := (k1 p z).1
      rw [hx] at this
      cases this
    have eZ : (fun a => Z a ∨ a ∈ p :: ps) = (fun a => (Z a ∨ a = p) ∨ a ∈ ps) := by
      funext a
      apply propext
      rw [List.mem_cons]
      constructor
      · rintro (h | h | h)
        · exact .inl (.inl h)
        · exact .inl (.inr h)
        · exact .inr h
      · rintro ((h | h) | h)
        · exact .inl h
        · exact .inr (.inl h)
        · exact .inr (.inr h)
    have sub2 : Sub (GV cm1 (fun a => Z a ∨ a = p) (Ow σ ρ) H1) (GV cm2 (fun a => (Z a ∨ a = p) ∨ a ∈ ps) (Ow σ ρ) H2) := hid_sub fun a o n e => by
      have nc : a ∉ cm1 := fun z => n (.inl z)
      obtain ⟨q1, q2⟩ := e2.keep a o e nc
      refine ⟨fun z => ?_, q1⟩
      rcases z with z | z | z
      · exact q2 z
      · rcases z with z | z
        · exact n (.inr (.inl z))
        · have := (k1 a z).1
          rw [this] at e; cases e
      · exact n (.inr (.inr z))
    have k3' : Rel X.K T B (fun a => Z a ∨ a ∈ p :: ps) cm2 σ H2 ρ s' := by rw [eZ]; exact k3
    have k4' : MixR X.K T cm2 (GV cm2 (fun a => Z a ∨ a ∈ p :: ps) (Ow σ ρ) H2) H2 (true :: ms) (.ref p :: y) (.lst ds :: ys) (p :: ps) := by rw [eZ]; exact .own hx2 (Reps.mono e2.pre sub2 _ _ q) k4
    refine p1 _ H2 cm2 (e1.trans e2) (r3.lessZ fun a z => .inl z) ⟨p :: ps, fun a ha => ?_, List.nodup_cons.mpr ⟨npp, k2⟩, k3', k4'⟩
    rcases List.mem_cons.mp ha with z | z
    · rw [z]
      exact ⟨hp, hc2⟩
    · exact ⟨none_of_there e1.there (k1 a z).1, (k1 a z).2⟩
  · rw [e] at p1
    exact p1 cls dx H2 cm2 (e1.trans e2) (r3.lessZ fun a z => .inl z) (z.mono (.refl _) (lessG _ _) fun _ _ h => h)
  · rw [e] at p1
    exact p1
end
/-- a hidden new list to a slot of its own -/
theorem Rel.setOwnZ {K : PySem.W.Frag} {T : Tb} {B : Hp} {Z : Addr → Prop} {cm : List Addr} {σ : L2.St} {H : Hp} {ρ : List SD} {s : S} {i : Nat} {p : Addr} {ds : List D} {xs : List V} (r : Rel K T B (fun a => Z a ∨ a = p) cm σ H ρ s) (hi : i < ρ.length) (nZ : ¬ Z p) (hc : p ∉ cm) (hB : B p = none)
    (hx : H p = some (.lst xs)) (q : Reps K T cm (GV cm (fun a => Z a ∨ a = p) (Ow σ ρ) H) xs ds) : Rel K T B Z cm (σ.set i (some (.ref p))) H (ρ.set i (.own (.lst ds))) s ∧ Sub (GV cm (fun a => Z a ∨ a = p) (Ow σ ρ) H) (GV cm Z (Ow (σ.set i (some (.ref p))) (ρ.set i (.own (.lst ds)))) H) := by
  have hiσ : i < σ.length := by rw [← r.len]; exact hi
  have sub : Sub (GV cm (fun a => Z a ∨ a = p) (Ow σ ρ) H) (GV cm Z (Ow (σ.set i (some (.ref p))) (ρ.set i (.own (.lst ds)))) H) := hid_sub fun a u n e => ⟨fun z => by
    rcases z with z | z | ⟨j, e, q1, q2⟩
    · exact n (.inl z)
    · exact n (.inr (.inl (.inl z)))
    · rcases set_get q1 with ⟨rfl, _, z⟩ | ⟨nj, z⟩
      · rw [List.getElem?_set_self hiσ] at q2
        cases q2
        exact n (.inr (.inl (.inr rfl)))
      · rw [List.getElem?_set_ne (Ne.symm nj)] at q2
        exact n (.inr (.inr ⟨j, e, z, q2⟩)), e⟩
  refine ⟨?_, sub⟩
  refine ⟨by rw [List.length_set, List.length_set]; exact r.len, fun j e h => ?_, fun j e h => ?_, fun j k e f a h1 h2 h3 h4 => ?_,
    ⟨r.cells.len, r.cells.nd, fun n a d e1 e2 => (r.cells.at_ n a d e1 e2).ext (.refl _) sub fun o z => z, r.cells.there, fun a m => r.cells.zok a (.inl m), r.cells.nosf⟩, r.base⟩
  · rcases set_get h with ⟨_, _, z⟩ | ⟨n, z⟩
    · cases z
    · obtain ⟨w, h1, h2⟩ := r.val j e z
      refine ⟨w, ?_, Rep.mono (.refl _) sub _ _ h2⟩
      rw [List.getElem?_set_ne (Ne.symm n)]
      exact h1
  · rcases set_get h with ⟨rfl, hl, z⟩ | ⟨n, z⟩
    · cases z
      refine ⟨p, ?_, ⟨xs, hx, Reps.mono (.refl _) sub _ _ q⟩, hc, nZ, ?_⟩
      · rw [List.getElem?_set_self hiσ]
      · exact hB
    · obtain ⟨a, h1, h2, h3, h4, h5⟩ := r.own j e z
      refine ⟨a, ?_, h2.ext (.refl _) sub fun o z => z, h3, fun q => h4 (.inl q), h5⟩
      rw [List.getElem?_set_ne (Ne.symm n)]
      exact h1
  · have key : ∀ (j : Nat) (e : D), (ρ.set i (.own (.lst ds)))[j]? = some (.own e) → (σ.set i (some (.ref p)))[j]? = some (some (V.ref a)) → (j = i ∧ a = p) ∨ (j ≠ i ∧ ρ[j]? = some (.own e) ∧ σ[j]? = some (some (.ref a)) ∧ a ≠ p) := fun j e q1 q2 => by
      rcases set_get q1 with ⟨rfl, _, z⟩ | ⟨nj, z⟩
      · rw [List.getElem?_set_self hiσ] at q2
        cases q2
        exact .inl ⟨rfl, rfl⟩
      · rw [List.getElem?_set_ne (Ne.symm nj)] at q2
        obtain ⟨b, h1, _, _, h4, _⟩ := r.own j e z
        rw [q2] at h1
        cases h1
        exact .inr ⟨nj, z, q2, fun e => h4 (.inr e)⟩
    rcases key j e h1 h3 with ⟨e1, e2⟩ | ⟨n1, z1, z2, z3⟩
    · rcases key k f h2 h4 with ⟨e3, e4⟩ | ⟨n2, y1, y2, y3⟩
      · rw [e1, e3]
      · exact absurd e2 y3
    · rcases key k f h2 h4 with ⟨e3, e4⟩ | ⟨n2, y1, y2, y3⟩
      · exact absurd e4 z3
      · exact r.apart j k e f a z1 y1 z2 y2

def setM : List Nat → List Bool → List D → List SD → Option (List SD)
  | [], [], [], ρ => some ρ
  | i :: is, m :: ms, d :: ds, ρ => if i < ρ.length then setM is ms ds (ρ.set i (match m with | true => .own d | false => .v d)) else none
  | _, _, _, _ => none
def setV : List Nat → List V → L2.St → L2.St
  | i :: is, v :: vs, σ => setV is vs (σ.set i (some v))
  | _, _, σ => σ
theorem Rel.setM {K : PySem.W.Frag} {T : Tb} {B : Hp} {Z : Addr → Prop} {cm : List Addr} {H : Hp} {s : S} {G : Hp} : ∀ (is : List Nat) {ms : List Bool} {ds : List D} {vs : List V} {ps : List Addr} {σ : L2.St} {ρ ρ' : List SD},
    Rel K T B (fun a => Z a ∨ a ∈ ps) cm σ H ρ s → MixR K T cm G H ms vs ds ps → Sub G (GV cm (fun a => Z a ∨ a ∈ ps) (Ow σ ρ) H) → ps.Nodup → (∀ p ∈ ps, p ∉ cm ∧ ¬ Z p ∧ B p = none) → Tv.setM is ms ds ρ = some ρ' → Rel K T B Z cm (setV is vs σ) H ρ' s
  | [], ms, ds, vs, ps, σ, ρ, ρ', r, m, hs, nd, hp, h => by
    cases m with
    | nil =>
      unfold Tv.setM at h
      cases h
      rw [or_nil] at r
      exact r
    | val _ _ => unfold Tv.setM at h; cases h
    | own _ _ _ => unfold Tv.setM at h; cases h
  | i :: is, ms, ds, vs, ps, σ, ρ, ρ', r, m, hs, nd, hp, h => by
    cases m with
    | nil => unfold Tv.setM at h; cases h
    | val q t =>
      unfold Tv.setM at h
      split at h
      · rename_i hl
        exact Rel.setM is (r.set (Rep.mono (.refl _) hs _ _ q)) t (hs.trans (sub_shrink fun a => ow_shrink)) nd hp h
      · cases h
    | @own p xs es ms vs ds ps e q t =>
      unfold Tv.setM at h
      split at h
      · rename_i hl
        have eZ : (fun a => Z a ∨ a ∈ p :: ps) = (fun a => (Z a ∨ a ∈ ps) ∨ a = p) := by
          funext a
          apply propext
          rw [List.mem_cons]
          constructor
          · rintro (h | h | h)
            · exact .inl (.inl h)
            · exact .inr h
            · exact .inl (.inr h)
          · rintro ((h | h) | h)
            · exact .inl h
            · exact .inr (.inr h)
            · exact .inr (.inl h)
        rw [eZ] at r hs
        obtain ⟨nd1, nd2⟩ := List.nodup_cons.mp nd
        obtain ⟨h1, h2, h3⟩ := hp p List.mem_cons_self
        obtain ⟨r', sub⟩ := Rel.setOwnZ (Z := fun a => Z a ∨ a ∈ ps) r hl (fun z => z.elim h2 nd1) h1 h3 e (Reps.mono (.refl _) hs _ _ q)
        exact Rel.setM is r' t (hs.trans sub) nd2 (fun a ha => hp a (List.mem_cons_of_mem _ ha)) h
      · cases h
def mPar (is : List Nat) (ms : List Bool) (lm : LM) : SM := fun ρ s => match lm ρ s with
  | .ok ds s1 => match setM is ms ds ρ with
    | some ρ' => .nx ρ' s1
    | none => .no
  | .er c ds s1 => .er c ds ρ s1
  | .no => .no
section
variable {X : Cx} {T : Tb} {W : WX} {ms : List Bool} {lm : LM} {a b c : Expr} {px py pz pt pos : Pos} {kt k2 pt2} {x y z : Str} {i j l : Nat}
theorem mPar_of {is : List Nat} {D0 : Ends} {σ : L2.St} {H : Hp} {Q : List V → Hp → Prop} (h : tS X.K T W (mPar is ms lm) D0 σ H)
    (q : ∀ vs H', vs.length = ms.length → D0.nx (setV is vs σ) H' → Q vs H') : tP X.K T W (AX X.K T ms) lm σ H Q := by
  obtain ⟨B, Z, cm, ρ, s, r, p⟩ := h
  refine ⟨B, Z, cm, ρ, s, r, tE_of (fun ds s' e vs H' cm' ex r' w => ?_) (fun c ds s' e cls dx H' cm' ex r' w => ?_) (fun e => ?_)⟩
  · unfold mPar at p
    rw [e] at p
    dsimp only at p
    split at p
    · rename_i ρ' e0
      obtain ⟨ps, k1, k2, k3, k4⟩ := w
      have lm : ∀ {ms : List Bool} {vs : List V} {ds : List D} {ps : List Addr} {G : Hp}, MixR X.K T cm' G H' ms vs ds ps → vs.length = ms.length := fun m => by
        induction m with
        | nil => rfl
        | val _ _ ih => rw [List.length_cons, List.length_cons, ih]
        | own _ _ _ ih => rw [List.length_cons, List.length_cons, ih]
      refine q vs H' (lm k4) (p _ H' cm' ex.pre (Rel.setM is k3 k4 (Sub.refl _) k2 (fun a ha => ⟨(k1 a ha).2, fun z => r.cells.zok a z (k1 a ha).1, ?_⟩) e0))
      cases hb : B a with
      | none => rfl
      | some o =>
        have := (r.base a o hb).1
        rw [(k1 a ha).1] at this
        cases this
    · exact p.elim
  · unfold mPar at p
    rw [e] at p
    exact p cls dx σ H' cm' ex.pre r' w
  · unfold mPar at p
    rw [e] at p
    exact p
theorem q_par {m1 m2 : Bool} (hc : X.calm = true) (hN : X.N.Nodup) (ha : QX X T W [m1, m2] [a, b] lm) (hi : X.N[i]? = some x := by rfl) (hj : X.N[j]? = some y := by rfl) (hij : i ≠ j := by decide)
    (hx : X.env.scope.names.lookup x = some .local := by rfl) (hy : X.env.scope.names.lookup y = some .local := by rfl)
    (hw : swappedStores [.Tuple [.Name x px, .Name y py] kt pt] (.Tuple [a, b] k2 pt2) X.env = pure (some [x, y]) := by rfl)
    (hs : swapsWithSole [.Tuple [.Name x px, .Name y py] kt pt] (.Tuple [a, b] k2 pt2) pos.line X.env = pure false := by rfl) :
    QSt X T W (.Assign [.Tuple [.Name x px, .Name y py] kt pt] (.Tuple [a, b] k2 pt2) pos) (mPar [i, j] [m1, m2] lm) :=
  PS.conv (ps_par hc hN hi hj hij hx hy ha hw hs) fun Ed σ H h => mPar_of h fun vs H' hl q => by
    match vs, hl with
    | [v, w], _ => exact ⟨v, w, rfl, q⟩
theorem q_par3 {m1 m2 m3 : Bool} (hc : X.calm = true) (hN : X.N.Nodup) (ha : QX X T W [m1, m2, m3] [a, b, c] lm) (hi : X.N[i]? = some x := by rfl) (hj : X.N[j]? = some y := by rfl) (hl : X.N[l]? = some z := by rfl) (hij : i ≠ j := by decide) (hil : i ≠ l := by decide) (hjl : j ≠ l := by decide)
    (hx : X.env.scope.names.lookup x = some .local := by rfl) (hy : X.env.scope.names.lookup y = some .local := by rfl) (hz : X.env.scope.names.lookup z = some .local := by rfl)
    (hw : swappedStores [.Tuple [.Name x px, .Name y py, .Name z pz] kt pt] (.Tuple [a, b, c] k2 pt2) X.env = pure (some [x, y, z]) := by rfl)
    (hs : swapsWithSole [.Tuple [.Name x px, .Name y py, .Name z pz] kt pt] (.Tuple [a, b, c] k2 pt2) pos.line X.env = pure false := by rfl) :
    QSt X T W (.Assign [.Tuple [.Name x px, .Name y py, .Name z pz] kt pt] (.Tuple [a, b, c] k2 pt2) pos) (mPar [i, j, l] [m1, m2, m3] lm) :=
  PS.conv (ps_par3 hc hN hi hj hl hij hil hjl hx hy hz ha hw hs) fun Ed σ H h => mPar_of h fun vs H' hl q => by
    match vs, hl with
    | [u, v, w], _ => exact ⟨u, v, w, rfl, q⟩
end
end Tv

/-! Tv12: defs and their calls -/
namespace Tv
open PySem PySem.Spec PyProof.Rows L2

abbrev O0 : Addr → Prop := fun _ => False
section
variable (K : PySem.W.Frag) (T : Tb)
/-- what a call is to give | r: what the callee reckons -/
def PostF (Z : Addr → Prop) (cm : List Addr) (H : Hp) (r : R D) (Q : VK) (E : XK) : Prop := match r with
  | .ok d s' => ∀ v H' cm', Ext cm H cm' H' → Cells K T Z O0 cm' H' s' → Rep K T cm' (GV cm' Z O0 H') v d → Q v H'
  | .er c ds s' => ∀ cls dx H' cm', Ext cm H cm' H' → Cells K T Z O0 cm' H' s' → ErrRep K T cm' (GV cm' Z O0 H') H' cls dx c ds → E cls dx H'
  | .no => False
def spD (n : Nat) (F : FM) : Sp := fun vs H Q E => vs.length = n ∧ ∃ cm Z ds s, Cells K T Z O0 cm H s ∧ Reps K T cm (GV cm Z O0 H) vs ds ∧ PostF K T Z cm H (F ds s) Q E
end
def mFun (e : Nat) (m : SM) : FM := fun ds s => match m (ds.map .v ++ List.replicate e .un) s with
  | .nx _ s' => .ok .non s'
  | .rt d s' => .ok d s'
  | .er c es _ s' => .er c es s'
  | _ => .no
section
variable {K : PySem.W.Frag} {T : Tb} {Z O : Addr → Prop} {cm cm1 : List Addr} {H H1 : Hp} {s s1 : S}
open Classical in
/-- all that is no cell -/
noncomputable def offC (cm : List Addr) (H : Hp) : Hp := fun a => if a ∈ cm then none else H a
theorem offC_some {a : Addr} {o : HO} : offC cm H a = some o ↔ a ∉ cm ∧ H a = some o := by
  unfold offC
  by_cases h : a ∈ cm
  · rw [if_pos h]
    exact ⟨fun z => by (have z : (none : Option HO) = some o := z; cases z), fun z => absurd h z.1⟩
  · rw [if_neg h]
    exact ⟨fun z => ⟨h, z⟩, fun z => z.2⟩
theorem Cells.fewer {O' : Addr → Prop} (c : Cells K T Z O cm H s) (h : ∀ a, O' a → O a) : Cells K T Z O' cm H s :=
  ⟨c.len, c.nd, fun n a d e1 e2 => (c.at_ n a d e1 e2).ext (.refl _) (sub_shrink h) fun _ e => e, c.there, c.zok, c.nosf⟩
theorem ow_args {ds : List D} {n : Nat} {σ : L2.St} : Ow σ (ds.map SD.v ++ List.replicate n SD.un) = O0 := by
  funext a
  apply propext
  constructor
  · rintro ⟨i, d, h1, h2⟩
    have := List.mem_of_getElem? h1
    rcases List.mem_append.mp this with z | z
    · obtain ⟨x, _, e⟩ := List.mem_map.mp z
      cases e
    · cases (List.mem_replicate.mp z).2
  · exact fun z => z.elim
theorem Rel.start {N : List Str} {vs : List V} {ds : List D} (c : Cells K T Z O0 cm H s) (r : Reps K T cm (GV cm Z O0 H) vs ds) (hl : vs.length ≤ N.length) : Rel K T (offC cm H) Z cm (L2.start N vs) H (ds.map SD.v ++ List.replicate (N.length - vs.length) SD.un) s where
  len := by
    unfold L2.start
    rw [List.length_append, List.length_append, List.length_map, List.length_map, List.length_replicate, List.length_replicate, r.len]
  val := fun i d h => by
    rw [ow_args]
    by_cases hi : i < ds.length
    · rw [List.getElem?_append_left (by rw [List.length_map]; exact hi), List.getElem?_map] at h
      cases e : ds[i]? with
      | none => rw [e] at h; cases h
      | some d' =>
        rw [e] at h
        cases h
        obtain ⟨v, h1, h2⟩ := r.get e
        refine ⟨v, ?_, h2⟩
        unfold L2.start
        rw [List.getElem?_append_left (by rw [List.length_map, r.len]; exact hi), List.getElem?_map, h1]
        rfl
    · rw [List.getElem?_append_right (by rw [List.length_map]; omega)] at h
      have := List.mem_of_getElem? h
      cases (List.mem_replicate.mp this).2
  own := fun i d h => by
    have := List.mem_of_getElem? h
    rcases List.mem_append.mp this with z | z
    · obtain ⟨x, _, e⟩ := List.mem_map.mp z
      cases e
    · cases (List.mem_replicate.mp z).2
  apart := fun i j d e a h1 _ _ _ => by
    have := List.mem_of_getElem? h1
    rcases List.mem_append.mp this with z | z
    · obtain ⟨x, _, e⟩ := List.mem_map.mp z
      cases e
    · cases (List.mem_replicate.mp z).2
  cells := by rw [ow_args]; exact c
  base := fun a o h => by
    obtain ⟨h1, h2⟩ := offC_some.mp h
    exact ⟨h2, h1⟩
theorem Rel.extC {σ : L2.St} {ρ : List SD} (r : Rel K T (offC cm H) Z cm1 σ H1 ρ s1) (p : Pre cm cm1) : Ext cm H cm1 H1 :=
  ⟨p, fun a o h n => r.base a o (offC_some.mpr ⟨n, h⟩), fun a h => by
    by_cases q : a ∈ cm
    · exact r.cells.there a (p.mem q)
    · cases e : H a with
      | none => exact absurd e h
      | some o => rw [(r.base a o (offC_some.mpr ⟨q, e⟩)).1]; intro z; cases z⟩
end
section
variable {P : Program} {w : World} {K : PySem.W.Frag} {mg : Str → Option Value} {base : Heap} {T : Tb} {x qual : Str} {params : Arguments} {body : List Stmt} {scope : Scope} {dvs : List V} {kws : List (Str × V)} {f : Addr} {fd : FuncData}
theorem post_fn {m : SM} {ds : List D} {e : Nat} {s : S} {Z : Addr → Prop} {cm : List Addr} {H : Hp} {Q : VK} {E : XK} (h : PostF K T Z cm H (mFun e m ds s) Q E) :
    PostS K T (offC cm H) Z cm (fun cls d _ H => E cls d H) (m (ds.map .v ++ List.replicate e .un) s) { nx := fun _ H' => Q .non H', rt := Q } := by
  unfold mFun at h
  cases e0 : m (ds.map .v ++ List.replicate e .un) s with
  | nx ρ' s' =>
    rw [e0] at h
    exact fun σ H' cm' p r => h .non H' cm' (r.extC p) (r.cells.fewer fun a z => z.elim) .non
  | rt d s' =>
    rw [e0] at h
    exact fun v σ H' cm' ρ p r z => h v H' cm' (r.extC p) (r.cells.fewer fun a z => z.elim) (Rep.mono (.refl _) (sub_shrink fun a z => z.elim) _ _ z)
  | er c es ρ' s' =>
    rw [e0] at h
    exact fun cls dx σ H' cm' p r z => h cls dx H' cm' (r.extC p) (r.cells.fewer fun a z => z.elim) (z.mono (.refl _) (sub_shrink fun a z => z.elim) fun _ _ h => h)
  | bk ρ' s' => rw [e0] at h; exact h.elim
  | ct ρ' s' => rw [e0] at h; exact h.elim
  | no => rw [e0] at h; exact h.elim
/-- a def keeps what its body reckons -/
theorem fn_ok {N ps : List Str} {k : Nat} {m : SM} (F : FunD K x qual params body scope dvs kws f fd) (S : FnScope N ps scope) (hN : ps.length ≤ N.length)
    (hbody : ∀ (cdv : Value) (A : Around) (outer : List Env) (s : Shared) (H : Hp) (E : XK), Room k (A.deeper (envOfC qual scope s.heap.objs.size f cdv)) →
      QSs (cxOf (L2.CX P w) P w K mg base N qual scope f cdv A outer s H E) T (fun cls d _ H => E cls d H) body m) : FnOk P w K mg base (L2.CX P w) (k + 1) f fd ps (spD K T ps.length (mFun (N.length - ps.length) m)) := by
  refine F.ok S (fun vs H Q E h => h.1) (fun cdv A outer s H vs Q E hr h => ⟨tS K T (fun cls d _ H => E cls d H) m, hbody cdv A outer s H E hr, ?_⟩)
  obtain ⟨hl, cm, Z, ds, s0, c, r, p⟩ := h
  exact ⟨offC cm H, Z, cm, _, s0, Rel.start c r (by omega), by rw [hl]; exact post_fn p⟩
/-- a def that may be called by its name; dfl: defaults that fill up -/
structure Fn (P : Program) (w : World) (K : PySem.W.Frag) (mg : Str → Option Value) (base : Heap) (T : Tb) (k : Nat) (x : Str) (n : Nat) (F : FM) : Prop where
  ex : ∃ f fd ps, FnOk P w K mg base (L2.CX P w) k f fd ps (spD K T n F) ∧ mg x = some (.ref f) ∧ PySem.W.keepIn K (.ref f) = true ∧ Binds K fd ps []
theorem Fn.mk_ {k n : Nat} {ps : List Str} {F : FM} (h : FnOk P w K mg base (L2.CX P w) k f fd ps (spD K T n F)) (hm : mg x = some (.ref f)) (hk : PySem.W.keepIn K (.ref f) = true) (b : Binds K fd ps []) : Fn P w K mg base T k x n F := ⟨f, fd, ps, h, hm, hk, b⟩
theorem Fn.le {k j n : Nat} {F : FM} (h : Fn P w K mg base T k x n F) (e : k ≤ j) : Fn P w K mg base T j x n F := by
  obtain ⟨f, fd, ps, h1, h2⟩ := h.ex
  exact ⟨f, fd, ps, h1.mono e, h2⟩
end
def mCallF (F : FM) (lm : LM) : EM := fun ρ s => (lm ρ s).bind fun ds s1 => F ds s1
section
variable {X : Cx} {T : Tb} {W : WX} {n j k : Nat} {x : Str} {F : FM} {e : Expr} {es : List Expr} {lm : LM} {p pos : Pos}
/-- from the caller's frame to the callee's and back -/
theorem spD_of {F0 : Fm} {cm : List Addr} {H : Hp} {s : S} {vs : List V} {ds : List D} {Q : VK} (r : FRel X.K T F0 cm H s) (rv : Reps X.K T cm (F0.G cm H) vs ds) (hn : vs.length = n) (p : Post X.K T F0 cm H W (AR X.K T) (F ds s) Q) :
    spD X.K T n F vs H Q (fun cls d H' => W cls d F0.σ H') := by
  have eG : ∀ cm H, GV cm (fun a => F0.Z a ∨ F0.O a) O0 H = F0.G cm H := fun cm H => by
    have e : HidP cm (fun a => F0.Z a ∨ F0.O a) O0 = HidP cm F0.Z F0.O := by
      funext a
      apply propext
      unfold HidP
      constructor
      · rintro (h | h | h)
        · exact .inl h
        · exact .inr h
        · exact h.elim
      · rintro (h | h)
        · exact .inl h
        · exact .inr (.inl h)
    show hid (HidP cm (fun a => F0.Z a ∨ F0.O a) O0) H = hid (HidP cm F0.Z F0.O) H
    rw [e]
  have back : ∀ {H' cm' s'}, Ext cm H cm' H' → Cells X.K T (fun a => F0.Z a ∨ F0.O a) O0 cm' H' s' → FRel X.K T F0 cm' H' s' := fun {H' cm' s'} ex c => by
    refine Rel.ext r ex ⟨c.len, c.nd, fun n a d e1 e2 => ?_, c.there, fun a z => c.zok a (.inl z), c.nosf⟩
    have := c.at_ n a d e1 e2
    rw [eG] at this
    exact this
  refine ⟨hn, cm, fun a => F0.Z a ∨ F0.O a, ds, s, ⟨r.cells.len, r.cells.nd, fun n a d e1 e2 => ?_, r.cells.there, fun a z => ?_, r.cells.nosf⟩, by rw [eG]; exact rv, ?_⟩
  · rw [eG]
    exact r.cells.at_ n a d e1 e2
  · exact r.hidden (.inr z)
  · cases e : F ds s with
    | ok d s' =>
      rw [e] at p
      exact fun v H' cm' ex c z => p v H' cm' ex (back ex c) (by rw [eG] at z; exact z)
    | er c es s' =>
      rw [e] at p
      exact fun cls dx H' cm' ex c z => p cls dx H' cm' ex (back ex c) (by rw [eG] at z; exact z)
    | no => rw [e] at p; exact p
theorem tCallF_of {σ : L2.St} {H : Hp} {Q : VK} (h : tP X.K T W (AR X.K T) (mCallF F lm) σ H Q) : tCallS (spD X.K T n F) (WE W) (tP X.K T W (ALn X.K T n) lm) σ H Q := by
  refine h.bind (ALn X.K T n) up_AR fun B Z cm ρ x H1 ⟨cm1, dx, s1, e1, r1, a1, p1⟩ => ?_
  exact spD_of (F0 := ⟨B, Z, σ, ρ⟩) r1 a1.1 a1.2 p1
theorem q_call (c : Fn X.prog X.w X.K X.mg X.base T k x n F) (hr : Room j X.A) (tk : Takes X W) (hk : k ≤ j := by decide) (hg : Gl X x := by rfl) (ha : QS X T W n (e :: es) lm) (hdb : (x == ("__debug__" : Str)) = false := by decide) (he : starEach (e :: es) X.env = (false, eval e X.env) :: starEach es X.env := by rfl) (hpl : (backTo pos (starEach es X.env)).any (·.1) = false := by rfl) :
    QE X T W (.Call (.Name x p) (e :: es) [] pos) (mCallF F lm) := by
  obtain ⟨f, fd, ps, hF, hm, hkp, hb⟩ := c.ex
  exact PE.conv (pe_callS hF (hr.mono hk) hg hm hkp hb (fun σ => passAt tk σ) ha hdb he hpl) fun σ H Q h => tCallF_of h
theorem q_call0 (c : Fn X.prog X.w X.K X.mg X.base T k x 0 F) (hr : Room j X.A) (tk : Takes X W) (hk : k ≤ j := by decide) (hg : Gl X x := by rfl) (hdb : (x == ("__debug__" : Str)) = false := by decide) :
    QE X T W (.Call (.Name x p) [] [] pos) (mCallF F mNil) := by
  obtain ⟨f, fd, ps, hF, hm, hkp, hb⟩ := c.ex
  refine ⟨fun pins s σ H Q I h => ?_⟩
  refine wpAny_Call_Name_kw (ld_glob I hg hm ?_ hdb)
  obtain ⟨B, Z, cm, ρ, s0, r, p⟩ := h
  exact PySem.W.callWith_K0 I.kIn hkp (run_fnS (us := []) (vs := []) (E := WE W) hF (hr.mono hk) hb (passAt tk σ) I .nil (spD_of (F0 := ⟨B, Z, σ, ρ⟩) r .nil rfl p))
end
end Tv

/-! Tv13: classes: making, fields, methods, own == -/
namespace Tv
open PySem PySem.Spec PyProof.Rows L2

def Tb.w (T : Tb) (o : Option Addr) : Tb := { T with self := o }
section
variable {K : PySem.W.Frag} {T : Tb} {o : Option Addr} {cm : List Addr} {G H : Hp} {Z O : Addr → Prop} {s : S}
mutual
theorem Rep.tb : ∀ (d : D) (v : V), Rep K T cm G v d → Rep K (T.w o) cm G v d
  | .non, _, h => by cases h; exact .non
  | .bl b, _, h => by cases h; exact .bl b
  | .int i, _, h => by cases h; exact .int i
  | .str x, _, h => by cases h; exact .str x
  | .tup ds, _, h => by
    cases h with
    | tup hs hr => exact .tup hs (Reps.tb ds _ hr)
  | .lst ds, _, h => by
    cases h with
    | lst hs hr => exact .lst hs (Reps.tb ds _ hr)
  | .frz ds, _, h => by
    cases h with
    | frz hs hr => exact .frz hs (Reps.tb ds _ hr)
  | .ins c ds, _, h => by
    cases h with
    | ins ha hn hr => exact .ins (T := T.w o) ha hn (Reps.tb ds _ hr)
  | .cell n, _, h => by
    cases h with
    | cell e => exact .cell e
  | .fn n, _, h => by
    cases h
    exact .fn (T := T.w o) n
  | .dic ks ds, _, h => by
    cases h with
    | dic ha hr => exact .dic ha (Reps.tb ds _ hr)
  | .exc _ _, _, h => by
    cases h with
    | exc0 e => exact .exc0 (T := T.w o) e
    | exc1 e ha hn hr => exact .exc1 (T := T.w o) e ha hn (Reps.tb _ _ hr)
  | .lam _, _, h => by
    cases h with
    | lam e e2 => exact .lam (T := T.w o) e e2
  | .sf _ _, _, h => by cases h
  | .tab _, _, h => by cases h
theorem Reps.tb : ∀ (ds : List D) (vs : List V), Reps K T cm G vs ds → Reps K (T.w o) cm G vs ds
  | [], _, h => by cases h; exact .nil
  | d :: ds, _, h => by
    cases h with
    | cons h1 h2 => exact .cons (Rep.tb d _ h1) (Reps.tb ds _ h2)
end
theorem Rep.bt {d : D} {v : V} (h : Rep K (T.w o) cm G v d) : Rep K T cm G v d := Rep.tb (T := T.w o) (o := T.self) d v h
theorem Reps.bt {d : List D} {v : List V} (h : Reps K (T.w o) cm G v d) : Reps K T cm G v d := Reps.tb (T := T.w o) (o := T.self) d v h
theorem OwnRep.tb {a : Addr} {d : D} (h : OwnRep K T cm G H a d) (hs : d.isSf = false) : OwnRep K (T.w o) cm G H a d := by
  cases d with
  | lst ds =>
    obtain ⟨xs, h1, h2⟩ := h
    exact ⟨xs, h1, Reps.tb _ _ h2⟩
  | ins c ds =>
    obtain ⟨dx, fs, h1, h2, h3⟩ := h
    exact ⟨dx, fs, h1, h2, Reps.tb _ _ h3⟩
  | sf c ds => cases hs
  | tab n => exact h
  | _ => exact h.elim
theorem Cells.tb (c : Cells K T Z O cm H s) : Cells K (T.w o) Z O cm H s :=
  ⟨c.len, c.nd, fun n a d e1 e2 => (c.at_ n a d e1 e2).tb (c.nosf d (List.mem_of_getElem? e2)), c.there, c.zok, c.nosf⟩
theorem Cells.bt (c : Cells K (T.w o) Z O cm H s) : Cells K T Z O cm H s := Cells.tb (T := T.w o) (o := T.self) c
theorem ErrRep.tb {cls : Value} {dx : Option Addr} {c : Nat} {ds : List D} (h : ErrRep K T cm G H cls dx c ds) : ErrRep K (T.w o) cm G H cls dx c ds := by
  obtain ⟨h1, h2⟩ := h
  refine ⟨h1, ?_⟩
  rcases h2 with h2 | ⟨dx, gs, h2, h3, h4, h5⟩
  · exact .inl h2
  · exact .inr ⟨dx, gs, h2, h3, h4, Reps.tb _ _ h5⟩
theorem ErrRep.bt {cls : Value} {dx : Option Addr} {c : Nat} {ds : List D} (h : ErrRep K (T.w o) cm G H cls dx c ds) : ErrRep K T cm G H cls dx c ds := ErrRep.tb (T := T.w o) (o := T.self) h
theorem PostF.tb {r : R D} {Q : VK} {E : XK} (p : PostF K T Z cm H r Q E) : PostF K (T.w o) Z cm H r Q E := by
  cases r with
  | ok d s' => exact fun v H' cm' ex c z => p v H' cm' ex c.bt z.bt
  | er c ds s' => exact fun cls dx H' cm' ex c z => p cls dx H' cm' ex c.bt z.bt
  | no => exact p
theorem spD_tb {n : Nat} {F : FM} {vs : List V} {Q : VK} {E : XK} (h : spD K (T.w o) n F vs H Q E) : spD K T n F vs H Q E := by
  obtain ⟨hl, cm, Z, ds, s, c, r, p⟩ := h
  exact ⟨hl, cm, Z, ds, s, c.bt, r.bt, PostF.tb (T := T.w o) (o := T.self) p⟩
theorem Fn.tb {P : Program} {w : World} {mg : Str → Option Value} {base : Heap} {k n : Nat} {x : Str} {F : FM} (h : Fn P w K mg base T k x n F) : Fn P w K mg base (T.w o) k x n F := by
  obtain ⟨f, fd, ps, h1, h2⟩ := h.ex
  exact ⟨f, fd, ps, h1.imp fun vs H Q E z => spD_tb z, h2⟩
end

/-! ### __init__ -/
structure ExtX (x : Addr) (cm : List Addr) (H : Hp) (cm' : List Addr) (H' : Hp) : Prop where
  pre : Pre cm cm'
  keep : ∀ a o, H a = some o → a ∉ cm → a ≠ x → H' a = some o ∧ a ∉ cm'
  there : ∀ a, a ≠ x → H a ≠ none → H' a ≠ none
section
variable (K : PySem.W.Frag) (T : Tb)
def PostI (Z : Addr → Prop) (cm : List Addr) (x : Addr) (H : Hp) (r : R D) (Q : VK) (E : XK) : Prop := match r with
  | .ok d s' => ∀ H' cm', ExtX x cm H cm' H' → Cells K T Z O0 cm' H' s' → Rep K T cm' (GV cm' Z O0 H') (.ref x) d → Q .non H'
  | .er c ds s' => ∀ cls dx H' cm', ExtX x cm H cm' H' → Cells K T Z O0 cm' H' s' → ErrRep K T cm' (GV cm' Z O0 H') H' cls dx c ds → E cls dx H'
  | .no => False
def spI (c n : Nat) (F : FM) : Sp := fun vs H Q E => vs.length = n + 1 ∧ ∃ x rest cm Z ds s dx, vs = .ref x :: rest ∧ H x = some (.ins (T.cls c) dx []) ∧ x ∉ cm ∧ ¬ Z x ∧ Cells K T Z (fun a => a = x) cm H s ∧ Reps K T cm (GV cm Z (fun a => a = x) H) rest ds ∧ PostI K T Z cm x H (F ds s) Q E
end
def mInit (c nf e : Nat) (m : SM) : FM := fun ds s => match m (.own (.sf c []) :: (ds.map .v ++ List.replicate e .un)) s with
  | .nx ρ' s' => match (ρ'[0]? : Option SD) with
    | some (.own (.sf c' fs)) => if c' = c ∧ fs.length = nf then .ok (.ins c fs) s' else .no
    | _ => .no
  | .er k es _ s' => .er k es s'
  | _ => .no
section
variable {K : PySem.W.Frag} {T : Tb} {Z : Addr → Prop} {cm cm1 : List Addr} {H H1 : Hp} {s s1 : S} {x : Addr}
open Classical in
noncomputable def offX (x : Addr) (cm : List Addr) (H : Hp) : Hp := fun a => if a ∈ cm ∨ a = x then none else H a
theorem offX_some {a : Addr} {o : HO} : offX x cm H a = some o ↔ (a ∉ cm ∧ a ≠ x) ∧ H a = some o := by
  unfold offX
  by_cases h : a ∈ cm ∨ a = x
  · rw [if_pos h]
    exact ⟨fun z => by (have z : (none : Option HO) = some o := z; cases z), fun z => absurd h (fun q => q.elim z.1.1 z.1.2)⟩
  · rw [if_neg h]
    exact ⟨fun z => ⟨⟨fun q => h (.inl q), fun q => h (.inr q)⟩, z⟩, fun z => z.2⟩
theorem ow_init {c : Nat} {ds : List D} {n : Nat} {σ : L2.St} : Ow (some (.ref x) :: σ) (SD.own (.sf c []) :: (ds.map SD.v ++ List.replicate n SD.un)) = fun a => a = x := by
  funext a
  apply propext
  constructor
  · rintro ⟨i, d, h1, h2⟩
    cases i with
    | zero =>
      have h2 : some (some (V.ref x)) = some (some (V.ref a)) := h2
      cases h2
      rfl
    | succ i =>
      have h1 : (ds.map SD.v ++ List.replicate n SD.un)[i]? = some (.own d) := h1
      have := List.mem_of_getElem? h1
      rcases List.mem_append.mp this with z | z
      · obtain ⟨x, _, e⟩ := List.mem_map.mp z
        cases e
      · cases (List.mem_replicate.mp z).2
  · rintro rfl
    exact ⟨0, _, rfl, rfl⟩
theorem Rel.startI {N : List Str} {vs : List V} {ds : List D} {c : Nat} {dx : Addr} (hx : H x = some (.ins (T.cls c) dx [])) (hc : x ∉ cm) (hz : ¬ Z x) (cl : Cells K T Z (fun a => a = x) cm H s) (r : Reps K T cm (GV cm Z (fun a => a = x) H) vs ds) (hl : vs.length + 1 ≤ N.length) :
    Rel K (T.w (some x)) (offX x cm H) Z cm (L2.start N (.ref x :: vs)) H (SD.own (.sf c []) :: (ds.map SD.v ++ List.replicate (N.length - (vs.length + 1)) SD.un)) s := by
  have eσ : L2.start N (.ref x :: vs) = some (.ref x) :: (vs.map some ++ List.replicate (N.length - (vs.length + 1)) none) := rfl
  rw [eσ]
  refine ⟨?_, fun i d h => ?_, fun i d h => ?_, fun i j d e a h1 h2 _ _ => ?_, ?_, fun a o h => ?_⟩
  · rw [List.length_cons, List.length_cons, List.length_append, List.length_append, List.length_map, List.length_map, List.length_replicate, List.length_replicate, r.len]
  · rw [ow_init]
    cases i with
    | zero => cases h
    | succ i =>
      have h : (ds.map SD.v ++ List.replicate (N.length - (vs.length + 1)) SD.un)[i]? = some (.v d) := h
      by_cases hi : i < ds.length
      · rw [List.getElem?_append_left (by rw [List.length_map]; exact hi), List.getElem?_map] at h
        cases e : ds[i]? with
        | none => rw [e] at h; cases h
        | some d' =>
          rw [e] at h
          cases h
          obtain ⟨v, h1, h2⟩ := r.get e
          refine ⟨v, ?_, Rep.tb _ _ h2⟩
          show (vs.map some ++ List.replicate (N.length - (vs.length + 1)) none)[i]? = _
          rw [List.getElem?_append_left (by rw [List.length_map, r.len]; exact hi), List.getElem?_map, h1]
          rfl
      · rw [List.getElem?_append_right (by rw [List.length_map]; omega)] at h
        have := List.mem_of_getElem? h
        cases (List.mem_replicate.mp this).2
  · rw [ow_init]
    cases i with
    | zero =>
      cases h
      refine ⟨x, rfl, ⟨rfl, dx, [], hx, by simp, .nil⟩, hc, hz, ?_⟩
      unfold offX
      rw [if_pos (.inr rfl)]
    | succ i =>
      have h : (ds.map SD.v ++ List.replicate (N.length - (vs.length + 1)) SD.un)[i]? = some (.own d) := h
      have := List.mem_of_getElem? h
      rcases List.mem_append.mp this with z | z
      · obtain ⟨x, _, e⟩ := List.mem_map.mp z
        cases e
      · cases (List.mem_replicate.mp z).2
  · have key : ∀ (i : Nat) (d : D), (SD.own (.sf c []) :: (ds.map SD.v ++ List.replicate (N.length - (vs.length + 1)) SD.un))[i]? = some (.own d) → i = 0 := fun i d h => by
      cases i with
      | zero => rfl
      | succ i =>
        have h : (ds.map SD.v ++ List.replicate (N.length - (vs.length + 1)) SD.un)[i]? = some (.own d) := h
        have := List.mem_of_getElem? h
        rcases List.mem_append.mp this with z | z
        · obtain ⟨x, _, e⟩ := List.mem_map.mp z
          cases e
        · cases (List.mem_replicate.mp z).2
    rw [key i d h1, key j e h2]
  · rw [ow_init]
    exact cl.tb
  · obtain ⟨h1, h2⟩ := offX_some.mp h
    exact ⟨h2, h1.1⟩
theorem Rel.extX {T' : Tb} {σ : L2.St} {ρ : List SD} (r : Rel K T' (offX x cm H) Z cm1 σ H1 ρ s1) (p : Pre cm cm1) : ExtX x cm H cm1 H1 :=
  ⟨p, fun a o h n n' => r.base a o (offX_some.mpr ⟨⟨n, n'⟩, h⟩), fun a q2 h => by
    by_cases q : a ∈ cm
    · exact r.cells.there a (p.mem q)
    · cases e : H a with
      | none => exact absurd e h
      | some o => rw [(r.base a o (offX_some.mpr ⟨⟨q, q2⟩, e⟩)).1]; intro z; cases z⟩
end
section
variable {P : Program} {w : World} {K : PySem.W.Frag} {mg : Str → Option Value} {base : Heap} {T : Tb} {x qual : Str} {params : Arguments} {body : List Stmt} {scope : Scope} {dvs : List V} {kws : List (Str × V)} {f : Addr} {fd : FuncData}
theorem init_ok {N ps : List Str} {p0 : Str} {k c nf : Nat} {m : SM} (F : FunD K x qual params body scope dvs kws f fd) (S : FnScope N (p0 :: ps) scope) (hN : ps.length + 1 ≤ N.length) (hnf : (T.fl c).length = nf)
    (hbody : ∀ (cdv : Value) (A : Around) (outer : List Env) (s : Shared) (H : Hp) (E : XK) (a : Addr), Room k (A.deeper (envOfC qual scope s.heap.objs.size f cdv)) →
      QSs (cxOf (L2.CX P w) P w K mg base N qual scope f cdv A outer s H E) (T.w (some a)) (fun cls d _ H => E cls d H) body m)
 : FnOk P w K mg base (L2.CX P w) (k + 1) f fd (p0 :: ps) (spI K T c ps.length (mInit c nf (N.length - (ps.length + 1)) m)) := by
  refine F.ok S (fun vs H Q E h => h.1) (fun cdv A outer s H vs Q E hr h => ?_)
  obtain ⟨hl, a, rest, cm, Z, ds, s0, dx, rfl, hx, hc, hz, cl, r, p⟩ := h
  have hl' : rest.length = ps.length := by simpa using hl
  refine ⟨tS K (T.w (some a)) (fun cls d _ H => E cls d H) m, hbody cdv A outer s H E a hr, ?_⟩
  refine ⟨offX a cm H, Z, cm, _, s0, Rel.startI hx hc hz cl r (by omega), ?_⟩
  rw [hl']
  unfold mInit at p
  -- the instance stays: nobody frees; told by the frame where it is owned, else by the exception's road
  cases e0 : m (SD.own (.sf c []) :: (ds.map .v ++ List.replicate (N.length - (ps.length + 1)) .un)) s0 with
  | nx ρ' s' =>
    rw [e0] at p
    dsimp only at p
    split at p
    · rename_i c' fs e1
      split at p
      · rename_i hcf
        obtain ⟨rfl, hlen⟩ := hcf
        refine fun σ' H' cm' pr r' => ?_
        obtain ⟨b, h1, ⟨h2, dx', gs, h3, h4, h5⟩, h6, h7, h8⟩ := r'.own 0 _ e1
        have eb : b = a := by
          have : some a = some b := h2
          exact (Option.some.inj this).symm
        subst eb
        refine p H' cm' (r'.extX pr) (r'.cells.fewer fun a z => z.elim).bt ?_
        refine .ins (hid_some.mpr ⟨fun z => ?_, h3⟩) ?_ (Reps.bt (Reps.mono (.refl _) (sub_shrink fun a z => z.elim) _ _ h5))
        · rcases z with z | z | z
          · exact h6 z
          · exact h7 z
          · exact z
        · rw [h4, hlen, ← hnf]
          exact List.take_length
      · exact p.elim
    · exact p.elim
  | rt d s' => rw [e0] at p; exact p.elim
  | er k es ρ' s' =>
    rw [e0] at p
    exact fun cls dx' σ' H' cm' pr r' z => p cls dx' H' cm' (r'.extX pr) (r'.cells.fewer fun a z => z.elim).bt (z.mono (.refl _) (sub_shrink fun a z => z.elim) fun _ _ h => h).bt
  | bk ρ' s' => rw [e0] at p; exact p.elim
  | ct ρ' s' => rw [e0] at p; exact p.elim
  | no => rw [e0] at p; exact p.elim
end

/-! ### making -/
section
variable {P : Program} {w : World} {K : PySem.W.Frag} {mg : Str → Option Value} {base : Heap} {T : Tb}
/-- a class that may be made by its name; F: what its __init__ reckons -/
structure Mak (P : Program) (w : World) (K : PySem.W.Frag) (mg : Str → Option Value) (base : Heap) (T : Tb) (k : Nat) (x : Str) (c n : Nat) (F : FM) : Prop where
  ex : ∃ f fd ps, Mk K (T.cls c) f ∧ FnOk P w K mg base (L2.CX P w) k f fd ps (spI K T c n F) ∧ mg x = some (.ref (T.cls c)) ∧ Binds K fd ps []
theorem PostI.tb {o : Option Addr} {Z : Addr → Prop} {cm : List Addr} {x : Addr} {H : Hp} {r : R D} {Q : VK} {E : XK} (p : PostI K T Z cm x H r Q E) : PostI K (T.w o) Z cm x H r Q E := by
  cases r with
  | ok d s' => exact fun H' cm' ex c z => p H' cm' ex c.bt z.bt
  | er c ds s' => exact fun cls dx H' cm' ex c z => p cls dx H' cm' ex c.bt z.bt
  | no => exact p
theorem Mak.tb {o : Option Addr} {k c n : Nat} {x : Str} {F : FM} (h : Mak P w K mg base T k x c n F) : Mak P w K mg base (T.w o) k x c n F := by
  obtain ⟨f, fd, ps, h1, h2, h3⟩ := h.ex
  refine ⟨f, fd, ps, h1, h2.imp fun vs H Q E z => ?_, h3⟩
  obtain ⟨hl, x, rest, cm, Z, ds, s, dx, e, hx, hc, hz, cl, r, p⟩ := z
  exact ⟨hl, x, rest, cm, Z, ds, s, dx, e, hx, hc, hz, cl.bt, r.bt, PostI.tb (T := T.w o) (o := T.self) p⟩
theorem Mak.le {k j c n : Nat} {x : Str} {F : FM} (h : Mak P w K mg base T k x c n F) (e : k ≤ j) : Mak P w K mg base T j x c n F := by
  obtain ⟨f, fd, ps, h1, h2, h3⟩ := h.ex
  exact ⟨f, fd, ps, h1, h2.mono e, h3⟩
end
section
variable {X : Cx} {T : Tb} {W : WX} {n j k c : Nat} {x : Str} {F : FM} {e : Expr} {es : List Expr} {lm : LM} {p pos : Pos}
theorem run_makeS {CX : CXT} {C f : Addr} {fd : FuncData} {ps : List Str} {sp : Sp} {E : XK} {pins : List (Addr × Obj)} {σ : L2.St} {H : Hp} {s : Shared} {Q : VK} {us : List Value} {vs : List V} (M : Mk X.K C f) (F : FnOk X.prog X.w X.K X.mg X.base CX k f fd ps sp) (hr : Room (k + 1) X.A) (hb : Binds X.K fd ps [])
    (hx : PassesAt CX X σ E) (I : Inv X pins σ H s) (r : Vals vs us)
    (h : ∀ x dx, H x = none → H dx = none → dx ≠ x → sp (.ref x :: vs) (upd (upd H dx (.own x)) x (.ins C dx [])) (fun v H2 => v = .non ∧ Q (.ref x) H2) E) :
    wpAny (model X.prog X.w) X.A (call (.ref C) us) (EP X pins σ Q) X.xe s := by
  have hq := h (s.heap.objs.size + 1) s.heap.objs.size (I.hok.fresh (Nat.le_succ _)) (I.hok.fresh (Nat.le_refl _)) (Nat.ne_of_lt (Nat.lt_succ_self _))
  have I2 := Inv.made (C := C) I
  have r2 : Vals (V.ref (s.heap.objs.size + 1) :: vs) (Value.ref (s.heap.objs.size + 1) :: us) := .cons rfl r
  have hl : (Value.ref (s.heap.objs.size + 1) :: us).length = ps.length := by
    have e := r2.length
    rw [F.len _ _ _ _ hq] at e
    exact e.symm
  have b := hb (s := _) (Value.ref (s.heap.objs.size + 1) :: us) I2.kIn (by rw [List.append_nil]; exact hl)
  rw [List.append_nil] at b
  refine wpAny_call (make_map (f := f) I.kIn M.makes M.init (beq_iff_eq.mp M.fn) (codeAny_mono (F.run _ X.stack _ _ ⟨Value.ref (s.heap.objs.size + 1) :: us, []⟩ (Value.ref (s.heap.objs.size + 1) :: us) _ _ E (hr.make C us [])
    (I2.env0.make C us []) b r2 hq) fun r s' hq' => ?_))
  cases r with
  | error e => exact hx pins _ _ e s' I2 hq'
  | ok fl =>
    cases fl with
    | ret u =>
      obtain ⟨v, H', I3, rv, ev, q3⟩ := I2.after hq'
      subst ev
      exact ⟨rv, ⟨V.ref (s.heap.objs.size + 1), H', I3, rfl, q3⟩⟩
    | next => exact False.elim hq'
    | brk => exact False.elim hq'
    | cont => exact False.elim hq'
theorem eG_zo {cm : List Addr} {Z O : Addr → Prop} {H : Hp} : GV cm (fun a => Z a ∨ O a) O0 H = GV cm Z O H := by
  have e : HidP cm (fun a => Z a ∨ O a) O0 = HidP cm Z O := by
    funext a
    apply propext
    unfold HidP
    constructor
    · rintro (h | h | h)
      · exact .inl h
      · exact .inr h
      · exact h.elim
    · rintro (h | h)
      · exact .inl h
      · exact .inr (.inl h)
  show hid (HidP cm (fun a => Z a ∨ O a) O0) H = hid (HidP cm Z O) H
  rw [e]
theorem spI_of {F0 : Fm} {cm : List Addr} {H : Hp} {s : S} {vs : List V} {ds : List D} {Q : VK} (r : FRel X.K T F0 cm H s) (rv : Reps X.K T cm (F0.G cm H) vs ds) (hn : vs.length = n) (p : Post X.K T F0 cm H W (AR X.K T) (F ds s) Q)
    (x dx : Addr) (hx : H x = none) (hdx : H dx = none) (hne : dx ≠ x) : spI X.K T c n F (.ref x :: vs) (upd (upd H dx (.own x)) x (.ins (T.cls c) dx [])) (fun v H2 => v = .non ∧ Q (.ref x) H2) (fun cls d H' => W cls d F0.σ H') := by
  have hx2 : upd H dx (.own x) x = none := by rw [upd_ne (Ne.symm hne)]; exact hx
  have sub0 : Sub H (upd (upd H dx (.own x)) x (.ins (T.cls c) dx [])) := (sub_upd hdx).trans (sub_upd hx2)
  have nv := r.new_vis hx
  have subG : Sub (F0.G cm H) (GV cm (fun a => F0.Z a ∨ F0.O a) (fun a => a = x) (upd (upd H dx (.own x)) x (.ins (T.cls c) dx []))) := hid_sub fun a u n e => ⟨fun z => by
    rcases z with z | z | z
    · exact n (.inl z)
    · exact n (.inr z)
    · exact ne_of_none e hx z, sub0 a u e⟩
  have toE : ∀ {H' cm'}, ExtX x cm (upd (upd H dx (.own x)) x (.ins (T.cls c) dx [])) cm' H' → Ext cm H cm' H' := fun {H' cm'} ex =>
    ⟨ex.pre, fun a o e n => ex.keep a o (sub0 a o e) n (ne_of_none e hx), fun a h => by
      cases e : H a with
      | none => exact absurd e h
      | some o => exact ex.there a (ne_of_none e hx) (by rw [sub0 a o e]; intro z; cases z)⟩
  have back : ∀ {H' cm' s'}, Ext cm H cm' H' → Cells X.K T (fun a => F0.Z a ∨ F0.O a) O0 cm' H' s' → FRel X.K T F0 cm' H' s' := fun {H' cm' s'} ex c => by
    refine Rel.ext r ex ⟨c.len, c.nd, fun n a d e1 e2 => ?_, c.there, fun a z => c.zok a (.inl z), c.nosf⟩
    have := c.at_ n a d e1 e2
    rw [eG_zo] at this
    exact this
  refine ⟨by rw [List.length_cons, hn], x, vs, cm, fun a => F0.Z a ∨ F0.O a, ds, s, dx, rfl, upd_same, fun z => nv (.inl z), fun z => nv (.inr z), ⟨r.cells.len, r.cells.nd, fun n a d e1 e2 => ?_, fun a z => ?_, fun a z => ?_, r.cells.nosf⟩, Reps.mono (.refl _) subG _ _ rv, ?_⟩
  · exact (r.cells.at_ n a d e1 e2).ext (.refl _) subG fun o e => sub0 a o e
  · have q := r.cells.there a z
    cases e : H a with
    | none => exact absurd e q
    | some o => rw [sub0 a o e]; intro z; cases z
  · have q := r.hidden (.inr z)
    cases e : H a with
    | none => exact absurd e q
    | some o => rw [sub0 a o e]; intro z; cases z
  · cases e : F ds s with
    | ok d s' =>
      rw [e] at p
      exact fun H' cm' ex c z => ⟨rfl, p (.ref x) H' cm' (toE ex) (back (toE ex) c) (by rw [eG_zo] at z; exact z)⟩
    | er c es s' =>
      rw [e] at p
      exact fun cls dx H' cm' ex c z => p cls dx H' cm' (toE ex) (back (toE ex) c) (by rw [eG_zo] at z; exact z)
    | no => rw [e] at p; exact p
theorem q_make (m : Mak X.prog X.w X.K X.mg X.base T k x c n F) (hr : Room j X.A) (tk : Takes X W) (hk : k + 1 ≤ j := by decide) (hg : Gl X x := by rfl) (ha : QS X T W n (e :: es) lm) (hdb : (x == ("__debug__" : Str)) = false := by decide) (he : starEach (e :: es) X.env = (false, eval e X.env) :: starEach es X.env := by rfl) (hpl : (backTo pos (starEach es X.env)).any (·.1) = false := by rfl) :
    QE X T W (.Call (.Name x p) (e :: es) [] pos) (mCallF F lm) := by
  obtain ⟨f, fd, ps, M, hF, hm, hb⟩ := m.ex
  refine ⟨fun pins s σ H Q I h => ?_⟩
  refine wpAny_Call_Name_kw (ld_glob I hg hm ?_ hdb)
  have h' : tP X.K T W (ALn X.K T n) lm σ H fun vs H1 => ∀ x dx, H1 x = none → H1 dx = none → dx ≠ x → spI X.K T c n F (.ref x :: vs) (upd (upd H1 dx (.own x)) x (.ins (T.cls c) dx [])) (fun v H2 => v = .non ∧ Q (.ref x) H2) (fun cls d H' => W cls d σ H') := by
    refine h.bind (ALn X.K T n) up_AR fun B Z cm ρ x H1 ⟨cm1, dx, s1, e1, r1, a1, p1⟩ => ?_
    exact spI_of (F0 := ⟨B, Z, σ, ρ⟩) r1 a1.1 a1.2 p1
  refine PySem.W.callWith_K (h₀ := X.base) I.ok.mod.kin M.kp (thn (ha.run pos pins s σ H _ I h') fun us s1 ⟨vs, H1, I1, r, q⟩ => ⟨I1.kIn, ?_⟩) he hpl
  exact run_makeS M hF (hr.mono hk) hb (passAt tk σ) I1 r q
theorem q_make0 (m : Mak X.prog X.w X.K X.mg X.base T k x c 0 F) (hr : Room j X.A) (tk : Takes X W) (hk : k + 1 ≤ j := by decide) (hg : Gl X x := by rfl) (hdb : (x == ("__debug__" : Str)) = false := by decide) :
    QE X T W (.Call (.Name x p) [] [] pos) (mCallF F mNil) := by
  obtain ⟨f, fd, ps, M, hF, hm, hb⟩ := m.ex
  refine ⟨fun pins s σ H Q I h => ?_⟩
  refine wpAny_Call_Name_kw (ld_glob I hg hm ?_ hdb)
  obtain ⟨B, Z, cm, ρ, s0, r, p⟩ := h
  exact PySem.W.callWith_K0 I.kIn M.kp (run_makeS (us := []) (vs := []) M hF (hr.mono hk) hb (passAt tk σ) I .nil (spI_of (F0 := ⟨B, Z, σ, ρ⟩) r .nil rfl p))
end

/-! ### self.f = e, in __init__ -/
def mSetF (c j : Nat) (m : EM) : SM := mE m fun d ρ s => match (ρ[0]? : Option SD) with
  | some (.own (.sf c' ds)) => if c' = c ∧ ds.length = j then .nx (ρ.set 0 (.own (.sf c (ds ++ [d])))) s else .no
  | _ => .no
theorem putF_new {f : Str} {y : V} : ∀ {fs : List (Str × V)}, f ∉ fs.map (·.1) → putF f y fs = fs ++ [(f, y)]
  | [], _ => rfl
  | (g, z) :: r, h => by
    have h1 : ¬ g = f := fun e => h (by rw [e]; exact List.mem_cons_self)
    show (if g = f then (g, y) :: r else (g, z) :: putF f y r) = _
    rw [if_neg h1, putF_new (fs := r) fun e => h (List.mem_cons_of_mem _ e)]
    rfl
section
variable {X : Cx} {T : Tb} {W : WX} {c j : Nat} {e : Expr} {m : EM} {x f : Str} {p p' pos : Pos}
theorem q_setF (hc : Cls X.K (T.cls c)) (hn : NoAttr X.K (T.cls c) f) (he : QE X T W e m) (hj : (T.fl c)[j]? = some f := by rfl) (hj2 : ((T.fl c).take j).contains f = false := by kernel_rfl) (hj3 : j < 100 := by decide) (hN : X.N[0]? = some x := by rfl) (hv : Vis X.env.scope x := by first | exact Or.inl rfl | exact Or.inr (Or.inl rfl) | exact Or.inr (Or.inr rfl))
    (hd : (x == ("__debug__" : Str)) = false := by decide) (hcd : (x == ("__classdict__" : Str)) = false := by decide)
    (hs : swapsWith e (some (.Attribute (.Name x p) f p')) pos.line X.env = pure false := by rfl) : QSt X T W (.Assign [.Attribute (.Name x p) f p'] e pos) (mSetF c j m) :=
  PS.conv (ps_fld (pe_var hN hv hd hcd) he hs) fun Ed σ H h => by
    refine mE_of (A := AR X.K T) h fun B Z cm0 s0 cm H' ρ d s v pre r0 r z q => ?_
    split at q
    · rename_i c' ds e0
      split at q
      · rename_i hcj
        obtain ⟨rfl, rfl⟩ := hcj
        obtain ⟨a, h1, ⟨h2, dx, fs, h3, h4, h5⟩, h6⟩ := r.own 0 _ e0
        have hlen : fs.length = ds.length := by
          have := h5.len
          rw [List.length_map] at this
          exact this
        refine ⟨_, h1, a, T.cls c', dx, fs, rfl, h3, hc, hn, by omega, ?_⟩
        rw [putF_new (by rw [h4]; intro z; rw [List.contains_iff_mem.mpr z] at hj2; cases hj2)]
        refine q σ _ cm (.refl _) (r.mutOwn e0 h1 ⟨h2, dx, _, upd_same, ?_, ?_⟩)
        · rw [List.map_append, h4, List.length_append]
          show _ = (T.fl c').take (ds.length + 1)
          rw [List.take_add_one, hj]
          rfl
        · rw [List.map_append]
          exact h5.app (.cons z .nil)
      · exact q.elim
    · exact q.elim
end

/-! ### methods -/
section
variable {P : Program} {w : World} {K : PySem.W.Frag} {mg : Str → Option Value} {base : Heap} {T : Tb}
structure Met (P : Program) (w : World) (K : PySem.W.Frag) (mg : Str → Option Value) (base : Heap) (T : Tb) (k c : Nat) (m : Str) (n : Nat) (F : FM) : Prop where
  ex : ∃ f fd ps, Cls K (T.cls c) ∧ Meth K (T.cls c) m f ∧ FnOk P w K mg base (L2.CX P w) k f fd ps (spD K T (n + 1) F) ∧ Binds K fd ps []
theorem Met.tb {o : Option Addr} {k c n : Nat} {m : Str} {F : FM} (h : Met P w K mg base T k c m n F) : Met P w K mg base (T.w o) k c m n F := by
  obtain ⟨f, fd, ps, h1, h2, h3, h4⟩ := h.ex
  exact ⟨f, fd, ps, h1, h2, h3.imp fun vs H Q E z => spD_tb z, h4⟩
end
def clsOf (d : D) (s : S) : Option Nat := match d with
  | .ins c _ => some c
  | .cell n => match s[n]? with
    | some (.ins c _) => some c
    | _ => none
  | _ => none
def mMeth (c : Nat) (F : FM) (o : EM) (lm : LM) : EM := fun ρ s => (o ρ s).bind fun x s1 => if clsOf x s1 = some c then (lm ρ s1).bind fun ds s2 => F (x :: ds) s2 else .no
section
variable {X : Cx} {T : Tb} {W : WX} {n j k c : Nat} {mn : Str} {F : FM} {o e : Expr} {es : List Expr} {mo : EM} {lm : LM} {apos pos : Pos}
theorem run_methS {CX : CXT} {f : Addr} {fd : FuncData} {ps : List Str} {sp : Sp} {E : XK} {pins : List (Addr × Obj)} {σ : L2.St} {H : Hp} {s : Shared} {Q : VK} {us : List Value} {vs : List V} (F : FnOk X.prog X.w X.K X.mg X.base CX k f fd ps sp) (hr : Room k X.A) (hb : Binds X.K fd ps []) (hx : PassesAt CX X σ E)
    (I : Inv X pins σ H s) (r : Vals vs us) (h : sp vs H Q E) : wpAny (model X.prog X.w) X.A (call (.ref f) us) (EP X pins σ Q) X.xe s := run_fnS (E := fun _ => E) F hr hb hx I r h
theorem clsOf_at {K : PySem.W.Frag} {B : Hp} {Z : Addr → Prop} {cm : List Addr} {σ : L2.St} {H : Hp} {ρ : List SD} {s : S} {v : V} {d : D} (r : Rel K T B Z cm σ H ρ s) (z : Rep K T cm (GV cm Z (Ow σ ρ) H) v d) (h : clsOf d s = some c) :
    ∃ a dx fs m, v = .ref a ∧ H a = some (.ins (T.cls c) dx fs) ∧ fs.map (·.1) = (T.fl c).take m := by
  unfold clsOf at h
  split at h
  · cases h
    cases z with
    | @ins a dx c fs ds h1 h2 h3 => exact ⟨a, dx, fs, (T.fl c).length, rfl, Sub.hidH _ _ h1, by rw [List.take_length]; exact h2⟩
  · split at h
    · rename_i e
      cases h
      cases z with
      | cell hc =>
        obtain ⟨dx, fs, h1, h2, h3⟩ := r.cells.at_ _ _ _ hc e
        exact ⟨_, dx, fs, _, rfl, h1, h2⟩
    · cases h
  · cases h
theorem lookup_none {f : Str} : ∀ {fs : List (Str × V)}, f ∉ fs.map (·.1) → fs.lookup f = none
  | [], _ => rfl
  | (g, z) :: r, h => by
    have h1 : (f == g) = false := by
      have : f ≠ g := fun e => h (by rw [e]; exact List.mem_cons_self)
      simpa using this
    rw [List.lookup_cons, h1]
    exact lookup_none fun e => h (List.mem_cons_of_mem _ e)
theorem q_methI {pl : Sem Bool} (c0 : Met X.prog X.w X.K X.mg X.base T k c mn n F) (hr : Room j X.A) (tk : Takes X W) (hk : k ≤ j := by decide) (ho : QE X T W o mo) (ha : QS X T W n (e :: es) lm) (hf : (T.fl c).contains mn = false := by kernel_rfl)
    (hst : starEach (e :: es) X.env = (false, eval e X.env) :: starEach es X.env := by rfl) (hpl : (backTo pos (starEach es X.env)).any (·.1) = false := by rfl)
    (ht : eval (.Call (.Attribute o mn apos) (e :: es) [] pos) X.env = (do
      let ov ← eval o X.env
      standAt apos.atName
      let (f, first) ← holding [ov] (getMethod ov mn pl)
      callWith pos f first (backTo pos (starEach (e :: es) X.env)) (backToKw pos (keywordEach [] X.env))) := by rfl) : QE X T W (.Call (.Attribute o mn apos) (e :: es) [] pos) (mMeth c F mo lm) := by
  obtain ⟨f, fd, ps, hc, hm, hF, hb⟩ := c0.ex
  refine ⟨fun pins s σ H Q I h => ?_⟩
  have h' : tP X.K T W (AR X.K T) mo σ H fun x H1 => ∃ a dx fs, x = .ref a ∧ H1 a = some (.ins (T.cls c) dx fs) ∧ fs.lookup mn = none ∧ tP X.K T W (ALn X.K T n) lm σ H1 fun vs H2 => spD X.K T (n + 1) F (x :: vs) H2 Q (fun cls d H' => W cls d σ H') := by
    refine h.bind (AR X.K T) up_AR fun B Z cm ρ x H1 ⟨cm1, dx, s1, e1, r1, a1, p1⟩ => ?_
    dsimp only at p1
    split at p1
    · rename_i ec
      obtain ⟨a, dxa, fs, m, rfl, ha, hfs⟩ := clsOf_at r1 a1 ec
      refine ⟨a, dxa, fs, rfl, ha, lookup_none (by rw [hfs]; exact fun z => by rw [List.contains_iff_mem.mpr (List.mem_of_mem_take z)] at hf; cases hf), B, Z, cm1, ρ, s1, r1, (p1.bind (A := ALn X.K T n) up_AR).mono fun y H2 ⟨cm2, dy, s2, e2, r2, a2, p2⟩ => ?_⟩
      exact spD_of (F0 := ⟨B, Z, σ, ρ⟩) r2 (.cons (Rep.mono e2.pre e2.sub _ _ a1) a2.1) (by rw [List.length_cons, a2.2]) p2
    · exact p1.elim
  refine PySem.W.methodCall_KW (pl := pl) (thn (ho.run pins s σ H _ I h') fun u s1 ⟨x, H1, I1, rx, a, dx, fs, ex, ea, l, q⟩ => ?_) ht
  subst ex
  obtain rfl : u = Value.ref a := rx
  refine getmeth_ok I1 ea hc hm l ?_
  refine PySem.W.callWith_K (first := [.ref a]) (h₀ := X.base) I.ok.mod.kin hm.kp (thn (ha.run pos pins s1 σ H1 _ I1 q) fun us s2 ⟨vs, H2, I2, r, q2⟩ => ⟨I2.kIn, ?_⟩) hst hpl
  exact run_methS (us := .ref a :: us) (vs := .ref a :: vs) hF (hr.mono hk) hb (passAt tk σ) I2 (.cons rfl r) q2
theorem q_methI0 {pl : Sem Bool} (c0 : Met X.prog X.w X.K X.mg X.base T k c mn 0 F) (hr : Room j X.A) (tk : Takes X W) (hk : k ≤ j := by decide) (ho : QE X T W o mo) (hf : (T.fl c).contains mn = false := by kernel_rfl)
    (ht : eval (.Call (.Attribute o mn apos) [] [] pos) X.env = (do
      let ov ← eval o X.env
      standAt apos.atName
      let (f, first) ← holding [ov] (getMethod ov mn pl)
      callWith pos f first (backTo pos (starEach [] X.env)) (backToKw pos (keywordEach [] X.env))) := by rfl) : QE X T W (.Call (.Attribute o mn apos) [] [] pos) (mMeth c F mo mNil) := by
  obtain ⟨f, fd, ps, hc, hm, hF, hb⟩ := c0.ex
  refine ⟨fun pins s σ H Q I h => ?_⟩
  have h' : tP X.K T W (AR X.K T) mo σ H fun x H1 => ∃ a dx fs, x = .ref a ∧ H1 a = some (.ins (T.cls c) dx fs) ∧ fs.lookup mn = none ∧ spD X.K T (0 + 1) F [x] H1 Q (fun cls d H' => W cls d σ H') := by
    refine h.bind (AR X.K T) up_AR fun B Z cm ρ x H1 ⟨cm1, dx, s1, e1, r1, a1, p1⟩ => ?_
    dsimp only at p1
    split at p1
    · rename_i ec
      obtain ⟨a, dxa, fs, m, rfl, ha, hfs⟩ := clsOf_at r1 a1 ec
      exact ⟨a, dxa, fs, rfl, ha, lookup_none (by rw [hfs]; exact fun z => by rw [List.contains_iff_mem.mpr (List.mem_of_mem_take z)] at hf; cases hf), spD_of (F0 := ⟨B, Z, σ, ρ⟩) r1 (.cons a1 .nil) rfl p1⟩
    · exact p1.elim
  refine PySem.W.methodCall_KW (pl := pl) (thn (ho.run pins s σ H _ I h') fun u s1 ⟨x, H1, I1, rx, a, dx, fs, ex, ea, l, q⟩ => ?_) ht
  subst ex
  obtain rfl : u = Value.ref a := rx
  refine getmeth_ok I1 ea hc hm l ?_
  exact PySem.W.callWith_K0 (first := [.ref a]) I1.kIn hm.kp (run_methS (us := [.ref a]) (vs := [.ref a]) hF (hr.mono hk) hb (passAt tk σ) I1 (.cons rfl .nil) q)

/-! ### x == y by an own __eq__ -/
def gEqO (c : Nat) (F : FM) : D → D → S → R D := fun x y s => match x, y with
  | .ins c1 _, .ins c2 _ => if c1 = c ∧ c2 = c then match F [x, y] s with
    | .ok (.bl b) s' => .ok (.bl b) s'
    | _ => .no
    else .no
  | _, _ => .no
variable {a b : Expr} {ma mb : EM}
def rEqOwn (K : PySem.W.Frag) (C : Addr) (sp : Sp) : R2 := fun x y H Q => ∃ p q dx dy fs gs, x = .ref p ∧ y = .ref q ∧ H p = some (.ins C dx fs) ∧ H q = some (.ins C dy gs) ∧ sp [x, y] H (fun v H' => ∃ b, v = .bl b ∧ Q (.bl b) H') E0
theorem op_eqOwn {C f : Addr} {fd : FuncData} {ps : List Str} {sp : Sp} (F : FnOk X.prog X.w X.K X.mg X.base (L2.CX X.prog X.w) k f fd ps sp) (hr : Room k X.A)
    (hs : PySem.W.findIn X.K (.ref C) "__eq__" = some (some (.ref f))) (hf : PySem.W.isFn X.K (.ref f) = true) (hb : Binds X.K fd ps []) : OpR X (compareOp .Eq) (rEqOwn X.K C sp) := by
  intro pins s σ H x y v u Q I rx ry h
  obtain ⟨a, b, dx, dy, fs, gs, rfl, rfl, ha, hb', hsp⟩ := h
  cases rx
  cases ry
  show wpAny (model X.prog X.w) X.A (richCompare .Eq (.ref a) (.ref b)) (EP X pins σ Q) X.xe s
  obtain ⟨mA, J, _⟩ := ins_get I.hok ha
  obtain ⟨mB, J', _⟩ := ins_get I.hok hb'
  obtain ⟨od, J, _⟩ := J.look
  obtain ⟨od', J', _⟩ := J'.look
  obtain ⟨m, hF⟩ := I.fr
  refine PySem.W.cmp_K (op := .Eq) (tb := .ref C) (by have := hr.un; omega) hF I.ok.mod.kin J J'.type (by simp [PySem.W.notFirst]) hs hf ?_
  have r2 : Vals [V.ref a, V.ref b] [Value.ref a, Value.ref b] := .cons rfl (.cons rfl .nil)
  refine wpAny_mono (run_fn (E := E0) (dvs := []) (ds := []) F hr hb .nil passL I r2 (by rw [List.append_nil]; exact hsp)) (fun w s' hq => ?_) fun _ _ z => z
  obtain ⟨z, H', I', rz, q⟩ := hq
  obtain ⟨bb, ez, q⟩ := q
  subst ez
  obtain rfl : w = .bool bb := rz
  exact ⟨.bl bb, H', I', rfl, q⟩
theorem q_eqO (c0 : Met X.prog X.w X.K X.mg X.base T k c "__eq__" 1 F) (hr : Room j X.A) (hk : k ≤ j := by decide) (ha : QE X T W a ma) (hb : QE X T W b mb) (hm : behindInMarks .Eq b = false := by rfl) : QE X T W (.Compare a [.Eq] [b] pos) (mOp (gEqO c F) ma mb) := by
  obtain ⟨f, fd, ps, hc, hmt, hF, hbn⟩ := c0.ex
  refine PE.conv (pe_cmpR (op_eqOwn hF (hr.mono hk) hmt.at_ hmt.fn hbn) ha hb hm) fun σ H Q h => ?_
  refine h.bind (AR X.K T) up_AR fun B Z cm ρ x H1 ⟨cm1, dx, s1, e1, r1, a1, p1⟩ => ?_
  refine ⟨B, Z, cm1, ρ, s1, r1, (p1.bind (A := AR X.K T) up_AR).mono fun y H2 ⟨cm2, dy, s2, e2, r2, a2, p2⟩ => ?_⟩
  have a1 : Rep X.K T cm2 (GV cm2 Z (Ow σ ρ) H2) x dx := Rep.mono e2.pre e2.sub _ _ a1
  unfold gEqO at p2
  dsimp only at p2
  split at p2
  · rename_i c1 ds1 c2 ds2
    split at p2
    · rename_i hcc
      obtain ⟨rfl, rfl⟩ := hcc
      have a1' := a1
      have a2' : Rep X.K T cm2 (GV cm2 Z (Ow σ ρ) H2) y _ := a2
      cases a1' with
      | @ins p dp _ fs _ k1 k2 k3 =>
        cases a2' with
        | @ins q dq _ gs _ l1 l2 l3 =>
          refine ⟨p, q, dp, dq, fs, gs, rfl, rfl, Sub.hidH _ _ k1, Sub.hidH _ _ l1, ?_⟩
          have eE : (E0 : XK) = fun cls d H' => W0 cls d σ H' := rfl
          rw [eE]
          refine spD_of (W := W0) (F0 := ⟨B, Z, σ, ρ⟩) r2 (.cons a1 (.cons a2 .nil)) rfl ?_
          generalize F [_, _] s2 = rr at p2 ⊢
          cases rr with
          | ok d s' =>
            refine fun v H' cm' ex r' z => ?_
            cases d with
            | bl b =>
              cases z
              exact ⟨b, rfl, p2 (.bl b) H' cm' ex r' (.bl b)⟩
            | _ => exact p2.elim
          | er _ _ _ => exact p2.elim
          | no => exact p2
    · exact p2.elim
  · exact p2.elim
end
end Tv

/-! Tv14: isinstance, functions as values, module constants -/
namespace Tv
open PySem PySem.Spec PyProof.Rows L2

def tyN : List String := ["NoneType", "bool", "int", "str", "tuple", "list", "dict"]
def insB (K : PySem.W.Frag) (C : Addr) : Bool :=
  decide (PySem.W.findIn K (.ref C) "__class__" = some (some (.builtin "object.__class__"))) && (decide (PySem.W.specialIn K (.builtin "object.__class__") "__get__" = some (some (.builtin "getset_descriptor.__get__"))) &&
    (decide (PySem.W.takesIn K (.builtin "object.__class__") = some true) && decide (PySem.W.mroIn K C (.type "object") = some true)))
def kitB (K : PySem.W.Frag) (cs : List Addr) : Bool := cs.all fun c => (tyN.all fun t => decide (PySem.W.kitOne K (.ref c) (.type t) = some false) && decide (PySem.W.kitOne K (.type t) (.ref c) = some false)) && cs.all fun d => decide (PySem.W.kitOne K (.ref c) (.ref d) = some (c == d))
/-- the plain classes of the text (their numbers) -/
structure IsC (K : PySem.W.Frag) (T : Tb) (cs : List Nat) : Prop where
  cl : ∀ c ∈ cs, ClsOk K T c
  ins : ∀ c ∈ cs, insB K (T.cls c) = true
  kit : kitB K (cs.map T.cls) = true
  inj : ∀ c ∈ cs, ∀ d ∈ cs, T.cls c = T.cls d → c = d
theorem IsC.insT {K : PySem.W.Frag} {T : Tb} {cs : List Nat} (h : IsC K T cs) {c : Nat} (hc : c ∈ cs) : InsT K (T.cls c) := by
  have q := h.ins c hc
  unfold insB at q
  obtain ⟨q1, q⟩ := Bool.and_eq_true_iff.mp q
  obtain ⟨q2, q⟩ := Bool.and_eq_true_iff.mp q
  obtain ⟨q3, q4⟩ := Bool.and_eq_true_iff.mp q
  exact ⟨(h.cl c hc).1, of_decide_eq_true q1, of_decide_eq_true q2, of_decide_eq_true q3, of_decide_eq_true q4⟩
theorem IsC.ty {K : PySem.W.Frag} {T : Tb} {cs : List Nat} (h : IsC K T cs) {c : Nat} (hc : c ∈ cs) {t : String} (ht : t ∈ tyN) : PySem.W.kitOne K (.ref (T.cls c)) (.type t) = some false ∧ PySem.W.kitOne K (.type t) (.ref (T.cls c)) = some false := by
  have q := List.all_eq_true.mp h.kit (T.cls c) (List.mem_map.mpr ⟨c, hc, rfl⟩)
  obtain ⟨q1, _⟩ := Bool.and_eq_true_iff.mp q
  obtain ⟨a, b⟩ := Bool.and_eq_true_iff.mp (List.all_eq_true.mp q1 t ht)
  exact ⟨of_decide_eq_true a, of_decide_eq_true b⟩
theorem IsC.cc {K : PySem.W.Frag} {T : Tb} {cs : List Nat} (h : IsC K T cs) {c d : Nat} (hc : c ∈ cs) (hd : d ∈ cs) : PySem.W.kitOne K (.ref (T.cls c)) (.ref (T.cls d)) = some (c == d) := by
  have q := List.all_eq_true.mp h.kit (T.cls c) (List.mem_map.mpr ⟨c, hc, rfl⟩)
  obtain ⟨_, q2⟩ := Bool.and_eq_true_iff.mp q
  have q3 := of_decide_eq_true (List.all_eq_true.mp q2 (T.cls d) (List.mem_map.mpr ⟨d, hd, rfl⟩))
  rw [q3]
  have e : (T.cls c == T.cls d) = (c == d) := by
    by_cases hcd : c = d
    · rw [hcd, beq_self_eq_true, beq_self_eq_true]
    · have : T.cls c ≠ T.cls d := fun e => hcd (h.inj c hc d hd e)
      rw [beq_eq_false_iff_ne.mpr this, beq_eq_false_iff_ne.mpr hcd]
  rw [e]
/-- the kind's name -/
def tyS (d : D) : Option String := match d with
  | .non => some "NoneType"
  | .bl _ => some "bool"
  | .int _ => some "int"
  | .str _ => some "str"
  | .tup _ => some "tuple"
  | .lst _ => some "list"
  | .dic _ _ => some "dict"
  | _ => none
/-- is it of that built-in type -/
def kTy (cs : List Nat) (t : String) (d : D) : Option Bool := match d with
  | .ins c _ => if c ∈ cs then some false else none
  | .bl _ => some (decide (t = "bool" ∨ t = "int"))
  | .non => some (decide (t = "NoneType"))
  | .int _ => some (decide (t = "int"))
  | .str _ => some (decide (t = "str"))
  | .tup _ => some (decide (t = "tuple"))
  | .lst _ => some (decide (t = "list"))
  | .dic _ _ => some (decide (t = "dict"))
  | _ => none
def kTy2 (cs : List Nat) (t u : String) (d : D) : Option Bool := match kTy cs t d, kTy cs u d with
  | some a, some b => some (a || b)
  | _, _ => none
/-- .. of that class -/
def kCl (cs : List Nat) (n : Nat) (d : D) : Option Bool := match d with
  | .ins c _ => if c ∈ cs ∧ n ∈ cs then some (c == n) else none
  | .non => if n ∈ cs then some false else none
  | .bl _ => if n ∈ cs then some false else none
  | .int _ => if n ∈ cs then some false else none
  | .str _ => if n ∈ cs then some false else none
  | .tup _ => if n ∈ cs then some false else none
  | .lst _ => if n ∈ cs then some false else none
  | .dic _ _ => if n ∈ cs then some false else none
  | _ => none
theorem kit_ty {K : PySem.W.Frag} {T : Tb} {cs : List Nat} (h : IsC K T cs) {t : String} (ht : t ∈ tyN) {d : D} {b : Bool} (hk : kTy cs t d = some b) : (∀ c ds, d = .ins c ds → InsT K (T.cls c)) ∧ ∃ v, tyD T d = some v ∧ PySem.W.kitOne K v (.type t) = some b := by
  have ht' := ht
  have ht : t = "NoneType" ∨ t = "bool" ∨ t = "int" ∨ t = "str" ∨ t = "tuple" ∨ t = "list" ∨ t = "dict" := by simpa [tyN] using ht
  cases d with
  | ins c ds =>
    have hk : (if c ∈ cs then some false else none) = some b := hk
    by_cases hc : c ∈ cs
    · rw [if_pos hc] at hk
      cases hk
      refine ⟨(fun c' ds' e => by cases e; exact h.insT hc), _, rfl, (h.ty hc ht').1⟩
    · rw [if_neg hc] at hk
      cases hk
  | non =>
    cases hk
    refine ⟨(fun _ _ e => nomatch e), _, rfl, ?_⟩
    rcases ht with rfl | rfl | rfl | rfl | rfl | rfl | rfl <;> rfl
  | bl x =>
    cases hk
    refine ⟨(fun _ _ e => nomatch e), _, rfl, ?_⟩
    rcases ht with rfl | rfl | rfl | rfl | rfl | rfl | rfl <;> rfl
  | int x =>
    cases hk
    refine ⟨(fun _ _ e => nomatch e), _, rfl, ?_⟩
    rcases ht with rfl | rfl | rfl | rfl | rfl | rfl | rfl <;> rfl
  | str x =>
    cases hk
    refine ⟨(fun _ _ e => nomatch e), _, rfl, ?_⟩
    rcases ht with rfl | rfl | rfl | rfl | rfl | rfl | rfl <;> rfl
  | tup x =>
    cases hk
    refine ⟨(fun _ _ e => nomatch e), _, rfl, ?_⟩
    rcases ht with rfl | rfl | rfl | rfl | rfl | rfl | rfl <;> rfl
  | lst x =>
    cases hk
    refine ⟨(fun _ _ e => nomatch e), _, rfl, ?_⟩
    rcases ht with rfl | rfl | rfl | rfl | rfl | rfl | rfl <;> rfl
  | dic x y =>
    cases hk
    refine ⟨(fun _ _ e => nomatch e), _, rfl, ?_⟩
    rcases ht with rfl | rfl | rfl | rfl | rfl | rfl | rfl <;> rfl
  | _ => cases hk
theorem isi_ty {K : PySem.W.Frag} {T : Tb} {cs : List Nat} (h : IsC K T cs) {t : String} (ht : t ∈ tyN) : IsiOk K T (.type t) (kTy cs t) := fun d b hk => kit_ty h ht hk
theorem isi_ty2 {K : PySem.W.Frag} {T : Tb} {cs : List Nat} (h : IsC K T cs) {t u : String} (ht : t ∈ tyN) (hu : u ∈ tyN) : IsiTOk K T [.type t, .type u] (kTy2 cs t u) := fun d b hk => by
  unfold kTy2 at hk
  split at hk
  · rename_i a b' h1 h2
    cases hk
    obtain ⟨q1, v, q2, q3⟩ := kit_ty h ht h1
    obtain ⟨_, v', q4, q5⟩ := kit_ty h hu h2
    rw [q2] at q4
    cases q4
    refine ⟨q1, v, q2, ?_⟩
    show PySem.W.kitAny K v [.type t, .type u] = _
    simp only [PySem.W.kitAny, q3, q5]
    cases a <;> cases b' <;> rfl
  · cases hk
theorem isi_cl {K : PySem.W.Frag} {T : Tb} {cs : List Nat} (h : IsC K T cs) {n : Nat} : IsiOk K T (.ref (T.cls n)) (kCl cs n) := fun d b hk => by
  have flat : ∀ {d : D} {t : String}, t ∈ tyN → (∀ c ds, d ≠ .ins c ds) → tyD T d = some (.type t) → kCl cs n d = (if n ∈ cs then some false else none) → kCl cs n d = some b → (∀ c ds, d = .ins c ds → InsT K (T.cls c)) ∧ ∃ t, tyD T d = some t ∧ PySem.W.kitOne K t (.ref (T.cls n)) = some b := fun {d t} ht nd e1 e2 hk => by
    rw [e2] at hk
    by_cases hc : n ∈ cs
    · rw [if_pos hc] at hk
      cases hk
      exact ⟨fun c ds e => absurd e (nd c ds), _, e1, (h.ty hc ht).2⟩
    · rw [if_neg hc] at hk
      cases hk
  cases d with
  | ins c ds =>
    have hk : (if c ∈ cs ∧ n ∈ cs then some (c == n) else none) = some b := hk
    by_cases hc : c ∈ cs ∧ n ∈ cs
    · rw [if_pos hc] at hk
      cases hk
      exact ⟨(fun c' ds' e => by cases e; exact h.insT hc.1), _, rfl, h.cc hc.1 hc.2⟩
    · rw [if_neg hc] at hk
      cases hk
  | non => exact flat (t := "NoneType") (by decide) (fun _ _ e => nomatch e) rfl rfl hk
  | bl x => exact flat (t := "bool") (by decide) (fun _ _ e => nomatch e) rfl rfl hk
  | int x => exact flat (t := "int") (by decide) (fun _ _ e => nomatch e) rfl rfl hk
  | str x => exact flat (t := "str") (by decide) (fun _ _ e => nomatch e) rfl rfl hk
  | tup x => exact flat (t := "tuple") (by decide) (fun _ _ e => nomatch e) rfl rfl hk
  | lst x => exact flat (t := "list") (by decide) (fun _ _ e => nomatch e) rfl rfl hk
  | dic x y => exact flat (t := "dict") (by decide) (fun _ _ e => nomatch e) rfl rfl hk
  | _ => cases hk
section
variable {X : Cx} {T : Tb} {W : WX} {e e2 : Expr} {m : EM} {pos p p2 p3 p4 : Pos} {x : Str} {cs : List Nat} {t u : String}
/-- the built-in types' names -/
theorem boot_of {t : String} (ht : t ∈ tyN) (hn : t ≠ "NoneType") : bootBuiltins t = some (.type t) := by
  have ht : t = "NoneType" ∨ t = "bool" ∨ t = "int" ∨ t = "str" ∨ t = "tuple" ∨ t = "list" ∨ t = "dict" := by simpa [tyN] using ht
  rcases ht with rfl | rfl | rfl | rfl | rfl | rfl | rfl
  · exact absurd rfl hn
  · decide +kernel
  · decide +kernel
  · decide +kernel
  · decide +kernel
  · decide +kernel
  · decide +kernel
theorem q_isTy (h : IsC X.K T cs) (hg2 : Gl X t := by rfl) (hm2 : X.mg t = none) (hg : Gl X "isinstance" := by rfl) (hm : X.mg "isinstance" = none) (ha : QB X T W e m) (ht : t ∈ tyN := by decide) (hnt : t ≠ "NoneType" := by decide) (hn : (t : Str) ≠ "__name__" := by decide) (hd : ((t : Str) == ("__debug__" : Str)) = false := by decide)
    (hs : starEach [e, .Name t p2] X.env = (false, eval e X.env) :: starEach [.Name t p2] X.env := by rfl) (hs2 : starEach [.Name t p2] X.env = (false, eval (.Name t p2) X.env) :: starEach [] X.env := by rfl) (hpl : (backTo pos (starEach [.Name t p2] X.env)).any (·.1) = false := by rfl) :
    QE X T W (.Call (.Name "isinstance" p) [e, .Name t p2] [] pos) (gIsi (kTy cs t) m) :=
  q_isi1 (te := fun _ _ _ => True) (isi_ty h ht) (.ty t) (pe_bltn (v := .ty t) hg2 hm2 (boot_of ht hnt) rfl hn hd) hg hm ha hs hs2 hpl
theorem q_isTy2 {x1 : Nat} (h : IsC X.K T cs) (hg2 : Gl X t := by rfl) (hm2 : X.mg t = none) (hg3 : Gl X u := by rfl) (hm3 : X.mg u = none) (hg : Gl X "isinstance" := by rfl) (hm : X.mg "isinstance" = none) (ha : QB X T W e m) (ht : t ∈ tyN := by decide) (hnt : t ≠ "NoneType" := by decide) (hn : (t : Str) ≠ "__name__" := by decide) (hd : ((t : Str) == ("__debug__" : Str)) = false := by decide)
    (hu : u ∈ tyN := by decide) (hnu : u ≠ "NoneType" := by decide) (hnu2 : (u : Str) ≠ "__name__" := by decide) (hdu : ((u : Str) == ("__debug__" : Str)) = false := by decide)
    (hs : starEach [e, .Tuple [.Name t p2, .Name u p3] x1 p4] X.env = (false, eval e X.env) :: starEach [.Tuple [.Name t p2, .Name u p3] x1 p4] X.env := by rfl) (hs2 : starEach [.Tuple [.Name t p2, .Name u p3] x1 p4] X.env = (false, eval (.Tuple [.Name t p2, .Name u p3] x1 p4) X.env) :: starEach [] X.env := by rfl) (hpl : (backTo pos (starEach [.Tuple [.Name t p2, .Name u p3] x1 p4] X.env)).any (·.1) = false := by rfl)
    (ht1 : starEach [.Name t p2, .Name u p3] X.env = (false, eval (.Name t p2) X.env) :: starEach [.Name u p3] X.env := by rfl) (ht2 : starEach [.Name u p3] X.env = (false, eval (.Name u p3) X.env) :: starEach [] X.env := by rfl) :
    QE X T W (.Call (.Name "isinstance" p) [e, .Tuple [.Name t p2, .Name u p3] x1 p4] [] pos) (gIsi (kTy2 cs t u) m) :=
  q_isi2 (isi_ty2 h ht hu) (.ty t) (.ty u) (pe_bltn (v := .ty t) hg2 hm2 (boot_of ht hnt) rfl hn hd) (pe_bltn (v := .ty u) hg3 hm3 (boot_of hu hnu) rfl hnu2 hdu) hg hm ha hs hs2 hpl ht1 ht2
theorem q_isCl {n : Nat} (h : IsC X.K T cs) (hm2 : X.mg x = some (.ref (T.cls n))) (hg2 : Gl X x := by rfl) (hg : Gl X "isinstance" := by rfl) (hm : X.mg "isinstance" = none) (ha : QB X T W e m) (hd : (x == ("__debug__" : Str)) = false := by decide)
    (hs : starEach [e, .Name x p2] X.env = (false, eval e X.env) :: starEach [.Name x p2] X.env := by rfl) (hs2 : starEach [.Name x p2] X.env = (false, eval (.Name x p2) X.env) :: starEach [] X.env := by rfl) (hpl : (backTo pos (starEach [.Name x p2] X.env)).any (·.1) = false := by rfl) :
    QE X T W (.Call (.Name "isinstance" p) [e, .Name x p2] [] pos) (gIsi (kCl cs n) m) :=
  q_isi1 (te := fun _ _ _ => True) (isi_cl h) (.own _) (pe_glob (v := .ref (T.cls n)) hg2 hm2 rfl hd) hg hm ha hs hs2 hpl
end

/-! ### functions as values -/
section
variable {P : Program} {w : World} {K : PySem.W.Frag} {mg : Str → Option Value} {base : Heap} {T : Tb}
/-- the def at T.fn i -/
structure FnA (P : Program) (w : World) (K : PySem.W.Frag) (mg : Str → Option Value) (base : Heap) (T : Tb) (k i n : Nat) (F : FM) : Prop where
  ex : ∃ fd ps, FnOk P w K mg base (L2.CX P w) k (T.fn i) fd ps (spD K T n F) ∧ PySem.W.keepIn K (.ref (T.fn i)) = true ∧ Binds K fd ps []
theorem FnA.tb {o : Option Addr} {k i n : Nat} {F : FM} (h : FnA P w K mg base T k i n F) : FnA P w K mg base (T.w o) k i n F := by
  obtain ⟨fd, ps, h1, h2⟩ := h.ex
  exact ⟨fd, ps, h1.imp fun vs H Q E z => spD_tb z, h2⟩
theorem Fn.at_ {k i n : Nat} {x : Str} {F : FM} (h : Fn P w K mg base T k x n F) (e : mg x = some (.ref (T.fn i))) : FnA P w K mg base T k i n F := by
  obtain ⟨f, fd, ps, h1, h2, h3, h4⟩ := h.ex
  rw [e] at h2
  cases h2
  exact ⟨fd, ps, h1, h3, h4⟩
end
def mCallV (i : Nat) (tbl : List (Nat × FM)) (lm : LM) : EM := fun ρ s => match ρ[i]? with
  | some (.v (.fn j)) => match tbl.lookup j with
    | some F => (lm ρ s).bind fun ds s1 => F ds s1
    | none => .no
  | _ => .no
section
variable {X : Cx} {T : Tb} {W : WX} {e : Expr} {es : List Expr} {lm : LM} {pos p : Pos} {x : Str} {i j k n : Nat} {tbl : List (Nat × FM)}
theorem q_gfn {i : Nat} (hm : X.mg x = some (.ref (T.fn i))) (hg : Gl X x := by rfl) (hd : (x == ("__debug__" : Str)) = false := by decide) : QE X T W (.Name x pos) (mC (.fn i)) := q_c (v := .ref (T.fn i)) (pe_glob hg hm rfl hd) fun _ _ => .fn i
theorem q_callV (hF : ∀ q ∈ tbl, FnA X.prog X.w X.K X.mg X.base T k q.1 n q.2) (hr : Room j X.A) (tk : Takes X W) (hk : k ≤ j := by decide) (ha : QS X T W n (e :: es) lm) (hN : X.N[i]? = some x := by rfl) (hv : Vis X.env.scope x := by first | exact Or.inl rfl | exact Or.inr (Or.inl rfl) | exact Or.inr (Or.inr rfl))
    (hd : (x == ("__debug__" : Str)) = false := by decide) (hcd : (x == ("__classdict__" : Str)) = false := by decide)
    (he : starEach (e :: es) X.env = (false, eval e X.env) :: starEach es X.env := by rfl) (hpl : (backTo pos (starEach es X.env)).any (·.1) = false := by rfl) :
    QE X T W (.Call (.Name x p) (e :: es) [] pos) (mCallV i tbl lm) := by
  refine ⟨fun pins s σ H Q I h => ?_⟩
  obtain ⟨B, Z, cm, ρ, s0, r, q⟩ := h
  unfold mCallV at q
  split at q
  · rename_i i' e0
    obtain ⟨v, h1, h2⟩ := r.val _ _ e0
    cases h2
    split at q
    · rename_i F eF
      obtain ⟨fd, ps, F1, kp, b⟩ := (hF _ (lookup_mem eF)).ex
      refine wpAny_Call_Name_kw (thn ((pe_var (pos := p) hN hv hd hcd).run pins s σ H (fun v H1 => v = .ref (T.fn i') ∧ H1 = H) I ⟨_, h1, rfl, rfl⟩) fun u s1 ⟨v, H1, I1, r1, q1⟩ => ?_)
      obtain ⟨rfl, rfl⟩ := q1
      cases r1
      have h' : tCallS (spD X.K T n F) (WE W) (tP X.K T W (ALn X.K T n) lm) σ H1 Q := tCallF_of ⟨B, Z, cm, ρ, s0, r, q⟩
      refine PySem.W.callWith_K (h₀ := X.base) I.ok.mod.kin kp (thn (ha.run pos pins s1 σ _ _ I1 h') fun us s2 ⟨vs, H2, I2, r, q⟩ => ⟨I2.kIn, ?_⟩) he hpl
      exact run_fnS (E := WE W) F1 (hr.mono hk) b (passAt tk σ) I2 r q
    · exact q.elim
  · exact q.elim

/-! ### constants of the module: tuples | dicts -/
theorem q_gtup {v : Addr} {xs : List V} {ds : List D} (hm : X.mg x = some (.ref v)) (hs : ∀ H, SqT X.K H v xs) (hr : ∀ cm G, Reps X.K T cm G xs ds) (hg : Gl X x := by rfl) (hd : (x == ("__debug__" : Str)) = false := by decide) : QE X T W (.Name x pos) (mC (.tup ds)) :=
  q_c (v := .ref v) (pe_glob hg hm rfl hd) fun cm G => .tup (hs G) (hr cm G)
end
end Tv

/-! Tv15: rules in short for the printer -/
namespace Tv
open PySem PySem.Spec PyProof.Rows L2

theorem hu64 {A : Around} {k : Nat} (hr : Room k A) : A.units + 64 < cLine := by have := hr.un; omega
def gSliceA (x : D) (lo hi : Option Int) (s : S) : R D := match x with
  | .tup a => .ok (.tup (cutD a lo hi)) s
  | .lst a => .ok (.lst (cutD a lo hi)) s
  | .frz a => .ok (.lst (cutD a lo hi)) s
  | .str z => if z.length ≤ sizeLine then .ok (.str (cutS z lo hi)) s else .no
  | _ => .no
def gAddA : D → D → S → R D := fun x y s => match x, y with
  | .int i, .int j => .ok (.int (i + j)) s
  | .str a, .str b => if a.length + b.length ≤ sizeLine then .ok (.str (a ++ b)) s else .no
  | .tup a, .tup b => if a.length + b.length ≤ sizeLine then .ok (.tup (a ++ b)) s else .no
  | .lst a, .lst b => if a.length + b.length ≤ sizeLine then .ok (.lst (a ++ b)) s else .no
  | _, _ => .no
def fldOkB (T : Tb) (f : Str) (ixs : List (Nat × Nat)) : Bool := ixs.all fun p => decide (fldIx (T.fl p.1) f = some p.2)
theorem fldOkB_ok {T : Tb} {f : Str} {ixs : List (Nat × Nat)} (h : fldOkB T f ixs = true) : FldOk T f ixs := fun p hp => of_decide_eq_true (List.all_eq_true.mp h p hp)
theorem ClsOk.no {K : PySem.W.Frag} {T : Tb} {c : Nat} {f : Str} (h : ClsOk K T c) (hf : (T.fl c).contains f = true) : NoAttr K (T.cls c) f := h.2 f (List.contains_iff_mem.mp hf)
section
variable {X : Cx} {T : Tb} {W : WX} {a b e : Expr} {ma mb m : EM} {pos p2 : Pos} {lo hi : Option Expr} {lom him : OM} {x : Str}
theorem osl_any : OSl X T (AR X.K T) (fun x lo hi H Q => (rSlA X.K x lo hi H Q ∨ rSlS x lo hi H Q) ∨ rSlL X.K x lo hi H Q) gSliceA := by
  intro F cm H s W x d lo hi Q r a p
  cases d with
  | tup ds => exact .inl (osl_tup F cm H s W x _ lo hi Q r a p)
  | str z => exact .inl (osl_tup F cm H s W x _ lo hi Q r a p)
  | lst ds => exact .inr (osl_lst F cm H s W x (.lst ds) lo hi Q r a fun v H' cm' ex r' z => p v H' cm' ex r' (AF.val r z))
  | frz ds => exact .inr (osl_lst F cm H s W x (.frz ds) lo hi Q r a fun v H' cm' ex r' z => p v H' cm' ex r' (AF.val r z))
  | _ => exact p.elim
theorem q_sliceA (he : QB X T W e m) (hl : QO X T W lo lom) (hh : QO X T W hi him) : QE X T W (.Subscript e (.Slice lo hi none p2) pos) (mSlice gSliceA m lom him) :=
  PE.conv (pe_slice ((sl_tupA.or sl_str).or sl_list) he hl hh) fun _ _ _ h => tSl_of osl_any up_AR h
theorem o2_addA : O2 X T (AR X.K T) (fun x y H Q => rAddAll X.K x y H Q ∨ rCat x y H Q) gAddA := by
  intro F cm H s W x y dx dy Q r a b p
  cases dx with
  | int i =>
    cases dy with
    | int j => exact .inl (o2_add F cm H s W x y _ _ Q r a b p)
    | _ => exact p.elim
  | str i =>
    cases dy with
    | str j => exact .inl (o2_add F cm H s W x y _ _ Q r a b p)
    | _ => exact p.elim
  | tup i =>
    cases dy with
    | tup j => exact .inl (o2_add F cm H s W x y _ _ Q r a b p)
    | _ => exact p.elim
  | lst i =>
    cases dy with
    | lst j =>
      refine .inr (o2_cat F cm H s W x y (.lst i) (.lst j) Q r a b ?_)
      unfold gCat
      unfold gAddA at p
      dsimp only at p ⊢
      split at p
      · rename_i hl
        rw [if_pos hl]
        exact fun v H' cm' ex r' z => p v H' cm' ex r' (AF.val r z)
      · exact p.elim
    | _ => exact p.elim
  | _ => exact p.elim
theorem q_addA (ha : QB X T W a ma) (hb : QB X T W b mb) : QE X T W (.BinOp a .Add b pos) (mOp gAddA ma mb) := q_op (op_addAll.or op_cat) o2_addA up_AR ha hb
theorem q_gintE {i : Int} (h : ∃ t, X.mg x = some (.int i t)) (hg : Gl X x := by rfl) (hd : (x == ("__debug__" : Str)) = false := by decide) : QE X T W (.Name x pos) (mC (.int i)) := by
  obtain ⟨t, ht⟩ := h
  exact q_gint hg ht hd
theorem q_gstrE {i : Str} (h : ∃ t, X.mg x = some (.str i t)) (hg : Gl X x := by rfl) (hd : (x == ("__debug__" : Str)) = false := by decide) : QE X T W (.Name x pos) (mC (.str i)) := by
  obtain ⟨t, ht⟩ := h
  exact q_gstr hg ht hd
theorem q_fldC {f : Str} {cs : List Nat} {ixs : List (Nat × Nat)} (h : IsC X.K T cs) (he : QB X T W e m) (hx : ∀ p ∈ ixs, p.1 ∈ cs := by decide) (hf : fldOkB T f ixs = true := by kernel_rfl) (hb : attributeBase e f X.env (eval e X.env) = eval e X.env := by rfl) : QE X T W (.Attribute e f pos) (mFld ixs m) :=
  q_fld (fun p hp => h.cl p.1 (hx p hp)) (fldOkB_ok hf) he hb
theorem IsC.tb {K : PySem.W.Frag} {o : Option Addr} {cs : List Nat} (h : IsC K T cs) : IsC K (T.w o) cs := ⟨h.cl, h.ins, h.kit, h.inj⟩
end
end Tv

/-! Tv16: the end -/
namespace Tv
open PySem PySem.Spec PyProof.Rows L2
theorem reps_ints {K : PySem.W.Frag} {T : Tb} {cm : List Addr} {G : Hp} : ∀ ns : List Int, Reps K T cm G (ns.map V.int) (ns.map D.int)
  | [] => .nil
  | n :: ns => .cons (.int n) (reps_ints ns)
abbrev scr (ns : List Int) : D := .frz (ns.map D.int)
theorem lawAt {l : PySem.W.OpenLaw} {w : World} {K : PySem.W.Frag} {mg : Str → Option Value} {fa : Addr} {h : Heap} {k : Nat} {fd : FuncData} {T : Tb} {F : FM} (hb : ∀ (s : Shared) (v : Value), BindsTo s fd ⟨[v], []⟩ [("script", v)])
    (hF : ∀ base : Heap, K.In base → base.Ns mainGlobals mg → FnOk l.prog w K mg base (L2.CX l.prog w) k fa fd ["script"] (spD K T 1 F))
    (hl : ∀ ns : List Int, ns.length ≤ 63 → (∀ z ∈ ns, Builtin.Int.intBits z ≤ 1048576) → ∃ s, F [scr ns] [] = .ok (.bl true) s) : LamX.LawAtS l w K (L2.CX l.prog w) k 63 "script" mg fa h := by
  refine ⟨fd, [], spD K T 1 F, (fun _ h => nomatch h), (fun _ h => nomatch h), (fun _ h => nomatch h), hb, fun H a ns h1 h2 _ hS => ?_, fun base b1 b2 _ => hF base b1 b2⟩
  obtain ⟨s, e⟩ := hl ns h1 h2
  have eG : GV [] (fun _ => False) O0 H = H := by
    funext b
    show hid _ H b = H b
    unfold hid
    exact if_neg fun z => by
      rcases z with z | z | z
      · cases z
      · exact z
      · exact z
  refine ⟨rfl, [], fun _ => False, [scr ns], [], ⟨rfl, List.nodup_nil, (fun n a d e => by cases e), (fun _ h => nomatch h), (fun _ h => h.elim), (fun _ h => nomatch h)⟩, ?_, ?_⟩
  · rw [eG]
    exact .cons (.frz hS (reps_ints ns)) .nil
  · rw [e]
    intro v H' cm' _ _ r
    cases r
    rfl
end Tv

/-! Tv17: the evaluator's steps, applied forms -/
namespace Tv
open PySem PySem.Spec PyProof.Rows L2
section
variable {ρ : List SD} {s : S} {a b c m : EM} {ta tb tc : TM} {lm : LM} {x y d : D} {i k n : Nat} {sa sb : SM} {F : FM}
theorem v_var : mVar i ρ s = match (ρ[i]? : Option SD) with | some (.v d) => .ok d s | _ => .no := by
  unfold mVar
  cases (ρ[i]? : Option SD) with
  | none => rfl
  | some y => cases y <;> rfl
theorem v_varB : mVarB i ρ s = match (ρ[i]? : Option SD) with | some (.v d) => .ok d s | some (.own d) => .ok d s | _ => .no := by
  unfold mVarB
  cases (ρ[i]? : Option SD) with
  | none => rfl
  | some y => cases y <;> rfl
theorem v_c : mC d ρ s = .ok d s := rfl
theorem v_op {g : D → D → S → R D} : mOp g a b ρ s = match a ρ s with
  | .ok x s1 => (match b ρ s1 with | .ok y s2 => g x y s2 | .er c ds s => .er c ds s | .no => .no)
  | .er c ds s => .er c ds s
  | .no => .no := by
  unfold mOp
  cases a ρ s <;> (try rfl)
  rename_i x1 s1
  dsimp only [R.bind, mE]
  cases b ρ s1 <;> rfl
theorem v_un {g : D → S → R D} : mUn g a ρ s = match a ρ s with
  | .ok x s1 => g x s1
  | .er c ds s => .er c ds s
  | .no => .no := by
  unfold mUn
  cases a ρ s <;> rfl
theorem v_nil : mNil ρ s = .ok [] s := rfl
theorem v_cons : mCons a lm ρ s = match a ρ s with
  | .ok x s1 => (match lm ρ s1 with | .ok xs s2 => .ok (x :: xs) s2 | .er c ds s => .er c ds s | .no => .no)
  | .er c ds s => .er c ds s
  | .no => .no := by
  unfold mCons
  cases a ρ s <;> (try rfl)
  rename_i x1 s1
  dsimp only [R.bind, mE]
  cases lm ρ s1 <;> rfl
theorem v_tup : mTup lm ρ s = match lm ρ s with
  | .ok xs s1 => .ok (.tup xs) s1
  | .er c ds s => .er c ds s
  | .no => .no := by
  unfold mTup
  cases lm ρ s <;> rfl
theorem v_lst : mLst lm ρ s = match lm ρ s with
  | .ok xs s1 => .ok (.lst xs) s1
  | .er c ds s => .er c ds s
  | .no => .no := by
  unfold mLst
  cases lm ρ s <;> rfl
theorem v_test : mTest a ρ s = match a ρ s with
  | .ok x s1 => (match x with | .bl b => .ok b s1 | _ => .no)
  | .er c ds s => .er c ds s
  | .no => .no := by
  unfold mTest
  cases a ρ s <;> (try rfl)
theorem v_and : mAnd ta tb ρ s = match ta ρ s with
  | .ok x s1 => (match x with | true => tb ρ s1 | false => .ok false s1)
  | .er c ds s => .er c ds s
  | .no => .no := by
  unfold mAnd
  cases ta ρ s <;> (try rfl)
theorem v_or : mOr ta tb ρ s = match ta ρ s with
  | .ok x s1 => (match x with | true => .ok true s1 | false => tb ρ s1)
  | .er c ds s => .er c ds s
  | .no => .no := by
  unfold mOr
  cases ta ρ s <;> (try rfl)
theorem v_not : mNot ta ρ s = match ta ρ s with
  | .ok x s1 => .ok (!x) s1
  | .er c ds s => .er c ds s
  | .no => .no := by
  unfold mNot
  cases ta ρ s <;> rfl
theorem v_if : mIf tc a b ρ s = match tc ρ s with
  | .ok x s1 => (match x with | true => a ρ s1 | false => b ρ s1)
  | .er c ds s => .er c ds s
  | .no => .no := by
  unfold mIf
  cases tc ρ s <;> (try rfl)
theorem v_andV : mAndV a b ρ s = match a ρ s with
  | .ok x s1 => (match x with | .bl true => b ρ s1 | .bl false => .ok (.bl false) s1 | _ => .no)
  | .er c ds s => .er c ds s
  | .no => .no := by
  unfold mAndV
  cases a ρ s <;> (try rfl)
theorem v_orV : mOrV a b ρ s = match a ρ s with
  | .ok x s1 => (match x with | .bl true => .ok (.bl true) s1 | .bl false => b ρ s1 | _ => .no)
  | .er c ds s => .er c ds s
  | .no => .no := by
  unfold mOrV
  cases a ρ s <;> (try rfl)
theorem v_notV : mNotV a ρ s = match a ρ s with
  | .ok x s1 => (match x with | .bl b => .ok (.bl (!b)) s1 | _ => .no)
  | .er c ds s => .er c ds s
  | .no => .no := by
  unfold mNotV
  cases a ρ s <;> (try rfl)
theorem v_chain {g g' : D → D → S → R D} : mChain g g' a b c ρ s = match a ρ s with
  | .ok x s1 => (match b ρ s1 with
    | .ok y s2 => (match g x y s2 with
      | .ok z s3 => (match z with
        | .bl true => (match c ρ s3 with | .ok w s4 => g' y w s4 | .er c ds s => .er c ds s | .no => .no)
        | .bl false => .ok (.bl false) s3
        | _ => .no)
      | .er c ds s => .er c ds s
      | .no => .no)
    | .er c ds s => .er c ds s
    | .no => .no)
  | .er c ds s => .er c ds s
  | .no => .no := by
  unfold mChain
  cases a ρ s <;> (try rfl)
  rename_i x1 s1
  dsimp only [R.bind]
  cases b ρ s1 <;> (try rfl)
  rename_i x2 s2
  dsimp only [R.bind]
  cases g x1 x2 s2 <;> (try rfl)
  rename_i x3 s3
  dsimp only [R.bind]
  cases x3 <;> (try rfl)
  rename_i k
  cases k <;> (try rfl)
  dsimp only [R.bind]
  cases c ρ s3 <;> rfl
theorem v_call {g : List D → S → R D} : mCall g lm ρ s = match lm ρ s with
  | .ok xs s1 => g xs s1
  | .er c ds s => .er c ds s
  | .no => .no := by
  unfold mCall
  cases lm ρ s <;> rfl
theorem v_callF : mCallF F lm ρ s = match lm ρ s with
  | .ok xs s1 => F xs s1
  | .er c ds s => .er c ds s
  | .no => .no := by
  unfold mCallF
  cases lm ρ s <;> rfl
theorem v_callV {tbl : List (Nat × FM)} : mCallV i tbl lm ρ s = match (ρ[i]? : Option SD) with
  | some (.v (.fn j)) => (match tbl.lookup j with
    | some F => (match lm ρ s with | .ok xs s1 => F xs s1 | .er c ds s => .er c ds s | .no => .no)
    | none => .no)
  | _ => .no := by
  unfold mCallV
  cases (ρ[i]? : Option SD) with
  | none => rfl
  | some y =>
    cases y with
    | v d =>
      cases d <;> (try rfl)
      rename_i j
      dsimp only
      cases tbl.lookup j <;> (try rfl)
      dsimp only
      cases lm ρ s <;> rfl
    | _ => rfl
theorem v_isi {k : D → Option Bool} : gIsi k m ρ s = match m ρ s with
  | .ok x s1 => (match k x with | some b => .ok (.bl b) s1 | none => .no)
  | .er c ds s => .er c ds s
  | .no => .no := by
  unfold gIsi
  cases m ρ s <;> (try rfl)
theorem v_slice {g : D → Option Int → Option Int → S → R D} {lo hi : OM} : mSlice g m lo hi ρ s = match m ρ s with
  | .ok x s1 => (match lo ρ s1 with
    | .ok l s2 => (match hi ρ s2 with | .ok u s3 => g x l u s3 | .er c ds s => .er c ds s | .no => .no)
    | .er c ds s => .er c ds s
    | .no => .no)
  | .er c ds s => .er c ds s
  | .no => .no := by
  unfold mSlice
  cases m ρ s <;> (try rfl)
  rename_i x1 s1
  dsimp only [R.bind, mE]
  cases lo ρ s1 <;> (try rfl)
  rename_i x2 s2
  dsimp only [R.bind, mE]
  cases hi ρ s2 <;> rfl
theorem v_part : mPart m ρ s = match m ρ s with
  | .ok x s1 => (match x with | .int i => .ok (some i) s1 | _ => .no)
  | .er c ds s => .er c ds s
  | .no => .no := by
  unfold mPart
  cases m ρ s <;> (try rfl)
theorem v_noPart : mNoPart ρ s = .ok none s := rfl
theorem v_fld {ixs : List (Nat × Nat)} : mFld ixs m ρ s = match m ρ s with
  | .ok x s1 => (match x with
    | .ins c ds => match ixs.lookup c with
      | some j => (match (ds[j]? : Option D) with | some d => .ok d s1 | none => .no)
      | none => .no
    | .cell n => match (s1[n]? : Option D) with
      | some (.ins c ds) => (match ixs.lookup c with
        | some j => (match (ds[j]? : Option D) with | some d => .ok d s1 | none => .no)
        | none => .no)
      | _ => .no
    | _ => .no)
  | .er c ds s => .er c ds s
  | .no => .no := by
  unfold mFld
  cases m ρ s <;> (try rfl)
theorem v_comp {vs : List Nat} {mi : LM} {pm : Pt} {tt : TM} {te : EM} : mComp vs mi pm tt te ρ s = match mi ρ s with
  | .ok ds s1 => if unowned ρ vs = true ∧ ds.length ≤ sizeLine then (match compF pm tt te (wipeR ρ vs) ds s1 with | .ok ys s2 => .ok (.lst ys) s2 | .er c ds s => .er c ds s | .no => .no) else .no
  | .er c ds s => .er c ds s
  | .no => .no := by
  unfold mComp
  cases mi ρ s <;> (try rfl)
  rename_i x1 s1
  dsimp only [R.bind]
  split <;> (try rfl)
  cases compF pm tt te (wipeR ρ vs) x1 s1 <;> rfl
theorem v_yes : mYes ρ s = .ok true s := rfl
theorem v_seqI : mSeqI m ρ s = match m ρ s with
  | .ok x s1 => (match x with
    | .tup ds => .ok ds s1
    | .lst ds => .ok ds s1
    | .frz ds => .ok ds s1
    | .str z => .ok (z.cps.toList.map fun c => .str ⟨#[c]⟩) s1
    | _ => .no)
  | .er c ds s => .er c ds s
  | .no => .no := by
  unfold mSeqI
  cases m ρ s <;> (try rfl)
theorem v_rng1 : mRng1 lm ρ s = match lm ρ s with
  | .ok xs s1 => (match xs with
    | [.int j] => if rngOk j then .ok (rngD 0 j.toNat) s1 else .no
    | _ => .no)
  | .er c ds s => .er c ds s
  | .no => .no := by
  unfold mRng1
  cases lm ρ s <;> (try rfl)
theorem v_rng2 : mRng2 lm ρ s = match lm ρ s with
  | .ok xs s1 => (match xs with
    | [.int i, .int j] => if rngOk i && rngOk j then .ok (rngD i (j - i).toNat) s1 else .no
    | _ => .no)
  | .er c ds s => .er c ds s
  | .no => .no := by
  unfold mRng2
  cases lm ρ s <;> (try rfl)
theorem v_enumI : mEnumI lm ρ s = match lm ρ s with
  | .ok xs s1 => (match xs with
    | [x] => (match seqV x with | some ds => .ok (enumD ds) s1 | none => .no)
    | _ => .no)
  | .er c ds s => .er c ds s
  | .no => .no := by
  unfold mEnumI
  cases lm ρ s <;> (try rfl)
theorem v_zipI : mZipI lm ρ s = match lm ρ s with
  | .ok xs s1 => (match xs with
    | [x, y] => (match seqV x, seqV y with | some ds, some es => .ok (zipD ds es) s1 | _, _ => .no)
    | _ => .no)
  | .er c ds s => .er c ds s
  | .no => .no := by
  unfold mZipI
  cases lm ρ s <;> (try rfl)
/-! ### statements -/
theorem v_next : mNext ρ s = .nx ρ s := rfl
theorem v_seq : mSeq sa sb ρ s = match sa ρ s with
  | .nx ρ' s' => sb ρ' s'
  | .rt d s' => .rt d s'
  | .bk ρ' s' => .bk ρ' s'
  | .ct ρ' s' => .ct ρ' s'
  | .er c ds ρ' s' => .er c ds ρ' s'
  | .no => .no := by
  unfold mSeq
  cases sa ρ s <;> rfl
theorem v_set : mSet i m ρ s = match m ρ s with
  | .ok d s' => .nx (ρ.set i (.v d)) s'
  | .er c ds s' => .er c ds ρ s'
  | .no => .no := by
  unfold mSet mE
  cases m ρ s <;> rfl
theorem v_setO : mSetO i m ρ s = match m ρ s with
  | .ok d s' => (if i < ρ.length then .nx (ρ.set i (.own d)) s' else .no)
  | .er c ds s' => .er c ds ρ s'
  | .no => .no := by
  unfold mSetO mE
  cases m ρ s <;> rfl
theorem v_drop : mDrop m ρ s = match m ρ s with
  | .ok d s' => .nx ρ s'
  | .er c ds s' => .er c ds ρ s'
  | .no => .no := by
  unfold mDrop mE
  cases m ρ s <;> rfl
theorem v_ret : mRet m ρ s = match m ρ s with
  | .ok d s' => .rt d s'
  | .er c ds s' => .er c ds ρ s'
  | .no => .no := by
  unfold mRet mE
  cases m ρ s <;> rfl
theorem v_retN : mRetN ρ s = .rt .non s := rfl
theorem v_brk : mBrk ρ s = .bk ρ s := rfl
theorem v_cnt : mCnt ρ s = .ct ρ s := rfl
theorem v_ifS : mIfS tc sa sb ρ s = match tc ρ s with
  | .ok b s' => (match b with | true => sa ρ s' | false => sb ρ s')
  | .er k ds s' => .er k ds ρ s'
  | .no => .no := by
  show mIfS tc sa sb ρ s = _
  unfold mIfS
  cases tc ρ s with
  | ok b s' => cases b <;> rfl
  | er _ _ _ => rfl
  | no => rfl
theorem v_frz : mFrz i sa ρ s = sa (frz i ρ) s := rfl
theorem v_while {fuel : List SD → S → Nat} : mWhile fuel tc sb ρ s = loopW tc sb (fuel ρ s) ρ s := rfl
theorem v_for {mi : LM} {pm : Pt} : mFor mi pm sb ρ s = match mi ρ s with
  | .ok ds s1 => loopF pm sb ds ρ s1
  | .er k e s1 => .er k e ρ s1
  | .no => .no := by
  unfold mFor
  cases mi ρ s <;> rfl
theorem v_meth {g : List D → List D → Option (D × List D)} : mMethS i g lm ρ s = match ownL i ρ with
  | some ds => (match lm ρ s with
    | .ok as s1 => (match g ds as with
      | some (_, ds') => .nx (ρ.set i (.own (.lst ds'))) s1
      | none => .no)
    | .er c ds s1 => .er c ds ρ s1
    | .no => .no)
  | none => .no := by
  unfold mMethS
  cases ownL i ρ <;> (try rfl)
theorem v_setIx {mi : EM} : mSetIx i mi m ρ s = match m ρ s with
  | .ok d s1 => (match baseOk i ρ with
    | true => (match mi ρ s1 with
      | .ok k s2 => (match k with | .int k => setIx i k d ρ s2 | _ => .no)
      | .er c ds s' => .er c ds ρ s'
      | .no => .no)
    | false => .no)
  | .er c ds s' => .er c ds ρ s'
  | .no => .no := by
  unfold mSetIx mE
  cases m ρ s <;> (try rfl)
theorem v_cell : mCell i m ρ s = match m ρ s with
  | .ok d s1 => .nx (ρ.set i (.v (.cell s1.length))) (s1 ++ [d])
  | .er c ds s' => .er c ds ρ s'
  | .no => .no := by
  unfold mCell mE
  cases m ρ s <;> rfl
theorem v_aug {g : Int → Int → Int} : mAug i g m ρ s = match (ρ[i]? : Option SD) with
  | some (.v (.int a)) => (match m ρ s with
    | .ok d s1 => (match d with | .int b => .nx (ρ.set i (.v (.int (g a b)))) s1 | _ => .no)
    | .er c ds s' => .er c ds ρ s'
    | .no => .no)
  | _ => .no := by
  unfold mAug mE
  cases (ρ[i]? : Option SD) with
  | none => rfl
  | some y =>
    cases y with
    | v d =>
      cases d <;> (try rfl)
    | _ => rfl
theorem v_pt {pt : Pt} : mPt pt m ρ s = match m ρ s with
  | .ok d s1 => (match pt.run d ρ with | some ρ' => .nx ρ' s1 | none => .no)
  | .er c ds s' => .er c ds ρ s'
  | .no => .no := by
  unfold mPt mE
  cases m ρ s <;> (try rfl)
theorem v_par {is : List Nat} {ms : List Bool} : mPar is ms lm ρ s = match lm ρ s with
  | .ok ds s1 => (match setM is ms ds ρ with
    | some ρ' => .nx ρ' s1
    | none => .no)
  | .er c ds s1 => .er c ds ρ s1
  | .no => .no := by
  unfold mPar
  cases lm ρ s <;> (try rfl)
theorem v_setF {j : Nat} {c0 : Nat} : mSetF c0 j m ρ s = match m ρ s with
  | .ok d s1 => (match (ρ[0]? : Option SD) with
    | some (.own (.sf c' ds)) => if c' = c0 ∧ ds.length = j then .nx (ρ.set 0 (.own (.sf c0 (ds ++ [d])))) s1 else .no
    | _ => .no)
  | .er c ds s' => .er c ds ρ s'
  | .no => .no := by
  unfold mSetF mE
  cases m ρ s <;> (try rfl)
theorem v_fun {e : Nat} {ds : List D} : mFun e sb ds s = match sb (ds.map .v ++ List.replicate e .un) s with
  | .nx _ s' => .ok .non s'
  | .rt d s' => .ok d s'
  | .er c es _ s' => .er c es s'
  | .bk _ _ => .no
  | .ct _ _ => .no
  | .no => .no := by
  show mFun e sb ds s = _
  unfold mFun
  cases sb (ds.map .v ++ List.replicate e .un) s <;> rfl
theorem v_ne_ok {α : Type} {x : α} : (R.ok x s).ne = .ok x s := rfl
theorem v_loopF_nil {pm : Pt} : loopF pm sb [] ρ s = .nx ρ s := rfl
theorem v_loopF {pm : Pt} {ds : List D} : loopF pm sb (d :: ds) ρ s = match pm.run d ρ with
  | some ρ1 => (match sb ρ1 s with
    | .nx ρ' s' => loopF pm sb ds ρ' s'
    | .ct ρ' s' => loopF pm sb ds ρ' s'
    | .bk ρ' s' => .nx ρ' s'
    | .rt d s' => .rt d s'
    | .er k e ρ' s' => .er k e ρ' s'
    | .no => .no)
  | none => .no := by
  conv => lhs; unfold loopF
  all_goals (cases pm.run d ρ <;> (try rfl))
theorem v_loopW : loopW tc sb (n + 1) ρ s = match tc ρ s with
  | .ok b s1 => (match b with
    | true => (match sb ρ s1 with
      | .nx ρ' s' => loopW tc sb n ρ' s'
      | .ct ρ' s' => loopW tc sb n ρ' s'
      | .bk ρ' s' => .nx ρ' s'
      | .rt d s' => .rt d s'
      | .er k ds ρ' s' => .er k ds ρ' s'
      | .no => .no)
    | false => .nx ρ s1)
  | .er k ds s1 => .er k ds ρ s1
  | .no => .no := by
  show loopW tc sb (n + 1) ρ s = _
  conv => lhs; unfold loopW
  cases tc ρ s with
  | ok b s' => cases b <;> rfl
  | er _ _ _ => rfl
  | no => rfl
theorem v_compF_nil {pm : Pt} {tt : TM} {te : EM} : compF pm tt te ρ [] s = .ok [] s := rfl
theorem v_compF {pm : Pt} {tt : TM} {te : EM} {ds : List D} : compF pm tt te ρ (d :: ds) s = match pm.run d ρ with
  | some ρ1 => (match tt ρ1 s with
    | .ok k s1 => (match k with
      | true => (match te ρ1 s1 with
        | .ok y s2 => (match compF pm tt te ρ ds s2 with | .ok ys s3 => .ok (y :: ys) s3 | .er c ds s => .er c ds s | .no => .no)
        | _ => .no)
      | false => compF pm tt te ρ ds s1)
    | _ => .no)
  | none => .no := by
  show compF pm tt te ρ (d :: ds) s = _
  conv => lhs; unfold compF
  cases pm.run d ρ with
  | none => rfl
  | some ρ1 =>
    dsimp only
    cases tt ρ1 s with
    | ok k s1 =>
      cases k with
      | true =>
        show (R.bind (R.ne (te ρ1 s1)) _) = _
        simp only
        generalize te ρ1 s1 = r
        cases r with
        | ok y s2 =>
          show (R.bind (compF pm tt te ρ ds s2) _) = _
          simp only
          generalize compF pm tt te ρ ds s2 = r2
          cases r2 <;> rfl
        | er _ _ _ => rfl
        | no => rfl
      | false => rfl
    | er _ _ _ => rfl
    | no => rfl
/-! ### operations -/
variable {i j : Int} {z w : Bool}
theorem w_add : gAddA (.int i) (.int j) s = .ok (.int (i + j)) s := rfl
theorem w_sub : gSub (.int i) (.int j) s = .ok (.int (i - j)) s := rfl
theorem w_lt : gLt (.int i) (.int j) s = .ok (.bl (decide (i < j))) s := rfl
theorem w_le : gLe (.int i) (.int j) s = .ok (.bl (decide (i ≤ j))) s := rfl
theorem w_gt : gGt (.int i) (.int j) s = .ok (.bl (decide (j < i))) s := rfl
theorem w_ge : gGe (.int i) (.int j) s = .ok (.bl (decide (j ≤ i))) s := rfl
theorem w_neg : gNeg (.int i) s = .ok (.int (-i)) s := rfl
theorem eqD_int (i j : Int) : eqD (.int i) (.int j) = some (decide (i = j)) := by
  unfold eqD D.py
  dsimp only
  rw [if_pos ⟨rfl, rfl⟩]
  show some (i == j) = _
  congr 1
theorem eqD_bl (i j : Bool) : eqD (.bl i) (.bl j) = some (i == j) := by
  unfold eqD D.py
  dsimp only
  rw [if_pos ⟨rfl, rfl⟩]
  cases i <;> cases j <;> rfl
theorem w_eq {x y : D} {k : Bool} (h : eqD x y = some k) : gEq x y s = .ok (.bl k) s := by
  show (match eqD x y with | some b => R.ok (D.bl b) s | none => R.no) = _
  rw [h]
theorem w_ne {x y : D} {k : Bool} (h : eqD x y = some k) : gNe x y s = .ok (.bl (!k)) s := by
  show (match eqD x y with | some b => R.ok (D.bl (!b)) s | none => R.no) = _
  rw [h]
theorem w_eqI : gEq (.int i) (.int j) s = .ok (.bl (decide (i = j))) s := w_eq (eqD_int i j)
theorem w_neI : gNe (.int i) (.int j) s = .ok (.bl (!decide (i = j))) s := w_ne (eqD_int i j)
theorem w_eqB : gEq (.bl z) (.bl w) s = .ok (.bl (z == w)) s := w_eq (eqD_bl z w)
theorem w_neB : gNe (.bl z) (.bl w) s = .ok (.bl (!(z == w))) s := w_ne (eqD_bl z w)
theorem w_mod (h : 0 < j) : gMod (.int i) (.int j) s = .ok (.int (i % j)) s := by
  show (if 0 < j then _ else _) = _
  rw [if_pos h]
theorem w_is : gIs x .non s = .ok (.bl (isNon x)) s := rfl
theorem w_isNot : gIsNot x .non s = .ok (.bl (!isNon x)) s := rfl
theorem w_ix20 {a b : D} : gIx (.tup [a, b]) (.int 0) s = .ok a s := rfl
theorem w_ix21 {a b : D} : gIx (.tup [a, b]) (.int 1) s = .ok b s := rfl
theorem w_lenT {ds : List D} : gLen [.tup ds] s = .ok (.int (ds.length : Nat)) s := rfl
theorem w_lenL {ds : List D} : gLen [.lst ds] s = .ok (.int (ds.length : Nat)) s := rfl
theorem w_lenZ {ds : List D} : gLen [.frz ds] s = .ok (.int (ds.length : Nat)) s := rfl
theorem w_abs : gAbs [.int i] s = .ok (.int (i.natAbs : Nat)) s := by
  show R.ok (D.int (if i < 0 then -i else i)) s = _
  congr 2
  split <;> omega
theorem w_int : gInt [.int i] s = .ok (.int i) s := rfl
theorem w_min : gMin [.int i, .int j] s = .ok (.int (min i j)) s := by
  show R.ok (D.int (if j < i then j else i)) s = _
  congr 2
  omega
theorem w_max : gMax [.int i, .int j] s = .ok (.int (max i j)) s := by
  show R.ok (D.int (if j > i then j else i)) s = _
  congr 2
  omega
theorem w_tupT {ds : List D} : gTuple [.tup ds] s = .ok (.tup ds) s := rfl
theorem w_tupL {ds : List D} : gTuple [.lst ds] s = .ok (.tup ds) s := rfl
theorem w_tupZ {ds : List D} : gTuple [.frz ds] s = .ok (.tup ds) s := rfl
theorem atI_nat {α : Type} (xs : List α) (i : Nat) : atI xs (i : Int) = xs[i]? := by
  unfold atI ixN
  rw [if_pos (by omega)]
  by_cases h : i < xs.length
  · rw [if_pos (by omega)]
    show xs[((i : Int)).toNat]? = _
    rw [Int.toNat_natCast]
  · rw [if_neg (by omega)]
    show none = _
    rw [List.getElem?_eq_none (by omega)]
theorem atI_neg {α : Type} (xs : List α) (k : Nat) (h : k < xs.length) : atI xs (-((k : Int) + 1)) = xs[xs.length - 1 - k]? := by
  unfold atI ixN
  rw [if_neg (by omega), if_pos (by omega)]
  show xs[(-((k : Int) + 1) + xs.length).toNat]? = _
  congr 1
  omega
theorem ixT {ds : List D} {i : Int} {d : D} (h : atI ds i = some d) : gIx (.tup ds) (.int i) s = .ok d s := by
  show (match atI ds i with | some d => R.ok d s | none => R.no) = _
  rw [h]
theorem ixL {ds : List D} {i : Int} {d : D} (h : atI ds i = some d) : gIx (.lst ds) (.int i) s = .ok d s := by
  show (match atI ds i with | some d => R.ok d s | none => R.no) = _
  rw [h]
theorem ixZ {ds : List D} {i : Int} {d : D} (h : atI ds i = some d) : gIx (.frz ds) (.int i) s = .ok d s := by
  show (match atI ds i with | some d => R.ok d s | none => R.no) = _
  rw [h]
theorem kT_int {cs : List Nat} {t : String} : kTy cs t (.int i) = some (decide (t = "int")) := rfl
theorem kT_bl {cs : List Nat} {t : String} : kTy cs t (.bl z) = some (decide (t = "bool" ∨ t = "int")) := rfl
theorem kT_non {cs : List Nat} {t : String} : kTy cs t .non = some (decide (t = "NoneType")) := rfl
theorem kT_str {cs : List Nat} {t : String} {x : Str} : kTy cs t (.str x) = some (decide (t = "str")) := rfl
theorem kT_tup {cs : List Nat} {t : String} {ds : List D} : kTy cs t (.tup ds) = some (decide (t = "tuple")) := rfl
theorem kT_lst {cs : List Nat} {t : String} {ds : List D} : kTy cs t (.lst ds) = some (decide (t = "list")) := rfl
theorem k2 {cs : List Nat} {t u : String} {d : D} : kTy2 cs t u d = match kTy cs t d, kTy cs u d with
  | some a, some b => some (a || b)
  | _, _ => none := rfl
end
end Tv

/-! Tv18: comprehensions and loops that leave the store -/
namespace Tv
open PySem PySem.Spec PyProof.Rows L2
/-- a comprehension whose tests and elements leave the store -/
theorem compF_pure {pm : Pt} {tt : TM} {te : EM} {ρ : List SD} (p : D → Bool) (f : D → D) : ∀ (ds : List D) (s : S), (∀ d, d ∈ ds → ∃ ρ1, pm.run d ρ = some ρ1 ∧ tt ρ1 s = .ok (p d) s ∧ (p d = true → te ρ1 s = .ok (f d) s)) → compF pm tt te ρ ds s = .ok ((ds.filter p).map f) s
  | [], s, _ => rfl
  | d :: ds, s, h => by
    obtain ⟨ρ1, h1, h2, h3⟩ := h d List.mem_cons_self
    have ih := compF_pure p f ds s fun d hd => h d (List.mem_cons_of_mem _ hd)
    rw [v_compF, h1]
    simp only [h2]
    cases hp : p d with
    | true =>
      simp only [h3 hp, ih]
      rw [List.filter_cons_of_pos hp]
      rfl
    | false =>
      simp only [ih]
      rw [List.filter_cons_of_neg (by rw [hp]; exact Bool.false_ne_true)]
theorem compF_none {pm : Pt} {tt : TM} {te : EM} {ρ : List SD} {ds : List D} {s : S} (h : ∀ d, d ∈ ds → ∃ ρ1, pm.run d ρ = some ρ1 ∧ tt ρ1 s = .ok false s) : compF pm tt te ρ ds s = .ok [] s := by
  have := compF_pure (pm := pm) (tt := tt) (te := te) (ρ := ρ) (fun _ => false) id ds s fun d hd => by
    obtain ⟨ρ1, h1, h2⟩ := h d hd
    exact ⟨ρ1, h1, h2, fun z => by cases z⟩
  rw [this]
  simp
theorem compF_map {pm : Pt} {te : EM} {ρ : List SD} {ds : List D} {s : S} (f : D → D) (h : ∀ d, d ∈ ds → ∃ ρ1, pm.run d ρ = some ρ1 ∧ te ρ1 s = .ok (f d) s) : compF pm mYes te ρ ds s = .ok (ds.map f) s := by
  have := compF_pure (pm := pm) (tt := mYes) (te := te) (ρ := ρ) (fun _ => true) f ds s fun d hd => by
    obtain ⟨ρ1, h1, h2⟩ := h d hd
    exact ⟨ρ1, h1, rfl, fun _ => h2⟩
  rw [this, List.filter_eq_self.mpr (fun _ _ => rfl)]
/-- .. over values of a Lean list -/
theorem compF_mapL {α : Type} {pm : Pt} {te : EM} {ρ : List SD} {s : S} (g : α → D) (f : α → D) (l : List α) (h : ∀ a, a ∈ l → ∃ ρ1, pm.run (g a) ρ = some ρ1 ∧ te ρ1 s = .ok (f a) s) : compF pm mYes te ρ (l.map g) s = .ok (l.map f) s := by
  induction l with
  | nil => rfl
  | cons a l ih =>
    obtain ⟨ρ1, h1, h2⟩ := h a List.mem_cons_self
    have ih := ih fun a ha => h a (List.mem_cons_of_mem _ ha)
    rw [List.map_cons, v_compF, h1]
    simp only [v_yes, h2, ih]
    rfl
theorem compF_filL {α : Type} {pm : Pt} {tt : TM} {te : EM} {ρ : List SD} {s : S} (g : α → D) (p : α → Bool) (f : α → D) (l : List α) (h : ∀ a, a ∈ l → ∃ ρ1, pm.run (g a) ρ = some ρ1 ∧ tt ρ1 s = .ok (p a) s ∧ (p a = true → te ρ1 s = .ok (f a) s)) : compF pm tt te ρ (l.map g) s = .ok ((l.filter p).map f) s := by
  induction l with
  | nil => rfl
  | cons a l ih =>
    obtain ⟨ρ1, h1, h2, h3⟩ := h a List.mem_cons_self
    have ih := ih fun a ha => h a (List.mem_cons_of_mem _ ha)
    rw [List.map_cons, v_compF, h1]
    simp only [h2]
    cases hp : p a with
    | true =>
      simp only [h3 hp, ih]
      rw [List.filter_cons_of_pos hp]
      rfl
    | false =>
      simp only [ih]
      rw [List.filter_cons_of_neg (by rw [hp]; exact Bool.false_ne_true)]
theorem rngD_map (i : Int) (n : Nat) : rngD i n = (List.range n).map fun k : Nat => D.int (i + (k : Int)) := rfl
theorem size_ok {n : Nat} (h : n ≤ 100000) : n ≤ sizeLine := by rw [sizeLine_eq]; omega
theorem rng_ok {i : Int} (h1 : -1000000 ≤ i) (h2 : i ≤ 1000000) : rngOk i = true := decide_eq_true ⟨by omega, by omega⟩
theorem atI_get {α : Type} {xs : List α} {i : Nat} {x : α} (h : xs[i]? = some x) : atI xs (i : Int) = some x := by rw [Tv.atI_nat, h]
theorem eqD_nil : eqD (.lst []) (.lst []) = some true := by
  unfold eqD D.py D.pys
  dsimp only [Option.map]
  rw [if_pos ⟨rfl, rfl⟩]
  rfl
theorem eqD_non : eqD .non .non = some true := by
  unfold eqD D.py
  dsimp only
  rw [if_pos ⟨rfl, rfl⟩]
  rfl
/-! ### equality of values as the program sees it -/
/-- ints, None, tuples and lists of such, at most n deep -/
def pl : Nat → D → Bool
  | _, .int _ => true
  | _, .non => true
  | n + 1, .tup ds => ds.all (pl n)
  | n + 1, .lst ds => ds.all (pl n)
  | _, _ => false
theorem pls_py {n : Nat} (ih : ∀ d, pl n d = true → ∃ p, d.py = some p ∧ p.canLay0 = true ∧ p.depth ≤ n) : ∀ ds : List D, ds.all (pl n) = true → ∃ ps, D.pys ds = some ps ∧ PyData.canLayAll0 ps = true ∧ PyData.depthAll ps ≤ n
  | [], _ => ⟨[], rfl, rfl, Nat.zero_le _⟩
  | d :: ds, h => by
    rw [List.all_cons, Bool.and_eq_true] at h
    obtain ⟨p, h1, h2, h3⟩ := ih d h.1
    obtain ⟨ps, g1, g2, g3⟩ := pls_py ih ds h.2
    refine ⟨p :: ps, ?_, ?_, ?_⟩
    · unfold D.pys
      rw [h1, g1]
    · unfold PyData.canLayAll0
      rw [h2, g2]
      rfl
    · unfold PyData.depthAll
      omega
theorem pl_py : ∀ (n : Nat) (d : D), pl n d = true → ∃ p, d.py = some p ∧ p.canLay0 = true ∧ p.depth ≤ n
  | n, .int i, _ => ⟨.int i, rfl, rfl, Nat.zero_le _⟩
  | n, .non, _ => ⟨.none, rfl, rfl, Nat.zero_le _⟩
  | 0, .tup ds, h => by unfold pl at h; cases h
  | 0, .lst ds, h => by unfold pl at h; cases h
  | n + 1, .tup ds, h => by
    unfold pl at h
    obtain ⟨ps, g1, g2, g3⟩ := pls_py (pl_py n) ds h
    refine ⟨.tuple ps, ?_, ?_, ?_⟩
    · unfold D.py
      rw [g1]
      rfl
    · unfold PyData.canLay0
      exact g2
    · unfold PyData.depth
      omega
  | n + 1, .lst ds, h => by
    unfold pl at h
    obtain ⟨ps, g1, g2, g3⟩ := pls_py (pl_py n) ds h
    refine ⟨.list ps, ?_, ?_, ?_⟩
    · unfold D.py
      rw [g1]
      rfl
    · unfold PyData.canLay0
      exact g2
    · unfold PyData.depth
      omega
  | n, .bl b, h => by unfold pl at h; cases n <;> cases h
  | n, .str b, h => by unfold pl at h; cases n <;> cases h
  | n, .frz b, h => by unfold pl at h; cases n <;> cases h
  | n, .ins _ _, h => by unfold pl at h; cases n <;> cases h
  | n, .cell _, h => by unfold pl at h; cases n <;> cases h
  | n, .fn _, h => by unfold pl at h; cases n <;> cases h
  | n, .dic _ _, h => by unfold pl at h; cases n <;> cases h
  | n, .exc _ _, h => by unfold pl at h; cases n <;> cases h
  | n, .lam _, h => by unfold pl at h; cases n <;> cases h
  | n, .tab _, h => by unfold pl at h; cases n <;> cases h
  | n, .sf _ _, h => by unfold pl at h; cases n <;> cases h
theorem eqvs_pl {n : Nat} (ih : ∀ x y p q, pl n x = true → pl n y = true → D.py x = some p → D.py y = some q → (PyData.eqv p q = true ↔ x = y)) : ∀ (xs ys : List D) (ps qs : List PyData), xs.all (pl n) = true → ys.all (pl n) = true → D.pys xs = some ps → D.pys ys = some qs → (PyData.eqvAll ps qs = true ↔ xs = ys) := by
  have key : ∀ {x : D} {xs : List D} {l : List PyData}, D.pys (x :: xs) = some l → (x :: xs).all (pl n) = true → ∃ p ps, l = p :: ps ∧ x.py = some p ∧ D.pys xs = some ps := fun {x xs l} h hp => by
    unfold D.pys at h
    cases e1 : x.py with
    | none => rw [e1] at h; cases h
    | some p =>
      cases e2 : D.pys xs with
      | none => rw [e1, e2] at h; cases h
      | some ps =>
        rw [e1, e2] at h
        cases h
        exact ⟨p, ps, rfl, rfl, rfl⟩
  intro xs
  induction xs with
  | nil =>
    intro ys ps qs h1 h2 e1 e2
    cases e1
    cases ys with
    | nil => cases e2; simp [PyData.eqvAll]
    | cons y ys =>
      obtain ⟨q, qs', rfl, _, _⟩ := key e2 h2
      simp [PyData.eqvAll]
  | cons x xs ihx =>
    intro ys ps qs h1 h2 e1 e2
    obtain ⟨p, ps', rfl, k1, k2⟩ := key e1 h1
    cases ys with
    | nil => cases e2; simp [PyData.eqvAll]
    | cons y ys =>
      obtain ⟨q, qs', rfl, l1, l2⟩ := key e2 h2
      rw [List.all_cons, Bool.and_eq_true] at h1 h2
      have a := ih x y p q h1.1 h2.1 k1 l1
      have b := ihx ys ps' qs' h1.2 h2.2 k2 l2
      rw [PyData.eqvAll, Bool.and_eq_true, a, b, List.cons.injEq]
theorem eqv_pl : ∀ (n : Nat) (x y : D) (p q : PyData), pl n x = true → pl n y = true → D.py x = some p → D.py y = some q → (PyData.eqv p q = true ↔ x = y) := by
  intro n
  induction n with
  | zero =>
    intro x y p q hx hy ex ey
    cases x with
    | int i =>
      cases ex
      cases y with
      | int j => cases ey; simp [PyData.eqv]
      | non => cases ey; simp [PyData.eqv]
      | _ => unfold pl at hy; cases hy
    | non =>
      cases ex
      cases y with
      | int j => cases ey; simp [PyData.eqv]
      | non => cases ey; simp [PyData.eqv]
      | _ => unfold pl at hy; cases hy
    | _ => unfold pl at hx; cases hx
  | succ n ih =>
    intro x y p q hx hy ex ey
    have tupP : ∀ {ds : List D} {p : PyData}, D.py (.tup ds) = some p → ∃ ps, p = .tuple ps ∧ D.pys ds = some ps := fun {ds p} h => by
      unfold D.py at h
      cases e : D.pys ds with
      | none => rw [e] at h; cases h
      | some ps => rw [e] at h; cases h; exact ⟨ps, rfl, rfl⟩
    have lstP : ∀ {ds : List D} {p : PyData}, D.py (.lst ds) = some p → ∃ ps, p = .list ps ∧ D.pys ds = some ps := fun {ds p} h => by
      unfold D.py at h
      cases e : D.pys ds with
      | none => rw [e] at h; cases h
      | some ps => rw [e] at h; cases h; exact ⟨ps, rfl, rfl⟩
    cases x with
    | int i =>
      cases ex
      cases y with
      | int j => cases ey; simp [PyData.eqv]
      | non => cases ey; simp [PyData.eqv]
      | tup ds => obtain ⟨ps, rfl, _⟩ := tupP ey; simp [PyData.eqv]
      | lst ds => obtain ⟨ps, rfl, _⟩ := lstP ey; simp [PyData.eqv]
      | _ => unfold pl at hy; cases hy
    | non =>
      cases ex
      cases y with
      | int j => cases ey; simp [PyData.eqv]
      | non => cases ey; simp [PyData.eqv]
      | tup ds => obtain ⟨ps, rfl, _⟩ := tupP ey; simp [PyData.eqv]
      | lst ds => obtain ⟨ps, rfl, _⟩ := lstP ey; simp [PyData.eqv]
      | _ => unfold pl at hy; cases hy
    | tup ds =>
      obtain ⟨ps, rfl, e1⟩ := tupP ex
      cases y with
      | int j => cases ey; simp [PyData.eqv]
      | non => cases ey; simp [PyData.eqv]
      | tup es =>
        obtain ⟨qs, rfl, e2⟩ := tupP ey
        unfold pl at hx hy
        rw [PyData.eqv, eqvs_pl ih ds es ps qs hx hy e1 e2, D.tup.injEq]
      | lst es => obtain ⟨qs, rfl, _⟩ := lstP ey; simp [PyData.eqv]
      | _ => unfold pl at hy; cases hy
    | lst ds =>
      obtain ⟨ps, rfl, e1⟩ := lstP ex
      cases y with
      | int j => cases ey; simp [PyData.eqv]
      | non => cases ey; simp [PyData.eqv]
      | tup es => obtain ⟨qs, rfl, _⟩ := tupP ey; simp [PyData.eqv]
      | lst es =>
        obtain ⟨qs, rfl, e2⟩ := lstP ey
        unfold pl at hx hy
        rw [PyData.eqv, eqvs_pl ih ds es ps qs hx hy e1 e2, D.lst.injEq]
      | _ => unfold pl at hy; cases hy
    | _ => unfold pl at hx; cases hx
theorem eqD_pl {n : Nat} {x y : D} (hx : pl n x = true) (hy : pl n y = true) (hn : n ≤ 64 := by omega) {k : Bool} (hk : k = true ↔ x = y) : eqD x y = some k := by
  obtain ⟨p, h1, h2, h3⟩ := pl_py n x hx
  obtain ⟨q, g1, g2, g3⟩ := pl_py n y hy
  unfold eqD
  rw [h1, g1]
  dsimp only
  have s1 : SeqAt.shaped p = true := by
    show (p.canLay0 && decide (p.depth ≤ 64)) = true
    rw [h2, decide_eq_true (by omega)]
    rfl
  have s2 : SeqAt.shaped q = true := by
    show (q.canLay0 && decide (q.depth ≤ 64)) = true
    rw [g2, decide_eq_true (by omega)]
    rfl
  rw [if_pos ⟨s1, s2⟩]
  congr 1
  have := eqv_pl n x y p q hx hy h1 g1
  rw [Bool.eq_iff_iff, this, hk]
/-! ### loops -/
theorem loopF_fold {α β : Type} {pm : Pt} {b : SM} (g : α → D) (f : β → α → β) (I : β → List SD → S → Prop) : ∀ (l : List α) (st : β) (ρ : List SD) (s : S),
    (∀ a, a ∈ l → ∀ st ρ s, I st ρ s → ∃ ρ1 ρ' s', pm.run (g a) ρ = some ρ1 ∧ b ρ1 s = .nx ρ' s' ∧ I (f st a) ρ' s') → I st ρ s → ∃ ρ' s', loopF pm b (l.map g) ρ s = .nx ρ' s' ∧ I (l.foldl f st) ρ' s'
  | [], st, ρ, s, _, h => ⟨ρ, s, rfl, h⟩
  | a :: l, st, ρ, s, hs, h => by
    obtain ⟨ρ1, ρ', s', e1, e2, h'⟩ := hs a List.mem_cons_self st ρ s h
    obtain ⟨ρ2, s2, e3, h2⟩ := loopF_fold g f I l (f st a) ρ' s' (fun a ha => hs a (List.mem_cons_of_mem _ ha)) h'
    refine ⟨ρ2, s2, ?_, h2⟩
    rw [List.map_cons, v_loopF, e1]
    simp only [e2, e3]
/-- turn by turn -/
theorem loopF_inv {pm : Pt} {b : SM} (I : Nat → List SD → S → Prop) : ∀ (ds : List D) (k : Nat) (ρ : List SD) (s : S),
    (∀ (i : Nat) (d : D) ρ s, ds[i]? = some d → I (k + i) ρ s → ∃ ρ1 ρ' s', pm.run d ρ = some ρ1 ∧ (b ρ1 s = .nx ρ' s' ∨ b ρ1 s = .ct ρ' s') ∧ I (k + i + 1) ρ' s') → I k ρ s → ∃ ρ' s', loopF pm b ds ρ s = .nx ρ' s' ∧ I (k + ds.length) ρ' s'
  | [], k, ρ, s, _, h => ⟨ρ, s, rfl, h⟩
  | d :: ds, k, ρ, s, hs, h => by
    obtain ⟨ρ1, ρ', s', e1, e2, h'⟩ := hs 0 d ρ s rfl h
    obtain ⟨ρ2, s2, e3, h2⟩ := loopF_inv I ds (k + 1) ρ' s' (fun i d ρ s hi hI => by
      have := hs (i + 1) d ρ s hi (by rw [show k + (i + 1) = k + 1 + i by omega]; exact hI)
      rw [show k + 1 + i + 1 = k + (i + 1) + 1 by omega]
      exact this) h'
    refine ⟨ρ2, s2, ?_, by rw [List.length_cons, show k + (ds.length + 1) = k + 1 + ds.length by omega]; exact h2⟩
    rw [v_loopF, e1]
    rcases e2 with e2 | e2
    · simp only [e2, e3]
    · simp only [e2, e3]
/-- the first for which p stands is given back -/
theorem loopF_find {α : Type} {pm : Pt} {b : SM} (g : α → D) (p : α → Bool) (r : α → D) (I : List SD → S → Prop) : ∀ (l : List α) (ρ : List SD) (s : S),
    (∀ a, a ∈ l → ∀ ρ s, I ρ s → ∃ ρ1, pm.run (g a) ρ = some ρ1 ∧ ((p a = true ∧ ∃ s', b ρ1 s = .rt (r a) s') ∨ (p a = false ∧ ∃ ρ' s', b ρ1 s = .nx ρ' s' ∧ I ρ' s'))) → I ρ s →
      (∃ a s', l.find? p = some a ∧ loopF pm b (l.map g) ρ s = .rt (r a) s') ∨ (l.find? p = none ∧ ∃ ρ' s', loopF pm b (l.map g) ρ s = .nx ρ' s' ∧ I ρ' s')
  | [], ρ, s, _, h => .inr ⟨rfl, ρ, s, rfl, h⟩
  | a :: l, ρ, s, hs, h => by
    obtain ⟨ρ1, e1, e2⟩ := hs a List.mem_cons_self ρ s h
    rcases e2 with ⟨hp, s', e2⟩ | ⟨hp, ρ', s', e2, h'⟩
    · refine .inl ⟨a, s', by rw [List.find?_cons_of_pos hp], ?_⟩
      rw [List.map_cons, v_loopF, e1]
      simp only [e2]
    · have ih := loopF_find g p r I l ρ' s' (fun a ha => hs a (List.mem_cons_of_mem _ ha)) h'
      rw [List.find?_cons_of_neg (by rw [hp]; exact Bool.false_ne_true)]
      have e3 : loopF pm b ((a :: l).map g) ρ s = loopF pm b (l.map g) ρ' s' := by
        rw [List.map_cons, v_loopF, e1]
        simp only [e2]
      rw [e3]
      exact ih
end Tv

/-! Tx1: an own exception whose __init__ says super().__init__('..'), then self.f = f for each parameter: at the library's level -/
namespace Tx
open PySem PySem.Spec PySem.Calls PyProof.Rows PySem.W

abbrev tailVE : List Value := [.type "ValueError", .type "Exception", .type "BaseException", .type "object"]
/-- the statement super().__init__('m') -/
abbrev supSt (m : Str) (j : Nat) (q0 q1 q2 q3 q4 q5 : Pos) : Stmt := .Expr (.Call (.Attribute (.Call (.Name "super" q0) [] [] q1) "__init__" q2) [.Constant (.str m) j q3] [] q4) q5
/-- self.f = f -/
abbrev stoSt (f : Str) (q0 q1 q2 q3 : Pos) : Stmt := .Assign [.Attribute (.Name "self" q0) f q1] (.Name f q2) q3
/-- how super().__init__('m') is read (by the places in the text) -/
def SupForm (m : Str) (j : Nat) (q0 q1 q2 q3 q4 : Pos) : Prop := ∀ env : Env, ∃ pl : Sem Bool, eval (.Call (.Attribute (.Call (.Name "super" q0) [] [] q1) "__init__" q2) [.Constant (.str m) j q3] [] q4) env = (do
  let ov ← attributeBase (.Call (.Name "super" q0) [] [] q1) "__init__" env (eval (.Call (.Name "super" q0) [] [] q1) env)
  standAt q2.atName
  let (f, first) ← holding [ov] (getMethod ov "__init__" pl)
  callWith q4 f first (backTo q4 (starEach [.Constant (.str m) j q3] env)) [])
/-- what a class C, its __init__ at f and the cell cc are -/
structure XCl (prog : Program) (K : Frag) (C f cc : Addr) (body : List Stmt) (fd : FuncData) : Prop where
  cls : ∃ nm q N bs bm sn sub ab col dd k0 k1 k2 k3 k5, K.lookup C = some (excClassObj nm q C N bs bm true sn sub ab col dd k0 k1 k2 k3 k5 "ValueError.__new__") ∧ PySem.HandSPX.refsVE bm = true ∧ alongIn K "__init__" bm = some (some (.builtin "ValueError.__init__"))
  sa : findIn K (.ref C) "__setattr__" = some (some (.builtin "object.__setattr__"))
  veC : subIn K (.ref C) (.type "ValueError") = some true
  exC : subIn K (.ref C) (.type "BaseException") = some true
  tyC : typeIn K (.ref C) = some (.type "type")
  kC : keepIn K (.ref C) = true
  slf : mroIn K C (.ref C) = some true
  ini : findIn K (.ref C) "__init__" = some (some (.ref f))
  iniT : typeIn K (.ref f) = some (.type "function")
  opq : nsIn K cStatics "thirdparty.any" = some none
  fn : ∃ oc od osl qual params scope doc pm an cda ct nm dV kV, fd = ksFn nm qual params body scope dV kV doc pm an (.ref cda) ct cc ∧ K.lookup f = some ⟨oc, od, .func fd, osl⟩ ∧ codeIn K (.ref cda) qual = true ∧
    (params.posonlyargs ++ params.args).head?.map (·.arg) = some "self" ∧ scope.names.lookup ("super" : Str) = some .globalImplicit ∧ scope.names.lookup ("__class__" : Str) = some .free ∧ scope.kind = .function ∧ scope.isCoroutine = false ∧ scope.isGenerator = false ∧ (∀ x ∈ scope.names, x.2 ≠ .cell) ∧
    scope.names.lookup ("self" : Str) = some .local ∧
    ∃ ccl cdd ccs vs file tf, K.lookup cda = some ⟨ccl, cdd, .fields vs, ccs⟩ ∧ vs[2]? = some (.str file tf) ∧ ((prog.main.file : Str) == file) = true
  cell : ∃ cl cld csl, K.lookup cc = some ⟨cl, cld, .cell (some (.ref C)), csl⟩
  top : (prog.main.scope.names.lookup ("super" : Str)).isSome = false

section
variable {prog : Program} {w : World} {A : Around} {h : Heap} {g : Array GenState} {dr : Drawn} {t : Nat} {os : OsState} {K : Frag} {C f cc x L : Addr} {body : List Stmt} {fd : FuncData} {c : Code}
theorem XCl.clsIn {prog : Program} (T : XCl prog K C f cc body fd) : ∃ cd bm, clsIn K C = some cd ∧ cd.mro = .ref C :: bm ∧ PySem.HandSPX.refsVE cd.mro = true ∧ cd.hasDict = true ∧ alongIn K "__init__" bm = some (some (.builtin "ValueError.__init__")) := by
  obtain ⟨nm, q, N, bs, bm, sn, sub, ab, col, dd, k0, k1, k2, k3, k5, hC, hbm, hal⟩ := T.cls
  refine ⟨{ name := nm, bases := bs, mro := .ref C :: bm, ns := N, qualname := q, hasDict := true, slotNames := sn, subclasses := sub, abstract := ab, collection := col, hasDel := false }, bm, ?_, rfl, hbm, rfl, hal⟩
  unfold PySem.W.clsIn
  rw [hC] <;> rfl
/-- what stays: all but x -/
def Kx (x : Addr) (h h' : Heap) : Prop := ∀ b o, b ≠ x → h.get? b = some o → h'.get? b = some o
theorem Kx.trans {x : Addr} {h h1 h2 : Heap} (a : Kx x h h1) (b : Kx x h1 h2) : Kx x h h2 := fun d o n e => b d o n (a d o n e)
theorem Kx.ns {x a : Addr} {h h1 : Heap} {m : Str → Option Value} (k : Kx x h h1) (n : h.Ns a m) (e : a ≠ x) : h1.Ns a m := n.at fun o z => k a o e z
theorem Kx.inK {x : Addr} {h h1 : Heap} (k : Kx x h h1) (X : K.In h) (n : K.lookup x = none) : K.In h1 := fun a o e => k a o (fun z => by rw [z, n] at e; cases e) (X a o e)
/-- super().__init__('m') -/
theorem run_super {m : Str} {j : Nat} {q0 q1 q2 q3 q4 q5 : Pos} {qual : Str} {scope : Scope} {mL mg mb : Str → Option Value} {bd : List Stmt} {cda t0 : Addr} {E : Value → Shared → Prop} {Q : Flow → Shared → Prop}
    (SF : SupForm m j q0 q1 q2 q3 q4) (T : XCl prog K C f cc body fd) (X : K.In h) (hG : h.Ns mainGlobals mg) (hB : h.Ns builtinsNs mb) (hmg : mg "super" = none) (hmb : mb "super" = some (.type "super")) (nx : K.lookup x = none)
    (hx : h.get? x = some (excObj C t0 none .none)) (hL : h.Ns L mL) (hs : mL "self" = some (.ref x)) (hLx : L ≠ x)
    (hf : fd.scope = scope) (hcd : fd.code = .ref cda) (hq : ksEnv qual scope L f (.ref cda) cc = callEnv fd L f)
    (h1 : ∀ h' t1 tk, Kx x h h' → h'.get? x = some (excObj C t1 none .none) → Q .next ⟨h', g, dr, tk, os⟩) :
    _root_.PySem.wpAt (model prog w) A (.func bd (ksEnv qual scope L f (.ref cda) cc)) (exec (supSt m j q0 q1 q2 q3 q4 q5) (ksEnv qual scope L f (.ref cda) cc)) Q E ⟨h, g, dr, t, os⟩ := by
  obtain ⟨cd, bm, hcl, hmro, hVE, hhd, hal⟩ := T.clsIn
  obtain ⟨oc, od, osl, qual', params, scope', doc, pm, an, cda', ct, nm, dV, kV, e, hlf, hci, hp, hks, hkc, hk, hco, hgen, hnc, hsl, ccl, cdd, ccs, vs, file, tf, hcda, hvs, hfile⟩ := T.fn
  obtain ⟨cl, cld, csl, hcc⟩ := T.cell
  have ec : cda' = cda := by
    have z : fd.code = .ref cda' := by rw [e]
    rw [hcd] at z
    exact (Value.ref.inj z).symm
  have es : scope' = scope := by
    have z : fd.scope = scope' := by rw [e]
    rw [hf] at z
    exact z.symm
  subst ec es
  obtain ⟨ar, har, hself⟩ : ∃ ar, (fd.params.posonlyargs ++ fd.params.args).head? = some ar ∧ ar.arg = "self" := by
    have z : fd.params = params := by rw [e]
    rw [z]
    cases q : (params.posonlyargs ++ params.args).head? with
    | none => rw [q] at hp; cases hp
    | some a => rw [q] at hp; exact ⟨a, rfl, Option.some.inj hp⟩
  obtain ⟨oD, hD1, hD2⟩ : ∃ oD, h.get? C = some oD ∧ oD.data = .cls cd := by
    unfold PySem.W.clsIn at hcl
    split at hcl
    · rename_i c d cd' sl ho
      cases hcl
      exact ⟨_, X _ _ ho, rfl⟩
    · cases hcl
  have I0 : InstAt h x (excObj C t0 none .none) C none := ⟨hx, rfl, rfl, trivial⟩
  refine ks_wpAt_Expr_any ?_ (by show (scope'.kind == .module && _) = false; rw [hk]; rfl)
  obtain ⟨pl, he⟩ := SF (ksEnv qual scope' L f (.ref cda') cc)
  refine ks_wpAt_MethodCall (pl := pl) ?_ he
  refine ks_wpAt_super_base (env := ksEnv qual scope' L f (.ref cda') cc) hks hkc rfl rfl (X _ _ hlf) rfl har rfl (X _ _ hcda) rfl hvs hfile T.top ?_
  refine ks_loadName_global hk hks (loadGlobal_builtin (env := ksEnv qual scope' L f (.ref cda') cc) hG hmg hB hmb ⟨rfl, ?_⟩)
  refine wpAny_loadName_free hk hkc rfl ⟨_, X _ _ hcc, rfl⟩ ?_
  rw [hself]
  refine wpAny_loadName_local hk hsl hL hs ?_
  refine ks_wpAny_isType_cls hD1 hD2 ⟨rfl, ?_⟩
  refine ks_wpAny_call_super hD1 hD2 hx rfl (fun c e => by cases e) (looks_mroIn X T.slf) (fun h1' e1 k1 => ?_)
  have X1 : K.In h1' := X.keeps k1
  have hso := e1
  have I1 : InstAt h1' x (excObj C t0 none .none) C none := ⟨k1 _ _ hx, rfl, rfl, trivial⟩
  refine kxs_getMethod kxs_ValueError (l₀ := cd.mro) hso (looks_opaque X1 T.opq) (fun A Q E s k q => wpAny_bind ((looks_clsIn X1 hcl) A _ E s k (wpAny_pure q))) (by rw [hmro]; show ((Value.ref C :: bm).dropWhile (· != .ref C)).drop 1 = bm; simp [List.dropWhile_cons]) X1 hal (I1.type.andThen (looks_subIn X1 T.veC)) (ks_ne X1 I1 hcl) rfl ?_
  show wpAny _ _ (callWith q4 (.ref h1'.objs.size) [] (backTo q4 (starEach [.Constant (.str m) j q3] _)) []) _ _ _
  have k2 : ∀ b o, h1'.get? b = some o → (h1'.push (kxs_mw "ValueError.__init__" x)).get? b = some o := fun b o z => Heap.get?_push_of_some _ z
  have hu : (h1'.push (kxs_mw "ValueError.__init__" x)).get? h1'.objs.size = some (kxs_mw "ValueError.__init__" x) := Heap.get?_push_size _ rfl
  have hx2 : (h1'.push (kxs_mw "ValueError.__init__" x)).get? x = some (excObj C t0 none .none) := k2 _ _ (k1 _ _ hx)
  have ho : Kx x h (h1'.push (kxs_mw "ValueError.__init__" x)) := fun b o _ z => k2 _ _ (k1 _ _ z)
  obtain ⟨nm2, qn, N, bs, bm2, sn, sub, ab, col, dd, k0, k1', k2', k3, k5, hC, hbm, hal2⟩ := T.cls
  have hC2 := k2 _ _ (X1 _ _ hC)
  refine kxs_callWith (i := "ValueError.__init__") (x := x) rfl ?_
  refine evalArgs_plain (Calls.spliced_cons ?_)
  refine wpAny_Constant_str (k := j) (pos := q3) ?_
  refine Calls.spliced_nil ⟨hu, ?_⟩
  refine wpAny_call (codeAny_of_tree ?_)
  show wpAny _ A.in1 (callAny (.ref h1'.objs.size) ⟨[.str m _], []⟩) _ _ _
  unfold callAny
  refine wpAny_bind (wpAny_load hu ?_)
  refine wpAny_bind (check_bound_init F.excBase_ValueError.toExcCallFacts hC2 hx2 rfl ?_)
  refine wpAny_bind (wpAny_pure (wpAny_pure ⟨plainId_quiet F.excBase_ValueError.init.plain _, codeAny_builtin F.excBase_ValueError.initEntry ?_⟩))
  refine exc_init_tree (cls := .ref C) (t0 := t0) (dv := none) (c2 := .none) (c3 := .none) (b4 := .bool false) hx2 (by show 1 ≤ sizeLine; rw [sizeLine_eq]; omega) fun h3 k3 e3 _ => ?_
  exact h1 h3 _ _ (ho.trans fun b o n z => k3 b o n z) e3
end

/-! ### self.f = f -/
theorem lookup_mem {α β : Type} [BEq α] [LawfulBEq α] : ∀ {l : List (α × β)} {n : α} {v : β}, (n, v) ∈ l → (l.map (·.1)).Nodup → l.lookup n = some v
  | [], _, _, h, _ => by cases h
  | (a, b) :: l, n, v, h, nd => by
    rw [List.map_cons, List.nodup_cons] at nd
    rcases List.mem_cons.mp h with e | e
    · cases e
      simp [List.lookup]
    · have : (n == a) = false := by
        cases q : n == a with
        | false => rfl
        | true =>
          have := eq_of_beq q
          subst this
          exact absurd (List.mem_map_of_mem (f := (·.1)) e) nd.1
      rw [List.lookup_cons, this]
      exact lookup_mem e nd.2
theorem zip_look {ps : List Str} {us : List Value} {i : Nat} {n : Str} {u : Value} (nd : ps.Nodup) (hl : us.length = ps.length) (h1 : ps[i]? = some n) (h2 : us[i]? = some u) : (ps.zip us).reverse.lookup n = some u := by
  have hm : (ps.zip us).map (·.1) = ps := by rw [List.map_fst_zip (by omega)]
  refine lookup_mem (List.mem_reverse.mpr ?_) ?_
  · refine List.mem_iff_getElem?.mpr ⟨i, ?_⟩
    rw [List.getElem?_zip_eq_some]
    exact ⟨h1, h2⟩
  · rw [List.map_reverse, hm]
    exact List.pairwise_reverse.mpr (List.Pairwise.imp (fun e => Ne.symm e) nd)
inductive Sts : List Str → List Stmt → Prop
  | nil : Sts [] []
  | cons {f : Str} {q0 q1 q2 q3 : Pos} {fs : List Str} {rest : List Stmt} : Sts fs rest → Sts (f :: fs) (stoSt f q0 q1 q2 q3 :: rest)
/-- the exception while its fields are stored: done, the last first -/
structure Doing (h0 h : Heap) (C x L : Addr) (mL : Str → Option Value) (done : List (Str × Value)) : Prop where
  keep : ∀ b o, h0.get? b = some o → h.get? b = some o
  ns : h.Ns L mL
  at_ : ∃ t1 od, h.get? x = some (excObj C t1 od .none) ∧ ((done = [] ∧ od = none) ∨ ∃ dx, od = some dx ∧ dx ≠ x ∧ dx ≠ L ∧ h0.get? dx = none ∧ h.Ns1 dx (fun y => done.lookup y) ∧ done ≠ [])
section
variable {prog : Program} {w : World} {A : Around} {h h0 : Heap} {g : Array GenState} {dr : Drawn} {t : Nat} {os : OsState} {K : Frag} {C f cc x L : Addr} {body : List Stmt} {fd : FuncData} {c : Code} {mL : Str → Option Value}
theorem lookup_cons_fun (f : Str) (u : Value) (l : List (Str × Value)) : (fun y => if y = f then some u else l.lookup y) = fun y => ((f, u) :: l).lookup y := by
  funext y
  rw [List.lookup_cons]
  by_cases e : y = f
  · subst e
    simp
  · have : (y == f) = false := beq_eq_false_iff_ne.mpr e
    rw [if_neg e, this]
theorem within_lookup (l : List (Str × Value)) : Within (fun y => l.lookup y) (l.map (·.1)) := fun y hy => by
  have hy : l.lookup y ≠ none := hy
  cases q : l.lookup y with
  | none => exact absurd q hy
  | some v =>
    exact List.mem_map_of_mem (f := (·.1)) (PySem.mem_of_lookup q)
theorem run_sto {env : Env} {fl : Str} {u : Value} {q0 q1 q2 q3 : Pos} {done : List (Str × Value)} {E : Value → Shared → Prop} {Q : Flow → Shared → Prop} (T : XCl prog K C f cc body fd) (X : K.In h0) (n0 : h0.get? x = none) (nL0 : h0.get? L = none) (D : Doing h0 h C x L mL done)
    (hLx : L ≠ x) (hk : env.scope.kind = .function) (hl : env.locals = L) (hs : env.kindOf "self" = some .local) (hf : env.kindOf fl = some .local) (hms : mL "self" = some (.ref x)) (hmf : mL fl = some u) (hd : (fl == ("__debug__" : Str)) = false) (hno : findIn K (.ref C) fl = some none) (hn : done.length ≤ 900)
    (hq : ∀ h' tk, Doing h0 h' C x L mL ((fl, u) :: done) → Q .next ⟨h', g, dr, tk, os⟩) :
    wpAny (model prog w) A (exec (stoSt fl q0 q1 q2 q3) env) Q E ⟨h, g, dr, t, os⟩ := by
  obtain ⟨cd, bm, hcl, hmro, hVE, hhd, hal⟩ := T.clsIn
  obtain ⟨t1, od, hx, hod⟩ := D.at_
  have Xh : K.In h := X.keeps D.keep
  subst hl
  refine plainObj_wpAny_Assign_Attribute ?_
  refine wpAny_Name (wpAny_loadName_local hk hf D.ns hmf ?_) hd
  refine wpAny_Name (wpAny_loadName_local hk hs D.ns hms ?_)
  rcases hod with ⟨rfl, rfl⟩ | ⟨dx, rfl, ndx, ndL, d0, hns, _⟩
  · refine set_plain Xh (ox := excObj C t1 none .none) (od := none) ⟨hx, rfl, rfl, trivial⟩ T.sa ?_
    refine PySem.HandSPX.exc_osa Xh hx hcl hVE hhd hno fun h' tk' dx k dn dne hx' hn' => ?_
    refine hq h' tk' ⟨fun b o z => k b o (fun e => by rw [e, n0] at z; cases z) (D.keep b o z), D.ns.at fun o z => k _ o hLx z, t1, some dx, hx', .inr ⟨dx, rfl, dne, ?_, ?_, ?_, List.cons_ne_nil _ _⟩⟩
    · intro e
      have := D.ns.lt
      rw [← e] at this
      exact absurd this (Nat.not_lt_of_le dn)
    · cases z : h0.get? dx with
      | none => rfl
      | some o => exact absurd (Heap.lt_size (D.keep _ _ z)) (Nat.not_lt_of_le dn)
    · rw [← lookup_cons_fun]
      exact hn'
  · obtain ⟨oD, esD, epD, hoD, hdD, hcD⟩ := hns.count (within_lookup done)
    refine set_plain Xh (ox := excObj C t1 (some dx) .none) (od := some oD) ⟨hx, rfl, rfl, hoD⟩ T.sa ?_
    refine PySem.OEX.osa_old Xh hx hns (within_lookup done) (by rw [List.length_map]; omega) hcl hVE hhd hno fun h' tk' k hn' => ?_
    refine hq h' tk' ⟨fun b o z => k b o (fun e => by rw [e, d0] at z; cases z) (D.keep b o z), D.ns.at fun o z => k _ o (Ne.symm ndL) z, t1, some dx, k _ _ (Ne.symm ndx) hx, .inr ⟨dx, rfl, ndx, ndL, d0, ?_, List.cons_ne_nil _ _⟩⟩
    rw [← lookup_cons_fun]
    exact hn'
theorem run_stos {env : Env} {E : Value → Shared → Prop} {Q : Flow → Shared → Prop} (T : XCl prog K C f cc body fd) (X : K.In h0) (n0 : h0.get? x = none) (nL0 : h0.get? L = none) (hLx : L ≠ x) (hk : env.scope.kind = .function) (hl : env.locals = L) (hs : env.kindOf "self" = some .local) (hms : mL "self" = some (.ref x)) :
    ∀ {fs : List Str} {us : List Value} {rest : List Stmt} {done : List (Str × Value)} {h : Heap} {t : Nat}, Sts fs rest → us.length = fs.length → Doing h0 h C x L mL done → (∀ p ∈ fs.zip us, env.kindOf p.1 = some .local ∧ mL p.1 = some p.2 ∧ (p.1 == ("__debug__" : Str)) = false ∧ findIn K (.ref C) p.1 = some none) → done.length + fs.length ≤ 900 →
      (∀ h' tk, Doing h0 h' C x L mL ((fs.zip us).reverse ++ done) → Q .next ⟨h', g, dr, tk, os⟩) → wpAny (model prog w) A (execs rest env) Q E ⟨h, g, dr, t, os⟩
  | _, [], _, done, h, t, .nil, _, D, _, _, hq => wpAny_execs_nil (hq h t D)
  | _, u :: us, _, done, h, t, .cons (f := fl) (fs := fs) S, hlen, D, hf, hn, hq => by
    obtain ⟨e1, e2, e3, e4⟩ := hf (fl, u) (List.mem_cons_self ..)
    simp only [List.length_cons] at hn hlen
    refine wpAny_execs_cons (run_sto T X n0 nL0 D hLx hk hl hs e1 hms e2 e3 e4 (by omega) fun h' tk D' => ?_)
    refine run_stos T X n0 nL0 hLx hk hl hs hms S (by omega) D' (fun p hp => hf p (List.mem_cons_of_mem _ hp)) (by simp only [List.length_cons]; omega) fun h2 tk2 D2 => hq h2 tk2 ?_
    rw [List.zip_cons_cons, List.reverse_cons, List.append_assoc]
    exact D2
  | _, _ :: _, _, _, _, _, .nil, hlen, _, _, _, _ => by cases hlen
  | _, [], _, _, _, _, .cons _, hlen, _, _, _, _ => by cases hlen
/-- C(us) -/
theorem run_make {A : Around} {m : Str} {j : Nat} {q0 q1 q2 q3 q4 q5 : Pos} {fs : List Str} {rest : List Stmt} {us : List Value} {R : Result → Shared → Prop} {mg mb : Str → Option Value} (SF : SupForm m j q0 q1 q2 q3 q4)
    (T : XCl prog K C f cc (supSt m j q0 q1 q2 q3 q4 q5 :: rest) fd) (S : Sts fs rest) (hb : fd.body = .stmts (supSt m j q0 q1 q2 q3 q4 q5 :: rest)) (X : K.In h) (hG : h.Ns mainGlobals mg) (hB : h.Ns builtinsNs mb) (hmg : mg "super" = none) (hmb : mb "super" = some (.type "super"))
    (hlim : h.NoLimit) (hu : us.length = fs.length) (hu9 : us.length ≤ 900) (nd : (("self" : Str) :: fs).Nodup) (hloc : ∀ y ∈ fs, fd.scope.names.lookup y = some .local ∧ (y == ("__debug__" : Str)) = false ∧ findIn K (.ref C) y = some none) (hroom : (A.under (.builtin "type.__call__" ⟨.ref C :: us, []⟩)).depth < recursionLimit)
    (hbind : ∀ (s : Shared) (a : Value), K.In s.heap → BindsTo s fd ⟨a :: us, []⟩ ((("self" : Str) :: fs).zip (a :: us)))
    (hq : ∀ h' tk t1 od, (∀ b o, h.get? b = some o → h'.get? b = some o) → h'.get? (h.objs.size + 1) = some (excObj C t1 od .none) → ((fs = [] ∧ od = none) ∨ ∃ dx, od = some dx ∧ dx ≠ h.objs.size + 1 ∧ h.get? dx = none ∧ h'.Ns1 dx (fun y => (fs.zip us).reverse.lookup y) ∧ fs ≠ []) →
      R (.ok (.ret (.ref (h.objs.size + 1)))) ⟨h', g, dr, tk, os⟩) :
    codeAny (model prog w) A (.call (.ref C) ⟨us, []⟩) R ⟨h, g, dr, t, os⟩ := by
  obtain ⟨nm2, qn, N, bs, bm, sn, sub, ab, col, dd, k0, k1, k2, k3, k5, hC, hbm, hal⟩ := T.cls
  obtain ⟨oc, od, osl, qual, params, scope, doc, pm, an, cda, ct, nm, dV, kV, e, hlf, hci, hp, hks, hkc, hk, hco, hgen, hnc, hsl, _⟩ := id T.fn
  refine PySem.HandSPX.call_own F.excBase_ValueError (fun Y => PySem.HandSPX.refsVE_contains Y bm hbm) (X _ _ hC) (looks_findIn X T.ini) (fun self => bind_fn X self T.iniT) (by rw [sizeLine_eq]; omega) ?_
  have kk : ∀ b o, h.get? b = some o → ((h.push (kdv_tup us)).push (PySem.HandSPX.excO C h.objs.size)).get? b = some o := fun b o e => Heap.get?_push_of_some _ (Heap.get?_push_of_some _ e)
  have hget : ((h.push (kdv_tup us)).push (PySem.HandSPX.excO C h.objs.size)).get? (h.objs.size + 1) = some (PySem.HandSPX.excO C h.objs.size) := by heap_get
  have X2 := X.keeps kk
  have nx : h.get? (h.objs.size + 1) = none := Heap.get?_none_of_le (Nat.le_add_right _ _)
  have nxK : K.lookup (h.objs.size + 1) = none := by
    cases z : K.lookup (h.objs.size + 1) with
    | none => rfl
    | some o => rw [X _ _ z] at nx; cases nx
  have hfd : fd.scope = scope := by rw [e]
  have hcode : fd.code = .ref cda := by rw [e]
  have hl2 : (Value.ref (h.objs.size + 1) :: us).length = (("self" : Str) :: fs).length := by simp [hu]
  generalize hh2 : (h.push (kdv_tup us)).push (PySem.HandSPX.excO C h.objs.size) = h2 at *
  have hs2 : h2.objs.size = h.objs.size + 2 := by rw [← hh2, Heap.size_push, Heap.size_push]
  refine ks_codeAny_call_defAt (fd := fd) (body := supSt m j q0 q1 q2 q3 q4 q5 :: rest) (binds := (("self" : Str) :: fs).zip (.ref (h.objs.size + 1) :: us)) hroom (X2 _ _ hlf) rfl (hlim.keeps kk) (codeRec_of X2 (by rw [e]; exact hci)) hb (hbind _ _ X2) (by rw [hfd]; exact hnc) ?_ (fun h3 hns k3 => ?_) (by rw [hfd]; exact hco) (by rw [hfd]; exact hgen) (by rw [hfd]; exact hk)
  · rintro ⟨y, v⟩ hy
    have := (List.of_mem_zip hy).1
    rcases List.mem_cons.mp this with e1 | e1
    · rw [e1, hfd]; exact hsl
    · exact (hloc y e1).1
  · have eE : callEnv fd h2.objs.size f = ksEnv qual scope h2.objs.size f (.ref cda) cc := by rw [e] <;> rfl
    rw [eE]
    have X3 := X2.keeps k3
    have hms : (fun y => (((("self" : Str) :: fs).zip (.ref (h.objs.size + 1) :: us)).reverse.lookup y)) "self" = some (.ref (h.objs.size + 1)) := zip_look (i := 0) nd hl2 rfl rfl
    have hLx : h2.objs.size ≠ h.objs.size + 1 := by omega
    refine ks_wpAt_execs_cons (run_super (t0 := h.objs.size) SF T X3 ((hG.keeps kk).keeps k3) ((hB.keeps kk).keeps k3) hmg hmb nxK (k3 _ _ hget) hns hms hLx hfd hcode eE.symm fun h4 t1 tk k4 hx4 => wpAt_of_wpAny ?_)
    have kb : ∀ b o, h.get? b = some o → h4.get? b = some o := fun b o z => k4 b o (fun q => by rw [q, nx] at z; cases z) (k3 _ _ (kk _ _ z))
    refine run_stos (h0 := h) (x := h.objs.size + 1) (L := h2.objs.size) (env := ksEnv qual scope h2.objs.size f (.ref cda) cc) T X nx (Heap.get?_none_of_le (by omega)) hLx hk rfl hsl hms S hu ⟨kb, k4.ns hns hLx, t1, none, hx4, .inl ⟨rfl, rfl⟩⟩ ?_ (by rw [List.length_nil]; omega) fun h5 tk5 D5 => ?_
    · rintro ⟨y, v⟩ hy
      obtain ⟨i, hi⟩ := List.mem_iff_getElem?.mp hy
      rw [List.getElem?_zip_eq_some] at hi
      obtain ⟨i1, i2⟩ := hi
      obtain ⟨l1, l2, l3⟩ := hloc y (List.mem_of_getElem? i1)
      exact ⟨by rw [← hfd]; exact l1, zip_look (i := i + 1) nd hl2 (by simpa using i1) (by simpa using i2), l2, l3⟩
    · obtain ⟨t5, od5, hx5, hod⟩ := D5.at_
      rw [List.append_nil] at hod
      refine ⟨rfl, hq h5 tk5 t5 od5 D5.keep hx5 ?_⟩
      rcases hod with ⟨z1, z2⟩ | ⟨dx, z1, z2, _, z3, z4, z5⟩
      · refine .inl ⟨?_, z2⟩
        have := congrArg List.length z1
        rw [List.length_reverse, List.length_zip, List.length_nil] at this
        cases fs with
        | nil => rfl
        | cons a b => simp only [List.length_cons] at this hu; omega
      · exact .inr ⟨dx, z1, z2, z3, z4, fun e => z5 (by subst e; rfl)⟩
end
end Tx

/-! Tx2: raise C(..) of an own exception -/
namespace Tv
open PySem PySem.Spec PyProof.Rows L2

/-- an exception class of the text: its number, its name, its fields (the parameters of its __init__) -/
structure Exc (P : Program) (K : PySem.W.Frag) (mg : Str → Option Value) (T : Tb) (c : Nat) (x : Str) (fs : List Str) : Prop where
  mg_ : mg x = some (.ref (T.cls c))
  sup : mg "super" = none
  fl : T.fl c = fs
  len : fs.length ≤ 800
  nd : (("self" : Str) :: fs).Nodup
  ex : ∃ f cc m j q0 q1 q2 q3 q4 q5 rest fd, Tx.XCl P K (T.cls c) f cc (Tx.supSt m j q0 q1 q2 q3 q4 q5 :: rest) fd ∧ Tx.SupForm m j q0 q1 q2 q3 q4 ∧ Tx.Sts fs rest ∧ fd.body = .stmts (Tx.supSt m j q0 q1 q2 q3 q4 q5 :: rest) ∧
    (∀ y ∈ fs, fd.scope.names.lookup y = some .local ∧ (y == ("__debug__" : Str)) = false ∧ PySem.W.findIn K (.ref (T.cls c)) y = some none) ∧ Binds K fd (("self" : Str) :: fs) []
theorem Exc.tb {P : Program} {K : PySem.W.Frag} {mg : Str → Option Value} {T : Tb} {c : Nat} {x : Str} {fs : List Str} {o : Option Addr} (h : Exc P K mg T c x fs) : Exc P K mg (T.w o) c x fs := ⟨h.mg_, h.sup, h.fl, h.len, h.nd, h.ex⟩
theorem lookup_rev {α β : Type} [BEq α] [LawfulBEq α] {l : List (α × β)} (nd : (l.map (·.1)).Nodup) (y : α) : l.reverse.lookup y = l.lookup y := by
  have ndr : (l.reverse.map (·.1)).Nodup := by
    rw [List.map_reverse]
    exact List.pairwise_reverse.mpr (List.Pairwise.imp (fun e => Ne.symm e) nd)
  have mem : ∀ {m : List (α × β)} {v : β}, m.lookup y = some v → (y, v) ∈ m := by
    intro m v
    induction m with
    | nil => intro h; cases h
    | cons p m ih =>
      intro h
      obtain ⟨a, b⟩ := p
      rw [List.lookup_cons] at h
      cases q : y == a with
      | true =>
        rw [q] at h
        cases h
        rw [eq_of_beq q]
        exact List.mem_cons_self
      | false =>
        rw [q] at h
        exact List.mem_cons_of_mem _ (ih h)
  cases q : l.lookup y with
  | some v => exact Tx.lookup_mem (List.mem_reverse.mpr (mem q)) ndr
  | none =>
    cases q2 : l.reverse.lookup y with
    | none => rfl
    | some v =>
      rw [Tx.lookup_mem (List.mem_reverse.mp (mem q2)) nd] at q
      cases q
theorem relO_zip {vs : List V} {us : List Value} (r : Vals vs us) : ∀ (fs : List Str) (f : Str), RelO ((fs.zip vs).lookup f) ((fs.zip us).lookup f) := by
  induction r with
  | nil =>
    intro fs f
    rw [List.zip_nil_right, List.zip_nil_right]
    trivial
  | cons h _ ih =>
    intro fs f
    cases fs with
    | nil => trivial
    | cons g fs =>
      rw [List.zip_cons_cons, List.zip_cons_cons, List.lookup_cons, List.lookup_cons]
      cases f == g with
      | true => exact h
      | false => exact ih fs f
/-- the reading of C(e, ..) -/
def tMkX (C : Addr) (fs : List Str) (ta : TA) : L2.St → Hp → XK → Prop := fun σ H Q => ta σ H fun vs H1 => vs.length = fs.length ∧ (fs = [] → Q (.ref C) none H1) ∧ (fs ≠ [] → ∀ d, H1 d = none → Q (.ref C) (some d) (upd H1 d (.xd (fs.zip vs))))
section
variable {X : Cx} {T : Tb} {W : WX} {c : Nat} {x : Str} {fs : List Str} {es : List Expr} {e : Expr} {ta : TA} {p pos : Pos}
theorem run_exc {pins : List (Addr × Obj)} {σ : L2.St} {H1 : Hp} {s1 : Shared} {Q : XK} {us : List Value} {vs : List V} (Ex : Exc X.prog X.K X.mg T c x fs) (hr : Room 1 X.A) (I1 : Inv X pins σ H1 s1) (r1 : Vals vs us) (hl : vs.length = fs.length)
    (q0 : fs = [] → Q (.ref (T.cls c)) none H1) (q1 : fs ≠ [] → ∀ d, H1 d = none → Q (.ref (T.cls c)) (some d) (upd H1 d (.xd (fs.zip vs)))) : wpAny (model X.prog X.w) X.A (call (.ref (T.cls c)) us) (MkP X pins σ Q) X.xe s1 := by
  obtain ⟨f, cc, m, j, p0, p1, p2, p3, p4, p5, rest, fd, XC, SF, S, hb, hloc, hbd⟩ := Ex.ex
  have hu : us.length = fs.length := by rw [← r1.length, hl]
  obtain ⟨mb, hB, hbb⟩ := I1.mod.blt
  have hl9 := Ex.len
  obtain ⟨h, g, dr, t, os⟩ := s1
  have hg : h.Ns mainGlobals X.mg := I1.mod.glob.keeps I1.bk
  have hB' : h.Ns builtinsNs mb := hB.keeps I1.bk
  have hms : mb "super" = some (.type "super") := (hbb _ (by decide)).trans (by decide +kernel)
  have hlim : h.NoLimit := I1.nolimit
  refine wpAny_call (Tx.run_make SF XC S hb I1.kIn hg hB' Ex.sup hms hlim hu (by omega) Ex.nd hloc ?_ (fun s a k => ?_) (fun h' tk t1 od k hx hod => ?_))
  · rw [make_depth]
    have := hr.dp
    omega
  · have := hbd s (a :: us) k (by simp [hu])
    rw [List.append_nil] at this
    exact this
  · obtain ⟨G, g1, g2⟩ := restrict h' fun b => decide (b ≠ h.objs.size + 1)
    have gk : ∀ b, b ≠ h.objs.size + 1 → G.get? b = h'.get? b := fun b hb => g1 b (decide_eq_true hb)
    have ga : G.get? (h.objs.size + 1) = none := g2 _ (by simp)
    have nx : h.get? (h.objs.size + 1) = none := Heap.get?_none_of_le (Nat.le_add_right _ _)
    have kG : ∀ b o, h.get? b = some o → G.get? b = some o := fun b o e => by
      rw [gk b (fun z => by rw [z, nx] at e; cases e)]
      exact k b o e
    have kG' : ∀ b o, G.get? b = some o → h'.get? b = some o := fun b o e => by
      by_cases q : b = h.objs.size + 1
      · rw [q, ga] at e; cases e
      · rw [gk b q] at e; exact e
    have na : H1 (h.objs.size + 1) = none := I1.hok.gone nx
    rcases hod with ⟨rfl, rfl⟩ | ⟨dx, rfl, dne, dn, hns, nf⟩
    · exact ⟨h.objs.size + 1, _, _, ⟨G, g, dr, t, os⟩, H1, _, none, rfl, I1.kept (h' := G) (t' := t) kG, kG', ga, hx, ⟨rfl, rfl⟩, rfl, rfl, na, rfl, I1.bare, raises_own XC.exC XC.tyC, q0 rfl⟩
    · have hd1 : H1 dx = none := I1.hok.gone dn
      have nd : fs.Nodup := (List.nodup_cons.mp Ex.nd).2
      have I2 : Inv X pins σ (upd H1 dx (.xd (fs.zip vs))) ⟨G, g, dr, t, os⟩ := Inv.laidN (t' := t) I1 kG dn hd1 ⟨_, hns.at fun o y => (gk dx dne).trans y, fun f => by
        rw [lookup_rev (by rw [List.map_fst_zip (by omega)]; exact nd)]
        exact relO_zip r1 fs f⟩
      refine ⟨h.objs.size + 1, _, _, ⟨G, g, dr, t, os⟩, _, _, some dx, rfl, I2, kG', ga, hx, ⟨rfl, rfl⟩, rfl, rfl, ?_, rfl, I1.bare, raises_own XC.exC XC.tyC, q1 nf dx hd1⟩
      rw [upd_ne (Ne.symm dne)]
      exact na
variable {j k : Nat} {lm : LM}
theorem pmk_exc (Ex : Exc X.prog X.K X.mg T c x fs) (hr : Room j X.A) (hk : 1 ≤ j) (hg : Gl X x) (ha : PA X (e :: es) ta) (hdb : (x == ("__debug__" : Str)) = false := by decide)
    (he : starEach (e :: es) X.env = (false, eval e X.env) :: starEach es X.env := by rfl) (hpl : (backTo pos (starEach es X.env)).any (·.1) = false := by rfl) :
    PMk X (.Call (.Name x p) (e :: es) [] pos) (tMkX (T.cls c) fs ta) := by
  intro pins s σ H Q I h
  obtain ⟨f, cc, m, j, p0, p1, p2, p3, p4, p5, rest, fd, XC, _⟩ := id Ex.ex
  refine wpAny_Call_Name_kw (ld_glob I hg Ex.mg_ ?_ hdb)
  refine PySem.W.callWith_K (h₀ := X.base) I.ok.mod.kin XC.kC (thn (ha.run pos pins s σ H _ I h) fun us s1 ⟨vs, H1, I1, r1, hl, q0, q1⟩ => ⟨I1.kIn, ?_⟩) he hpl
  exact run_exc Ex (hr.mono hk) I1 r1 hl q0 q1
theorem pmk_exc0 (Ex : Exc X.prog X.K X.mg T c x []) (hr : Room j X.A) (hk : 1 ≤ j) (hg : Gl X x) (hdb : (x == ("__debug__" : Str)) = false := by decide) :
    PMk X (.Call (.Name x p) [] [] pos) (tMkX (T.cls c) [] tNil) := by
  intro pins s σ H Q I h
  obtain ⟨f, cc, m, j, p0, p1, p2, p3, p4, p5, rest, fd, XC, _⟩ := id Ex.ex
  refine wpAny_Call_Name_kw (ld_glob I hg Ex.mg_ ?_ hdb)
  obtain ⟨hl, q0, q1⟩ := h
  exact PySem.W.callWith_K0 I.kIn XC.kC (run_exc (us := []) (vs := []) Ex (hr.mono hk) I .nil hl q0 q1)
/-- raise C(e, ..) -/
def mRaise (c : Nat) (lm : LM) : SM := fun ρ s => match lm ρ s with
  | .ok ds s' => .er c ds ρ s'
  | .er k es s' => .er k es ρ s'
  | .no => .no
theorem mRaise_of {n : Nat} {D0 : Ends} {σ : L2.St} {H : Hp} (hfl : T.fl c = fs) (hn : fs.length = n) (h : tS X.K T W (mRaise c lm) D0 σ H) : tMkX (T.cls c) fs (tP X.K T W (ALn X.K T n) lm) σ H fun cls d H' => W cls d σ H' := by
  obtain ⟨B, Z, cm, ρ, s, r, p⟩ := h
  refine ⟨B, Z, cm, ρ, s, r, tE_of (fun ds s' e vs H' cm' ex r' z => ?_) (fun c ds s' e cls dx H' cm' ex r' z => ?_) (fun e => ?_)⟩
  · unfold mRaise at p
    rw [e] at p
    obtain ⟨z1, z2⟩ := z
    have hl : vs.length = fs.length := by rw [z2, hn]
    refine ⟨hl, fun e0 => ?_, fun e0 d hd => ?_⟩
    · subst e0
      have : vs = [] := List.length_eq_zero_iff.mp hl
      subst this
      cases z1
      exact p _ none σ H' cm' ex.pre r' ⟨rfl, .inl ⟨rfl, rfl, hfl⟩⟩
    · have g := sub_upd (o := .xd (fs.zip vs)) hd
      refine p _ (some d) σ _ cm' ex.pre (FRel.grow (F := ⟨B, Z, σ, ρ⟩) r' g) ⟨rfl, .inr ⟨d, _, rfl, vis_new (F := ⟨B, Z, σ, ρ⟩) r' hd, ?_, ?_⟩⟩
      · rw [List.map_fst_zip (by omega), hfl]
      · rw [List.map_snd_zip (by omega)]
        exact Reps.mono (.refl _) (sub_new (F := ⟨B, Z, σ, ρ⟩) r' hd) _ _ z1
  · unfold mRaise at p
    rw [e] at p
    exact p cls dx σ H' cm' ex.pre r' z
  · unfold mRaise at p
    rw [e] at p
    exact p
theorem q_raise {p2 : Pos} {n : Nat} (Ex : Exc X.prog X.K X.mg T c x fs) (hc : X.calm = true) (hr : Room j X.A) (tk : Takes X W) (ha : QS X T W n (e :: es) lm) (hn : fs.length = n := by rfl) (hk : 1 ≤ j := by decide) (hg : Gl X x := by rfl) (hdb : (x == ("__debug__" : Str)) = false := by decide)
    (he : starEach (e :: es) X.env = (false, eval e X.env) :: starEach es X.env := by rfl) (hpl : (backTo pos (starEach es X.env)).any (·.1) = false := by rfl) :
    QSt X T W (.Raise (some (.Call (.Name x p) (e :: es) [] pos)) none p2) (mRaise c lm) := PS.conv (ps_raise hc tk (pmk_exc Ex hr hk hg ha hdb he hpl)) fun Ed σ H h => mRaise_of Ex.fl hn h
theorem q_raise0 {p2 : Pos} (Ex : Exc X.prog X.K X.mg T c x []) (hc : X.calm = true) (hr : Room j X.A) (tk : Takes X W) (hk : 1 ≤ j := by decide) (hg : Gl X x := by rfl) (hdb : (x == ("__debug__" : Str)) = false := by decide) :
    QSt X T W (.Raise (some (.Call (.Name x p) [] [] pos)) none p2) (mRaise c mNil) := PS.conv (ps_raise hc tk (pmk_exc0 Ex hr hk hg hdb)) fun Ed σ H h => by
  have h' := mRaise_of (n := 0) Ex.fl rfl h
  obtain ⟨B, Z, cm, ρ, s, r, p⟩ := h'
  exact p.fin (F := ⟨B, Z, σ, ρ⟩) r ⟨.nil, rfl⟩
end
end Tv

/-! Tx3: methods of built-in values; the caught exception: isinstance, fields -/
namespace Tv
open PySem PySem.Spec PyProof.Rows L2

/-! ### x.m(y, ..) of a list or a text that stays -/
def tyB (T : String) (d : D) : Bool := match d with
  | .str _ => T == "str"
  | .lst _ => T == "list"
  | .frz _ => T == "list"
  | _ => false
def mBm (T : String) (g : D → List D → S → R D) (o : EM) (lm : LM) : EM := fun ρ s => (o ρ s).bind fun x s1 => if tyB T x then (lm ρ s1).bind fun ds s2 => g x ds s2 else .no
def OBm (X : Cx) (T : Tb) (A : AK D V) (r : V → List V → Hp → VK → Prop) (g : D → List D → S → R D) : Prop := ∀ (F : Fm) (cm : List Addr) (H : Hp) (s : S) (W : WX) (x : V) (d : D) (xs : List V) (ds : List D) (Q : VK),
  FRel X.K T F cm H s → AB X.K T F H cm H s x d → ABs X.K T F H cm H s xs ds → Post X.K T F cm H W A (g d ds s) Q → r x xs H Q
section
variable {X : Cx} {T : Tb} {W : WX} {n : Nat} {o e : Expr} {es : List Expr} {mo : EM} {lm : LM} {name : Str} {apos cpos : Pos} {t id : String} {r : V → List V → Hp → VK → Prop} {g : D → List D → S → R D} {A : AK D V}
theorem tyV_of {F : Fm} {H0 H : Hp} {cm : List Addr} {s : S} {v : V} {d : D} (z : AB X.K T F H0 cm H s v d) (h : tyB t d = true) : tyV X.K t v H := by
  cases d with
  | str x =>
    cases z.str
    exact eq_of_beq h
  | lst ds =>
    obtain ⟨a, xs, rfl, h1, _⟩ := z.lst
    exact .inl ⟨eq_of_beq h, xs, .of h1⟩
  | frz ds =>
    obtain ⟨a, xs, rfl, h1, _⟩ := z.frz
    exact .inl ⟨eq_of_beq h, xs, h1⟩
  | _ => cases h
theorem tBM_of (hg : OBm X T A r g) (up : Up A) {σ : L2.St} {H : Hp} {Q : VK} (h : tP X.K T W A (mBm t g mo lm) σ H Q) : tBM X.K t r (tP X.K T W (AB X.K T) mo) (tP X.K T W (ALB X.K T n) lm) σ H Q := by
  refine h.bind (AB X.K T) up fun B Z cm ρ x H1 ⟨cm1, dx, s1, e1, r1, a1, p1⟩ => ?_
  dsimp only at p1
  split at p1
  · rename_i ht
    refine ⟨tyV_of a1 ht, B, Z, cm1, ρ, s1, r1, (p1.bind (A := ALB X.K T n) up).mono fun y H2 ⟨cm2, dy, s2, e2, r2, a2, p2⟩ => ?_⟩
    exact hg _ _ _ _ _ _ _ _ _ _ r2 (a1.ext r1 e2) a2.1.h0 p2
  · exact p1.elim
theorem q_bm (pa : PlainAttrs t) (slot : Slot t name id) (hty : typeOf (.builtin id) = pure (.type "method_descriptor")) (hm : MtR X id r) (hg : OBm X T A r g) (up : Up A) (ho : QB X T W o mo) (ha : QSB X T W n (e :: es) lm)
    (hbase : attributeBase o name X.env (eval o X.env) = eval o X.env := by rfl)
    (hfew : ((backTo cpos (starEach (e :: es) X.env)).all (fun x => !x.1) && (backToKw cpos (keywordEach [] X.env)).all (fun x => x.1.isSome) && decide ((e :: es).length + ([] : List Keyword).length + (if ([] : List Keyword).isEmpty then 0 else 1) < 30)) = true := by rfl)
    (hline : (apos.endLine == cpos.line) = true := by rfl) (hs : starEach (e :: es) X.env = (false, eval e X.env) :: starEach es X.env := by rfl) (hplain : (backTo cpos (starEach es X.env)).any (·.1) = false := by rfl) :
    PE X (.Call (.Attribute o name apos) (e :: es) [] cpos) (tP X.K T W A (mBm t g mo lm)) := PE.conv (pe_bm pa slot hty hm ho ha hbase hfew hline hs hplain) fun _ _ _ h => tBM_of hg up h

/-! xs.count(True) of truth values; xs.index(y) -/
def allB : List D → Option (List Bool)
  | [] => some []
  | .bl b :: ds => (allB ds).map fun l => b :: l
  | _ :: _ => none
theorem allB_eq : ∀ {ds : List D} {bs : List Bool}, allB ds = some bs → ds = bs.map D.bl
  | [], _, h => by cases h; rfl
  | .bl b :: ds, bs, h => by
    unfold allB at h
    cases q : allB ds with
    | none => rw [q] at h; cases h
    | some l =>
      rw [q] at h
      cases h
      rw [allB_eq q]
      rfl
  | .non :: _, _, h => by cases h
  | .int _ :: _, _, h => by cases h
  | .str _ :: _, _, h => by cases h
  | .tup _ :: _, _, h => by cases h
  | .lst _ :: _, _, h => by cases h
  | .frz _ :: _, _, h => by cases h
  | .ins _ _ :: _, _, h => by cases h
  | .cell _ :: _, _, h => by cases h
  | .fn _ :: _, _, h => by cases h
  | .dic _ _ :: _, _, h => by cases h
  | .exc _ _ :: _, _, h => by cases h
  | .sf _ _ :: _, _, h => by cases h
  | .lam _ :: _, _, h => by cases h
  | .tab _ :: _, _, h => by cases h
def gCntB (x : D) (ds : List D) (s : S) : R D := match x, ds with
  | .lst l, [.bl b] => (match allB l with | some bs => .ok (.int (bs.count b : Nat)) s | none => .no)
  | _, _ => .no
theorem reps_bls {K : PySem.W.Frag} {cm : List Addr} {G : Hp} : ∀ {bs : List Bool} {xs : List V}, Reps K T cm G xs (bs.map D.bl) → xs = bs.map V.bl
  | [], _, h => by cases h; rfl
  | b :: bs, _, h => by
    cases h with
    | cons h1 h2 =>
      cases h1
      rw [reps_bls h2]
      rfl
def rCntB (K : PySem.W.Frag) : V → List V → Hp → VK → Prop := fun x xs H Q => ∃ (p : Addr) (bs : List Bool) (k : Bool), x = .ref p ∧ xs = [.bl k] ∧ SqL K H p (bs.map V.bl) ∧ Q (.int (bs.count k : Nat)) H
theorem cnt_vals : ∀ {bs : List Bool} {its : List Value}, Vals (bs.map V.bl) its → its = bs.map Value.bool
  | [], _, h => by cases h; rfl
  | b :: bs, _, h => by
    cases h with
    | cons h1 h2 =>
      cases h1
      rw [cnt_vals h2]
      rfl
theorem mt_cntB : MtR X "list.count" (rCntB X.K) := by
  intro pins s σ H x xs v us Q I rx rxs h
  obtain ⟨p, bs, k, rfl, rfl, hs, q⟩ := h
  cases rx
  obtain ⟨u, rfl, ru⟩ := rxs.one
  cases ru
  obtain ⟨its, rv, ⟨⟨oc, od, odt, osl⟩, m, ho, h1, h2, h3⟩, hlen⟩ := I.list hs
  dsimp only at h1 h3
  subst h1 h3
  have e0 := cnt_vals rv
  subst e0
  refine call_meets PySem.F.slot_list_count ⟨_, ho, rfl⟩ PySem.F.entry_list_count (PySem.F.args_list_count_2 _ _) (SeqAt.list_countAt p (bs.map Value.bool).toArray m od osl (.bool k) (fun y => match y with | .bool b => b == k | _ => false)) ⟨ho, fun y hy => ?_, ?_⟩
  · have hy' : y ∈ bs.map Value.bool := by simpa using hy
    obtain ⟨b, _, rfl⟩ := List.mem_map.mp hy'
    exact SeqAt.EqAt.bool_bool b k
  · refine ⟨.int (bs.count k : Nat), H, I.tok _, ⟨s.toks, ?_⟩, q⟩
    have e1 : (bs.map Value.bool).toArray.toList.countP (fun y => match y with | .bool b => b == k | _ => false) = bs.count k := by
      show (bs.map Value.bool).countP _ = _
      rw [List.countP_map]
      rfl
    rw [e1]
theorem obm_cntB : OBm X T (AR X.K T) (rCntB X.K) gCntB := by
  intro F cm H s W x d xs ds Q r a as p
  unfold gCntB at p
  split at p
  · rename_i l b
    split at p
    · rename_i bs e
      have e2 := allB_eq e
      subst e2
      obtain ⟨c, ys, rfl, h1, h3⟩ := a.lst
      cases as with
      | cons a1 at_ =>
        cases at_
        cases a1.bl
        rw [reps_bls h3] at h1
        exact ⟨c, bs, b, rfl, rfl, .of h1, p.fin r (.int _)⟩
    · exact p.elim
  · exact p.elim
theorem q_count (ho : QB X T W o mo) (ha : QB X T W e (mC (.bl true)))
    (hbase : attributeBase o "count" X.env (eval o X.env) = eval o X.env := by rfl)
    (hfew : ((backTo cpos (starEach [e] X.env)).all (fun x => !x.1) && (backToKw cpos (keywordEach [] X.env)).all (fun x => x.1.isSome) && decide ([e].length + ([] : List Keyword).length + (if ([] : List Keyword).isEmpty then 0 else 1) < 30)) = true := by rfl)
    (hline : (apos.endLine == cpos.line) = true := by rfl) (hs : starEach [e] X.env = (false, eval e X.env) :: starEach [] X.env := by rfl) (hplain : (backTo cpos (starEach [] X.env)).any (·.1) = false := by rfl) :
    QE X T W (.Call (.Attribute o "count" apos) [e] [] cpos) (mBm "list" gCntB mo (mCons (mC (.bl true)) mNil)) :=
  q_bm PySem.F.plainAttrs_list PySem.F.slot_list_count PySem.F.type_list_count mt_cntB obm_cntB up_AR ho (qb_cons ha qb_nil hs) hbase hfew hline hs hplain
/-- the first place at which it stands -/
def findP (d : PyData) : List PyData → Nat → Option Nat
  | [], _ => none
  | z :: zs, j => if PyData.eqv z d then some j else findP d zs (j + 1)
theorem findP_ok {d : PyData} : ∀ {zs : List PyData} {j k : Nat}, findP d zs j = some k → ∃ m z, k = j + m ∧ zs[m]? = some z ∧ PyData.eqv z d = true ∧ ∀ (i : Nat) (z' : PyData), i < m → zs[i]? = some z' → PyData.eqv z' d = false
  | [], _, _, h => by cases h
  | z :: zs, j, k, h => by
    unfold findP at h
    split at h
    · rename_i e
      cases h
      exact ⟨0, z, rfl, rfl, e, fun i z' hi => absurd hi (Nat.not_lt_zero _)⟩
    · rename_i e
      obtain ⟨m, z1, h1, h2, h3, h4⟩ := findP_ok h
      refine ⟨m + 1, z1, by omega, by simpa using h2, h3, fun i z' hi hz => ?_⟩
      cases i with
      | zero =>
        cases hz
        exact Bool.eq_false_iff.mpr e
      | succ i => exact h4 i z' (by omega) (by simpa using hz)
def gIndex (x : D) (ds : List D) (s : S) : R D := match ds with
  | [y] => (match x.py, y.py with
    | some (.list ps), some p => if SeqAt.shaped (.list ps) = true ∧ SeqAt.shaped p = true then (match findP p ps 0 with | some j => .ok (.int (j : Nat)) s | none => .no) else .no
    | _, _ => .no)
  | _ => .no
theorem obm_index : OBm X T (AR X.K T) (rIndexD X.K) gIndex := by
  intro F cm H s W x d xs ds Q r a as p
  unfold gIndex at p
  split at p
  · rename_i y
    split at p
    · rename_i ps q e1 e2
      split at p
      · rename_i hs
        split at p
        · rename_i j ej
          obtain ⟨m, z, h1, h2, h3, h4⟩ := findP_ok ej
          have hm : m = j := by omega
          subst hm
          have da := a.dp e1
          cases as with
          | @cons v _ _ _ a1 at_ =>
            cases at_
            have hx : ∃ c, x = .ref c := by
              cases d with
              | lst l => obtain ⟨c, _, e, _⟩ := a.lst; exact ⟨c, e⟩
              | _ => first | cases e1 | (unfold D.py at e1; generalize D.pys _ = z at e1; cases z <;> cases e1)
            obtain ⟨c, rfl⟩ := hx
            exact ⟨c, v, q, ps, m, z, rfl, rfl, da, a1.dp e2, hs.1, hs.2, h2, h3, h4, p.fin r (.int _)⟩
        · exact p.elim
      · exact p.elim
    · exact p.elim
  · exact p.elim
theorem q_index (hu : X.A.units + 64 < cLine) (hu2 : X.A.units + 65 < cLine) (ho : QB X T W o mo) {me : EM} (ha : QB X T W e me)
    (hbase : attributeBase o "index" X.env (eval o X.env) = eval o X.env := by rfl)
    (hfew : ((backTo cpos (starEach [e] X.env)).all (fun x => !x.1) && (backToKw cpos (keywordEach [] X.env)).all (fun x => x.1.isSome) && decide ([e].length + ([] : List Keyword).length + (if ([] : List Keyword).isEmpty then 0 else 1) < 30)) = true := by rfl)
    (hline : (apos.endLine == cpos.line) = true := by rfl) (hs : starEach [e] X.env = (false, eval e X.env) :: starEach [] X.env := by rfl) (hplain : (backTo cpos (starEach [] X.env)).any (·.1) = false := by rfl) :
    QE X T W (.Call (.Attribute o "index" apos) [e] [] cpos) (mBm "list" gIndex mo (mCons me mNil)) :=
  q_bm PySem.F.plainAttrs_list PySem.F.slot_list_index PySem.F.type_list_index (mt_indexD hu2) obm_index up_AR ho (qb_cons ha qb_nil hs) hbase hfew hline hs hplain
end
end Tv

/-! Tx4: the caught exception as a value; a def called with it in the suite -/
namespace Tv
open PySem PySem.Spec PyProof.Rows L2

def Tb.x (T : Tb) (o : Option (Addr × Nat × Option Addr)) : Tb := { T with xv := o }
def D.noX : D → Bool
  | .exc _ _ => false
  | .tup ds => nos ds
  | .lst ds => nos ds
  | .frz ds => nos ds
  | .ins _ ds => nos ds
  | .dic _ ds => nos ds
  | .sf _ ds => nos ds
  | _ => true
where nos : List D → Bool
  | [] => true
  | d :: ds => d.noX && nos ds
section
variable {K : PySem.W.Frag} {T : Tb} {cm : List Addr} {G : Hp} {o : Option (Addr × Nat × Option Addr)}
mutual
theorem Rep.xb (hn : T.xv = none) : ∀ (d : D) (v : V), Rep K T cm G v d → Rep K (T.x o) cm G v d
  | .non, _, h => by cases h; exact .non
  | .bl b, _, h => by cases h; exact .bl b
  | .int i, _, h => by cases h; exact .int i
  | .str x, _, h => by cases h; exact .str x
  | .tup ds, _, h => by
    cases h with
    | tup hs hr => exact .tup hs (Reps.xb hn ds _ hr)
  | .lst ds, _, h => by
    cases h with
    | lst hs hr => exact .lst hs (Reps.xb hn ds _ hr)
  | .frz ds, _, h => by
    cases h with
    | frz hs hr => exact .frz hs (Reps.xb hn ds _ hr)
  | .ins c ds, _, h => by
    cases h with
    | ins ha hm hr => exact .ins (T := T.x o) ha hm (Reps.xb hn ds _ hr)
  | .cell n, _, h => by
    cases h with
    | cell e => exact .cell e
  | .fn n, _, h => by
    cases h
    exact .fn (T := T.x o) n
  | .dic ks ds, _, h => by
    cases h with
    | dic ha hr => exact .dic ha (Reps.xb hn ds _ hr)
  | .exc _ _, _, h => by
    cases h with
    | exc0 e => rw [hn] at e; cases e
    | exc1 e ha hm hr => rw [hn] at e; cases e
  | .lam _, _, h => by
    cases h with
    | lam e e2 => exact .lam (T := T.x o) e e2
  | .sf _ _, _, h => by cases h
  | .tab _, _, h => by cases h
theorem Reps.xb (hn : T.xv = none) : ∀ (ds : List D) (vs : List V), Reps K T cm G vs ds → Reps K (T.x o) cm G vs ds
  | [], _, h => by cases h; exact .nil
  | d :: ds, _, h => by
    cases h with
    | cons h1 h2 => exact .cons (Rep.xb hn d _ h1) (Reps.xb hn ds _ h2)
end
mutual
theorem Rep.bx : ∀ (d : D) (v : V), d.noX = true → Rep K (T.x o) cm G v d → Rep K T cm G v d
  | .non, _, _, h => by cases h; exact .non
  | .bl b, _, _, h => by cases h; exact .bl b
  | .int i, _, _, h => by cases h; exact .int i
  | .str x, _, _, h => by cases h; exact .str x
  | .tup ds, _, n, h => by
    cases h with
    | tup hs hr => exact .tup hs (Reps.bx ds _ n hr)
  | .lst ds, _, n, h => by
    cases h with
    | lst hs hr => exact .lst hs (Reps.bx ds _ n hr)
  | .frz ds, _, n, h => by
    cases h with
    | frz hs hr => exact .frz hs (Reps.bx ds _ n hr)
  | .ins c ds, _, n, h => by
    cases h with
    | ins ha hm hr => exact .ins (T := T) ha hm (Reps.bx ds _ n hr)
  | .cell _, _, _, h => by
    cases h with
    | cell e => exact .cell e
  | .fn n, _, _, h => by
    cases h
    exact .fn (T := T) n
  | .dic ks ds, _, n, h => by
    cases h with
    | dic ha hr => exact .dic ha (Reps.bx ds _ n hr)
  | .exc _ _, _, n, h => by cases n
  | .lam _, _, _, h => by
    cases h with
    | lam e e2 => exact .lam (T := T) e e2
  | .sf _ _, _, _, h => by cases h
  | .tab _, _, _, h => by cases h
theorem Reps.bx : ∀ (ds : List D) (vs : List V), D.noX.nos ds = true → Reps K (T.x o) cm G vs ds → Reps K T cm G vs ds
  | [], _, _, h => by cases h; exact .nil
  | d :: ds, _, n, h => by
    have n' := Bool.and_eq_true_iff.mp n
    cases h with
    | cons h1 h2 => exact .cons (Rep.bx d _ n'.1 h1) (Reps.bx ds _ n'.2 h2)
end
theorem OwnRep.xb {H : Hp} {a : Addr} {d : D} (hn : T.xv = none) (h : OwnRep K T cm G H a d) : OwnRep K (T.x o) cm G H a d := by
  cases d with
  | lst ds =>
    obtain ⟨xs, h1, h2⟩ := h
    exact ⟨xs, h1, Reps.xb hn _ _ h2⟩
  | ins c ds =>
    obtain ⟨dx, fs, h1, h2, h3⟩ := h
    exact ⟨dx, fs, h1, h2, Reps.xb hn _ _ h3⟩
  | sf c ds =>
    obtain ⟨h0, dx, fs, h1, h2, h3⟩ := h
    exact ⟨h0, dx, fs, h1, h2, Reps.xb hn _ _ h3⟩
  | tab n => exact h
  | _ => exact h.elim
theorem OwnRep.bx {H : Hp} {a : Addr} {d : D} (n : d.noX = true) (h : OwnRep K (T.x o) cm G H a d) : OwnRep K T cm G H a d := by
  cases d with
  | lst ds =>
    obtain ⟨xs, h1, h2⟩ := h
    exact ⟨xs, h1, Reps.bx _ _ n h2⟩
  | ins c ds =>
    obtain ⟨dx, fs, h1, h2, h3⟩ := h
    exact ⟨dx, fs, h1, h2, Reps.bx _ _ n h3⟩
  | sf c ds =>
    obtain ⟨h0, dx, fs, h1, h2, h3⟩ := h
    exact ⟨h0, dx, fs, h1, h2, Reps.bx _ _ n h3⟩
  | tab n => exact h
  | _ => exact h.elim
theorem Cells.xb {Z O : Addr → Prop} {H : Hp} {s : S} (hn : T.xv = none) (c : Cells K T Z O cm H s) : Cells K (T.x o) Z O cm H s :=
  ⟨c.len, c.nd, fun n a d e1 e2 => (c.at_ n a d e1 e2).xb hn, c.there, c.zok, c.nosf⟩
theorem Cells.bx {Z O : Addr → Prop} {H : Hp} {s : S} (hx : ∀ d ∈ s, d.noX = true) (c : Cells K (T.x o) Z O cm H s) : Cells K T Z O cm H s :=
  ⟨c.len, c.nd, fun n a d e1 e2 => (c.at_ n a d e1 e2).bx (hx d (List.mem_of_getElem? e2)), c.there, c.zok, c.nosf⟩
end

/-! ### what the text's exception classes are -/
def xAll (K : PySem.W.Frag) (cs : List Addr) : Bool := cs.all fun c => (PySem.W.clsIn K c).isSome && (xfB K c && (insB K c && (decide (PySem.W.kitOne K (.ref c) (.type "ValueError") = some true) && cs.all fun d => decide (PySem.W.kitOne K (.ref c) (.ref d) = some (c == d)))))
structure IsX (K : PySem.W.Frag) (T : Tb) (es : List Nat) : Prop where
  ok : xAll K (es.map T.cls) = true
  inj : ∀ c ∈ es, ∀ d ∈ es, T.cls c = T.cls d → c = d
  no : ∀ c ∈ es, ∀ f ∈ T.fl c, PySem.W.findIn K (.ref (T.cls c)) f = some none
section
variable {K : PySem.W.Frag} {T : Tb} {es : List Nat}
theorem IsX.at_ (h : IsX K T es) {c : Nat} (hc : c ∈ es) : (PySem.W.clsIn K (T.cls c)).isSome = true ∧ XfC K (T.cls c) ∧ insB K (T.cls c) = true ∧ PySem.W.kitOne K (.ref (T.cls c)) (.type "ValueError") = some true ∧ ∀ d ∈ es, PySem.W.kitOne K (.ref (T.cls c)) (.ref (T.cls d)) = some (c == d) := by
  have q := List.all_eq_true.mp h.ok (T.cls c) (List.mem_map.mpr ⟨c, hc, rfl⟩)
  obtain ⟨q1, q⟩ := Bool.and_eq_true_iff.mp q
  obtain ⟨q2, q⟩ := Bool.and_eq_true_iff.mp q
  obtain ⟨q3, q⟩ := Bool.and_eq_true_iff.mp q
  obtain ⟨q4, q5⟩ := Bool.and_eq_true_iff.mp q
  refine ⟨q1, xfB_ok q2, q3, of_decide_eq_true q4, fun d hd => ?_⟩
  rw [of_decide_eq_true (List.all_eq_true.mp q5 (T.cls d) (List.mem_map.mpr ⟨d, hd, rfl⟩))]
  congr 1
  by_cases hcd : c = d
  · rw [hcd, beq_self_eq_true, beq_self_eq_true]
  · rw [beq_eq_false_iff_ne.mpr fun e => hcd (h.inj c hc d hd e), beq_eq_false_iff_ne.mpr hcd]
theorem IsX.x {o : Option (Addr × Nat × Option Addr)} (h : IsX K T es) : IsX K (T.x o) es := ⟨h.ok, h.inj, h.no⟩
end
/-- the exception that the suite holds: pinned -/
structure Held (X : Cx) (T : Tb) (es : List Nat) : Prop where
  ex : ∃ a c d oe vs, T.xv = some (a, c, d) ∧ c ∈ es ∧ (a, oe) ∈ X.pn ∧ Zc (.ref (T.cls c)) d oe ∧ oe.data = .fields vs
def gIsX (k : Nat → Option Bool) (m : EM) : EM := fun ρ s => (m ρ s).bind fun x s1 => match x with
  | .exc c _ => (match k c with | some b => .ok (.bl b) s1 | none => .no)
  | _ => .no
def kXc (es : List Nat) (n : Nat) (c : Nat) : Option Bool := if c ∈ es ∧ n ∈ es then some (c == n) else none
def kXv (es : List Nat) (c : Nat) : Option Bool := if c ∈ es then some true else none
def mFldX (ixs : List (Nat × Nat)) (m : EM) : EM := fun ρ s => (m ρ s).bind fun x s1 => match x with
  | .exc c ds => (match ixs.lookup c with
    | some j => (match ds[j]? with | some d => .ok d s1 | none => .no)
    | none => .no)
  | _ => .no
def rIsX (K : PySem.W.Frag) (T : Tb) : List V → Hp → VK → Prop := fun xs H Q => ∃ (a : Addr) (c : Nat) (d : Option Addr) (cv : V) (cvv : Value) (b : Bool), xs = [.ref a, cv] ∧ T.xv = some (a, c, d) ∧ (∀ dd, d = some dd → ∃ gs, H dd = some (.xd gs)) ∧ ClsV cv cvv ∧ PySem.W.kitOne K (.ref (T.cls c)) cvv = some b ∧ Q (.bl b) H
section
variable {X : Cx} {T : Tb} {W : WX} {es : List Nat} {e e2 : Expr} {m : EM} {pos p p2 : Pos} {x : Str}
/-- the held object in the state -/
theorem Held.inst {pins : List (Addr × Obj)} {σ : L2.St} {H : Hp} {s : Shared} {a : Addr} {c : Nat} {d : Option Addr} (h : Held X T es) (I : Inv X pins σ H s) (hx : T.xv = some (a, c, d)) (hd : ∀ dd, d = some dd → ∃ gs, H dd = some (.xd gs)) :
    c ∈ es ∧ ∃ oe od, PySem.W.InstAt s.heap a oe (T.cls c) od ∧ (∀ dd gs, d = some dd → H dd = some (.xd gs) → ∃ o2, od = some o2 ∧ ∃ mA, s.heap.Ns1 dd mA ∧ s.heap.get? dd = some o2 ∧ ∀ f, RelO (gs.lookup f) (mA f)) := by
  obtain ⟨a', c', d', oe, vs, h1, h2, h3, h4, h5⟩ := h.ex
  rw [h1] at hx
  cases hx
  obtain ⟨ha, _⟩ := I.pin (a, oe) (List.mem_append_left _ h3)
  cases d with
  | none => exact ⟨h2, oe, none, ⟨ha, h4.1, by unfold PySem.W.notCls; rw [h5] <;> rfl, by rw [h4.2]; trivial⟩, fun dd gs e => by cases e⟩
  | some dd =>
    obtain ⟨gs, hg⟩ := hd dd rfl
    have hx : ObjOk X.prog X.w H s.heap dd (.xd gs) := I.hok dd _ hg
    obtain ⟨mA, hns, hr⟩ := hx
    obtain ⟨o2, es2, ep2, ho, hr2⟩ := id hns
    refine ⟨h2, oe, some o2, ⟨ha, h4.1, by unfold PySem.W.notCls; rw [h5] <;> rfl, by rw [h4.2]; exact ho⟩, fun dd' gs' e1 e2 => ?_⟩
    cases e1
    rw [hg] at e2
    cases e2
    exact ⟨o2, rfl, mA, ⟨o2, es2, ep2, ho, hr2⟩, ho, hr⟩
theorem call_isX (hh : Held X T es) (hi : IsX X.K T es) : CallR X (.builtin "isinstance") (rIsX X.K T) := by
  intro pins s σ H xs us Q I r h
  obtain ⟨a, c, d, cv, cvv, b, rfl, hx, hd, hcv, e, q⟩ := h
  cases r with
  | cons rx rr =>
    cases rr with
    | cons rt rr =>
      cases rr
      cases rx
      have ec := hcv.eq rt
      subst ec
      obtain ⟨hc, oe, od, J, _⟩ := hh.inst I hx hd
      obtain ⟨k1, k2, k3, _, _⟩ := hi.at_ hc
      unfold insB at k3
      obtain ⟨n1, k3⟩ := Bool.and_eq_true_iff.mp k3
      obtain ⟨n2, k3⟩ := Bool.and_eq_true_iff.mp k3
      obtain ⟨n3, n4⟩ := Bool.and_eq_true_iff.mp k3
      exact PySem.W.kia_one (PySem.W.kitx_exc k1 k2.ga k2.gg k2.exC (of_decide_eq_true n1) (of_decide_eq_true n2) (of_decide_eq_true n3) (of_decide_eq_true n4)) I.kIn J e (fun z => nomatch z) fun tk => ⟨.bl b, H, I.tok _, rfl, q⟩
theorem rep_exc {cm : List Addr} {G H : Hp} {v : V} {c : Nat} {ds : List D} (hs : Sub G H) (z : Rep X.K T cm G v (.exc c ds)) : ∃ a d, v = .ref a ∧ T.xv = some (a, c, d) ∧ (∀ dd, d = some dd → ∃ gs, H dd = some (.xd gs)) := by
  cases z with
  | exc0 e => exact ⟨_, none, rfl, e, fun dd h => by cases h⟩
  | exc1 e ha _ _ => exact ⟨_, some _, rfl, e, fun dd h => by cases h; exact ⟨_, hs _ _ ha⟩⟩
theorem q_isXk (hh : Held X T es) (hi : IsX X.K T es) {k : Nat → Option Bool} {cv : V} {cvv : Value} {te : TE} (hk : ∀ c b, k c = some b → PySem.W.kitOne X.K (.ref (T.cls c)) cvv = some b) (hcv : ClsV cv cvv) (he2 : PE X e2 (tC cv)) (hg : Gl X "isinstance") (hm : X.mg "isinstance" = none) (ha : QE X T W e m)
    (hs : starEach [e, e2] X.env = (false, eval e X.env) :: starEach [e2] X.env := by rfl) (hs2 : starEach [e2] X.env = (false, eval e2 X.env) :: starEach [] X.env := by rfl) (hpl : (backTo pos (starEach [e2] X.env)).any (·.1) = false := by rfl) :
    QE X T W (.Call (.Name "isinstance" p) [e, e2] [] pos) (gIsX k m) := PE.conv (pe_callB (call_isX hh hi) hg hm PyProof.Rows.boot_isinstance (pa_cons ha (pa_cons he2 pa_nil hs2) hs) (by decide) (by decide) hs hpl) fun σ H Q h => by
  refine h.bind (AR X.K T) up_AR fun B Z cm ρ x H1 ⟨cm1, dx, s1, e1, r1, a1, p1⟩ => ?_
  dsimp only at p1
  split at p1
  · rename_i c ds
    split at p1
    · rename_i b hb
      obtain ⟨a, d, rfl, hx, hd⟩ := rep_exc (X := X) (T := T) Sub.hidH a1
      exact ⟨a, c, d, cv, cvv, b, rfl, hx, hd, hcv, hk _ _ hb, p1.fin r1 (.bl _)⟩
    · exact p1.elim
  · exact p1.elim
theorem q_isX {n : Nat} (hh : Held X T es) (hi : IsX X.K T es) (hm2 : X.mg x = some (.ref (T.cls n))) (hg2 : Gl X x := by rfl) (hg : Gl X "isinstance" := by rfl) (hm : X.mg "isinstance" = none) (ha : QE X T W e m) (hd : (x == ("__debug__" : Str)) = false := by decide)
    (hs : starEach [e, .Name x p2] X.env = (false, eval e X.env) :: starEach [.Name x p2] X.env := by rfl) (hs2 : starEach [.Name x p2] X.env = (false, eval (.Name x p2) X.env) :: starEach [] X.env := by rfl) (hpl : (backTo pos (starEach [.Name x p2] X.env)).any (·.1) = false := by rfl) :
    QE X T W (.Call (.Name "isinstance" p) [e, .Name x p2] [] pos) (gIsX (kXc es n) m) :=
  q_isXk (te := fun _ _ _ => True) hh hi (fun c b h => by
    unfold kXc at h
    split at h
    · rename_i hc
      cases h
      exact (hi.at_ hc.1).2.2.2.2 n hc.2
    · cases h) (.own _) (pe_glob (v := .ref (T.cls n)) hg2 hm2 rfl hd) hg hm ha hs hs2 hpl
theorem q_isXv (hh : Held X T es) (hi : IsX X.K T es) (hm2 : X.mg "ValueError" = none) (hg2 : Gl X "ValueError" := by rfl) (hg : Gl X "isinstance" := by rfl) (hm : X.mg "isinstance" = none) (ha : QE X T W e m)
    (hs : starEach [e, .Name "ValueError" p2] X.env = (false, eval e X.env) :: starEach [.Name "ValueError" p2] X.env := by rfl) (hs2 : starEach [.Name "ValueError" p2] X.env = (false, eval (.Name "ValueError" p2) X.env) :: starEach [] X.env := by rfl) (hpl : (backTo pos (starEach [.Name "ValueError" p2] X.env)).any (·.1) = false := by rfl) :
    QE X T W (.Call (.Name "isinstance" p) [e, .Name "ValueError" p2] [] pos) (gIsX (kXv es) m) :=
  q_isXk (te := fun _ _ _ => True) hh hi (fun c b h => by
    unfold kXv at h
    split at h
    · rename_i hc
      cases h
      exact (hi.at_ hc).2.2.2.1
    · cases h) (.ty "ValueError") (pe_bltn (v := .ty "ValueError") hg2 hm2 PyProof.Rows.Boot.«ValueError» rfl (by decide) (by decide)) hg hm ha hs hs2 hpl
theorem q_fldX {f : Str} {ixs : List (Nat × Nat)} (hh : Held X T es) (hi : IsX X.K T es) (he : QE X T W e m) (hf : fldOkB T f ixs = true := by kernel_rfl) (hb : attributeBase e f X.env (eval e X.env) = eval e X.env := by rfl) : QE X T W (.Attribute e f pos) (mFldX ixs m) := by
  refine ⟨fun pins s σ H Q I h => ?_⟩
  have h' : tP X.K T W (AR X.K T) m σ H fun x H1 => ∃ (a : Addr) (c : Nat) (dd : Addr) (gs : List (Str × V)) (v : V), x = .ref a ∧ T.xv = some (a, c, some dd) ∧ H1 dd = some (.xd gs) ∧ f ∈ T.fl c ∧ gs.lookup f = some v ∧ Q v H1 := by
    refine h.bind (AR X.K T) up_AR fun B Z cm ρ x H1 ⟨cm1, dx, s1, e1, r1, a1, p1⟩ => ?_
    dsimp only at p1
    split at p1
    · rename_i c ds
      split at p1
      · rename_i j hj
        split at p1
        · rename_i d hd
          have hfj := fldOkB_ok hf _ (lookup_mem hj)
          cases a1 with
          | exc0 e => cases hd
          | @exc1 a dd _ gs _ e ha hn hr =>
            obtain ⟨v, k1, k2⟩ := hr.get hd
            refine ⟨a, c, dd, gs, v, rfl, e, Sub.hidH _ _ ha, fldIx_mem hfj, ?_, p1.fin r1 k2⟩
            rw [lookup_fld (j := j) (by rw [hn]; exact hfj), k1]
        · exact p1.elim
      · exact p1.elim
    · exact p1.elim
  refine attr_of hb (thn (he.run pins s σ H _ I h') fun u s1 ⟨x, H1, I1, rx, a, c, dd, gs, v, ex, hx, hd, hm, hl, q⟩ => ?_)
  subst ex
  obtain rfl : u = Value.ref a := rx
  obtain ⟨hc, oe, od, J, hJ⟩ := hh.inst I1 hx (fun dd' e => by cases e; exact ⟨gs, hd⟩)
  obtain ⟨o2, rfl, mA, hns, ho, hr⟩ := hJ dd gs rfl hd
  obtain ⟨o3, ho3, hl3⟩ := lookIn_ns hns
  rw [ho] at ho3
  cases ho3
  obtain ⟨u, hu, ru⟩ := RelO.some_of (v := v) (o := mA f) (by rw [← hl]; exact hr f)
  obtain ⟨k1, k2, _⟩ := hi.at_ hc
  exact HandSPX.exc_get I1.kIn J k2.ga k2.gg k2.exC (PySem.W.findObj_own k2.hdC (hi.no c hc f hm) rfl (by rw [hl3, hu])) (handed_of ru) ⟨v, H1, I1.tok _, ru, q⟩
end
end Tv

/-! Tx5: a def called in an except suite with the exception that is held -/
namespace Tv
open PySem PySem.Spec PyProof.Rows L2

theorem run_hot {P : Program} {w : World} {K : PySem.W.Frag} {mg : Str → Option Value} {base : Heap} {x qual n0 : Str} {params : Arguments} {body : List Stmt} {scope : Scope} {f : Addr} {fd : FuncData} {N : List Str} {k : Nat}
    {A : Around} {outer : List Env} {s : Shared} {H : Hp} {us : List Value} {vs : List V} {Q : VK} {p : Addr × Obj} (F : FunD K x qual params body scope [] [] f fd) (S : FnScope N [n0] scope) (hr : L2H.RoomH (k + 1) A) (hpin : L2H.PinOk outer H s p)
    (e0 : Env0 P w K mg base A outer s H) (hb : BindsTo s fd ⟨us, []⟩ ([n0].zip us)) (r : Vals vs us) (hl : vs.length = 1)
    (hbody : ∀ cdv : Value, L2H.RoomH k (A.deeper (envOfC qual scope s.heap.objs.size f cdv)) → ∃ t, PSs (L2H.cxH C8.CX0 P w K mg base N qual scope f cdv A outer s H C8.E0 p) body t ∧ t { nx := fun _ H' => Q .non H', rt := Q } (L2.start N vs) H) :
    codeAny (model P w) A (.call (.ref f) ⟨us, []⟩) (CR C8.CX0 outer P w H s Q C8.E0) s := by
  obtain ⟨oc, od, dV, kV, doc, pm, an, cdv, ct, osl, rfl, lk, hcd, _, _⟩ := F.ex
  have KX : K.In s.heap := e0.mod.kin.keeps fun b o e => (e0.bs b o e).1
  have NL : s.heap.NoLimit := e0.mod.nolimit.keeps fun b o e => (e0.bs b o e).1
  have params_ : ∀ y ∈ [n0].zip us, scope.names.lookup y.1 = some .local ∨ (scope.names.lookup y.1 = some .cell ∧ ((cellsFrom (s.heap.objs.size + 1) scope.names []).lookup y.1).isSome = true) := by
    rintro ⟨n, v⟩ hy
    exact (S.par n (List.of_mem_zip hy).1).elim .inl fun q => .inr ⟨q, PySem.W.cellsFrom_some _ _ _ (.inl q)⟩
  refine codeAny_call_function hr.depth (KX _ _ lk) rfl S.co S.gen rfl (PySem.W.codeRec_of KX hcd) (hb _ _ _ _ (wpAny_newFunctionEnv_cells S.kind params_ fun env he s1 x1 => ?_))
  subst he
  obtain ⟨t, ht, hq⟩ := hbody cdv (hr.deeper _)
  have J : Inv (L2H.cxH C8.CX0 P w K mg base N qual scope f cdv A outer s H C8.E0 p) [] (L2.start N vs) H s1 := L2H.inv_startH S hpin e0 hl r x1
  refine ⟨NL.keeps x1.toInCall.keep, codeAny_func (wpAny_mono (ht.run [] s1 (L2.start N vs) H _ J hq) (fun fl s' hs => ?_) fun e s' hs => hs)⟩
  match fl, hs with
  | .ret u, ⟨v, σ', H', J', rv, q⟩ => exact ⟨v, H', J'.os, J'.bare, J'.base, J'.hok, rv, q⟩
  | .next, ⟨σ', H', J', q⟩ => exact ⟨V.non, H', J'.os, J'.bare, J'.base, J'.hok, rfl, q⟩
  | .brk, ⟨_, _, _, q⟩ => exact q.elim
  | .cont, ⟨_, _, _, q⟩ => exact q.elim

/-- the def x keeps F where it is called with the exception that is held -/
structure Hot (P : Program) (w : World) (K : PySem.W.Frag) (mg : Str → Option Value) (base : Heap) (T : Tb) (es : List Nat) (k : Nat) (x : Str) (F : FM) : Prop where
  ex : ∃ (f : Addr) (qual n0 : Str) (params : Arguments) (body : List Stmt) (scope : Scope) (fd : FuncData) (N : List Str) (m : SM), mg x = some (.ref f) ∧ FunD K x qual params body scope [] [] f fd ∧ FnScope N [n0] scope ∧ 1 ≤ N.length ∧ Binds K fd [n0] [] ∧ F = mFun (N.length - 1) m ∧
    ∀ (cdv : Value) (A : Around) (outer : List Env) (s : Shared) (H : Hp) (a : Addr) (c : Nat) (d : Option Addr) (oe : Obj) (vs : Array Value), c ∈ es → Zc (.ref (T.cls c)) d oe → oe.data = .fields vs → L2H.RoomH k (A.deeper (envOfC qual scope s.heap.objs.size f cdv)) →
      QSs (L2H.cxH C8.CX0 P w K mg base N qual scope f cdv A outer s H C8.E0 (a, oe)) (T.x (some (a, c, d))) (fun _ _ _ _ => False) body m
/-- what such a call is to give -/
def RHX (K : PySem.W.Frag) (T : Tb) (es : List Nat) (F : FM) (cls : Value) (d : Option Addr) : Hp → VK → Prop := fun H Q => ∃ cm Z c ds s s' r, c ∈ es ∧ Cells K T Z O0 cm H s ∧ ErrRep K T cm (GV cm Z O0 H) H cls d c ds ∧ F [.exc c ds] s = .ok r s' ∧ r.noX = true ∧ (∀ d ∈ s', d.noX = true) ∧
  ∀ v H' cm', Ext cm H cm' H' → Cells K T Z O0 cm' H' s' → Rep K T cm' (GV cm' Z O0 H') v r → Q v H'
section
variable {P : Program} {w : World} {K : PySem.W.Frag} {mg : Str → Option Value} {base : Heap} {T : Tb} {es : List Nat} {k : Nat} {x : Str} {F : FM}
theorem call_hot (hF : Hot P w K mg base T es k x F) (hT : T.xv = none) {A : Around} {outer : List Env} {s : Shared} {H : Hp} {Q : VK} {a : Addr} {oe : Obj} {vs : Array Value} {cls : Value} {d : Option Addr} (hr : L2H.RoomH (k + 1) A) (hpin : L2H.PinOk outer H s (a, oe))
    (e0 : Env0 P w K mg base A outer s H) (hz : Zc cls d oe) (hd : oe.data = .fields vs) (h : RHX K T es F cls d H Q) :
    ∃ f, mg x = some (.ref f) ∧ PySem.W.keepIn K (.ref f) = true ∧ codeAny (model P w) A (.call (.ref f) ⟨[.ref a], []⟩) (CR C8.CX0 outer P w H s Q C8.E0) s := by
  obtain ⟨f, qual, n0, params, body, scope, fd, N, m, hm, FD, S, hN, hb, rfl, hbody⟩ := hF.ex
  obtain ⟨cm, Z, c, ds, s0, s', r, hc, cl, ⟨rfl, er⟩, ev, n1, n2, q⟩ := h
  have KX : K.In s.heap := e0.mod.kin.keeps fun b o e => (e0.bs b o e).1
  have bt := hb s [.ref a] KX rfl
  rw [List.append_nil] at bt
  refine ⟨f, hm, FD.kp, run_hot (vs := [.ref a]) FD S hr hpin e0 bt (.cons rfl .nil) rfl fun cdv hr' => ⟨_, hbody cdv A outer s H a c d oe vs hc hz hd hr', ?_⟩⟩
  have rx : Rep K (T.x (some (a, c, d))) cm (GV cm Z O0 H) (.ref a) (.exc c ds) := by
    rcases er with ⟨rfl, rfl, _⟩ | ⟨dd, gs, rfl, h1, h2, h3⟩
    · exact .exc0 rfl
    · exact .exc1 (T := T.x (some (a, c, some dd))) rfl h1 h2 (Reps.xb hT _ _ h3)
  have R0 := Rel.start (N := N) (Cells.xb (o := some (a, c, d)) hT cl) (.cons rx .nil) hN
  refine ⟨offC cm H, Z, cm, _, s0, R0, ?_⟩
  show PostS _ _ _ _ _ _ (m (([.exc c ds] : List D).map .v ++ List.replicate (N.length - 1) .un) s0) _
  refine post_fn (T := T.x (some (a, c, d))) (K := K) (Q := Q) (E := fun _ _ _ => False) ?_
  rw [ev]
  refine fun v H' cm' ex c' z => q v H' cm' ex (c'.bx n2) (Rep.bx _ _ n1 z)
end
end Tv
namespace Tv
open PySem PySem.Spec PyProof.Rows L2
section
variable {K : PySem.W.Frag} {T : Tb} {cm : List Addr} {G : Hp}
mutual
theorem Rep.nox (hn : T.xv = none) : ∀ (d : D) (v : V), Rep K T cm G v d → d.noX = true
  | .non, _, _ => rfl
  | .bl b, _, _ => rfl
  | .int i, _, _ => rfl
  | .str x, _, _ => rfl
  | .tup ds, _, h => by
    cases h with
    | tup hs hr => exact Reps.nox hn ds _ hr
  | .lst ds, _, h => by
    cases h with
    | lst hs hr => exact Reps.nox hn ds _ hr
  | .frz ds, _, h => by
    cases h with
    | frz hs hr => exact Reps.nox hn ds _ hr
  | .ins c ds, _, h => by
    cases h with
    | ins ha hm hr => exact Reps.nox hn ds _ hr
  | .cell n, _, _ => rfl
  | .fn n, _, _ => rfl
  | .dic ks ds, _, h => by
    cases h with
    | dic ha hr => exact Reps.nox hn ds _ hr
  | .exc _ _, _, h => by
    cases h with
    | exc0 e => rw [hn] at e; cases e
    | exc1 e ha hm hr => rw [hn] at e; cases e
  | .lam _, _, _ => rfl
  | .sf _ _, _, h => by cases h
  | .tab _, _, h => by cases h
theorem Reps.nox (hn : T.xv = none) : ∀ (ds : List D) (vs : List V), Reps K T cm G vs ds → D.noX.nos ds = true
  | [], _, _ => rfl
  | d :: ds, _, h => by
    cases h with
    | cons h1 h2 => exact Bool.and_eq_true_iff.mpr ⟨Rep.nox hn d _ h1, Reps.nox hn ds _ h2⟩
end
theorem OwnRep.nox {H : Hp} {a : Addr} {d : D} (hn : T.xv = none) (h : OwnRep K T cm G H a d) : d.noX = true := by
  cases d with
  | lst ds =>
    obtain ⟨xs, h1, h2⟩ := h
    exact Reps.nox hn _ _ h2
  | ins c ds =>
    obtain ⟨dx, fs, h1, h2, h3⟩ := h
    exact Reps.nox hn _ _ h3
  | sf c ds =>
    obtain ⟨h0, dx, fs, h1, h2, h3⟩ := h
    exact Reps.nox hn _ _ h3
  | tab n => rfl
  | _ => exact h.elim
theorem Cells.nox {Z O : Addr → Prop} {H : Hp} {s : S} (hn : T.xv = none) (c : Cells K T Z O cm H s) : ∀ d ∈ s, d.noX = true := fun d hd => by
  obtain ⟨i, hi⟩ := List.mem_iff_getElem?.mp hd
  have hl : i < cm.length := by rw [c.len]; exact (List.getElem?_eq_some_iff.mp hi).1
  exact (c.at_ i _ d (List.getElem?_eq_getElem hl) hi).nox hn
/-- a frame's state as a caller's: what is owned is hidden -/
theorem FRel.toCells {F : Fm} {H : Hp} {s : S} (r : FRel K T F cm H s) : Cells K T (fun a => F.Z a ∨ F.O a) O0 cm H s :=
  ⟨r.cells.len, r.cells.nd, fun n a d e1 e2 => by rw [eG_zo]; exact r.cells.at_ n a d e1 e2, r.cells.there, fun a z => r.hidden (.inr z), r.cells.nosf⟩
theorem FRel.ofCells {F : Fm} {H H' : Hp} {cm' : List Addr} {s s' : S} (r : FRel K T F cm H s) (ex : Ext cm H cm' H') (c : Cells K T (fun a => F.Z a ∨ F.O a) O0 cm' H' s') : FRel K T F cm' H' s' :=
  Rel.ext r ex ⟨c.len, c.nd, fun n a d e1 e2 => by have := c.at_ n a d e1 e2; rw [eG_zo] at this; exact this, c.there, fun a z => c.zok a (.inl z), c.nosf⟩
end
end Tv

/-! Tx6: a lambda is made; _law_told(lambda: e) -/
namespace Tv
open PySem PySem.Spec PyProof.Rows L2 LamX

/-- the table at P has grown by the code object at c', or held it -/
inductive TabUp (P : Addr) (q : Str) (H : Hp) (c' : Addr) : Hp → Prop
  | hit {ps : Array Value} {pos : Pos} : H P = some (.tbl ps) → codeAmong pos ps.toList = some (.ref c') → H c' = some (CodeO c' q) → TabUp P q H c' H
  | new {ps more : Array Value} : H P = some (.tbl ps) → H c' = none → TriplesOk (ps ++ more).toList → (∀ (pos : Pos) (cv : Value), codeAmong pos (ps ++ more).toList = some cv → codeAmong pos ps.toList = some cv ∨ cv = .ref c') → TabUp P q H c' (upd (upd H P (.tbl (ps ++ more))) c' (CodeO c' q))
section
variable {X : Cx} {pins : List (Addr × Obj)} {σ : L2.St} {H : Hp} {s : Shared}
theorem lam_make3 {c P : Addr} {params : Arguments} {body : Expr} {scope : Scope} {pos : Pos} {E : Value → Shared → Prop} {Q : Value → Shared → Prop} (I : Inv X pins σ H s) (TB : TabB X.base X.mg c P) (hcode : X.env.code = .ref c)
    (hT : TabS H P (X.env.qual ++ "<lambda>")) (hdef : defaultsOf params X.env = ([], [])) (hfree : ∀ y ∈ scope.names, y.2 = .free → ∃ c, X.env.cells.lookup y.1 = some c)
    (h : ∀ (f c' : Addr) (pm ctv : Value) (H1 : Hp) (s' : Shared), Inv X pins σ H1 s' → TabUp P (X.env.qual ++ "<lambda>") H c' H1 →
      s'.heap.get? f = some (PySem.W.kla_obj "<lambda>" (X.env.qual ++ "<lambda>") params body scope (cloFrom X.env.cells scope.names []) pm c' ctv) → H1 f = none → f ∉ frs X.stack → H1 c' = some (CodeO c' (X.env.qual ++ "<lambda>")) → Q (.ref f) s') :
    wpAny (model X.prog X.w) X.A (eval (.Lambda params body scope pos) X.env) Q E s := by
  obtain ⟨ps, hP, tri, known⟩ := hT
  have nofr : ∀ f, s.heap.objs.size ≤ f → f ∉ frs X.stack := fun f hf z => by
    rcases List.mem_cons.mp (I.stkSub _ z) with e | e
    · exact absurd (I.lt) (by rw [← e]; exact Nat.not_lt_of_le hf)
    · exact I.nofs hf e
  have bP := TB.bm.keeps I.bk
  have gP : s.heap.get? P = some { cls := .none, data := .fields ps } := I.hok P _ hP
  refine PySem.W.kla_eval hdef ?_
  cases hc : codeAmong pos ps.toList with
  | some cv =>
    obtain ⟨c', rfl, hco⟩ := known pos cv hc
    refine PySem.W.kla_makeFunctionHit (closure_ok hfree) I.ok.glob (I.mod.glob.keeps I.bk) hcode (TB.code.keeps I.bk) gP tri hc bP fun ctv h' tk hx hsz => ?_
    exact h h'.objs.size c' ((X.mg "__name__").getD .none) ctv H _ (I.kept fun b o e => Heap.get?_push_of_some _ (hx b o e)) (.hit hP hc hco) (Heap.get?_push_size _ rfl) (I.hok.fresh hsz) (nofr _ hsz) hco
  | none =>
    refine PySem.W.kla_makeFunction (closure_ok hfree) I.ok.glob (I.mod.glob.keeps I.bk) hcode (TB.code.keeps I.bk) gP tri hc TB.gP bP fun c' ctv h' tk hx hge hlt hrec htb => ?_
    obtain ⟨c2, oc, vs, t, e2, hoc, hd, hv⟩ := hrec
    obtain rfl : c' = c2 := Value.ref.inj e2
    have nC : H c' = none := I.hok.fresh hge
    have sz : s.heap.objs.size ≤ h'.objs.size := Nat.le_trans hge (Nat.le_of_lt hlt)
    have J := inv_table (t' := tk) (more := #[rawInt pos.line, rawInt pos.col, .ref c']) (h' := h'.push (PySem.W.kla_obj "<lambda>" (X.env.qual ++ "<lambda>") params body scope (cloFrom X.env.cells scope.names []) ((X.mg "__name__").getD .none) c' ctv)) I hP
      (fun b o hb e => Heap.get?_push_of_some _ (hx b o hb e)) (Heap.get?_push_of_some _ htb) hge ⟨oc, vs, t, Heap.get?_push_of_some _ hoc, hd, hv⟩
    have toL : (ps ++ #[rawInt pos.line, rawInt pos.col, .ref c']).toList = ps.toList ++ [rawInt pos.line, rawInt pos.col, .ref c'] := by simp
    have nP : P ≠ c' := ne_of_none hP nC
    refine h h'.objs.size c' ((X.mg "__name__").getD .none) ctv _ _ J (.new hP nC (by rw [toL]; exact PySem.TriplesOk_snoc _ _ _ _ tri) fun p' cv hcv => by rw [toL] at hcv; exact among_app _ tri hcv) (Heap.get?_push_size _ rfl) ?_ (nofr _ sz) upd_same
    · rw [upd_ne (Nat.ne_of_gt hlt), upd_ne (Nat.ne_of_gt (Nat.lt_of_lt_of_le (Heap.lt_size gP) sz))]
      exact I.hok.fresh sz
end
section
variable {K : PySem.W.Frag} {T : Tb} {B : Hp} {Z : Addr → Prop} {cm : List Addr} {σ : L2.St} {H H1 : Hp} {ρ : List SD} {s : S} {kk n : Nat} {q : Str} {c' : Addr}
theorem OwnRep.tabS {G H : Hp} {a : Addr} (h : OwnRep K T cm G H a (.tab n)) (hs : Sub G H) : a = T.ta n ∧ TabS H a (T.tq n) := by
  obtain ⟨e, ps, h1, h2, h3⟩ := h
  refine ⟨e, ps, h1, h2, fun pos cv hc => ?_⟩
  obtain ⟨c, k1, k2⟩ := h3 pos cv hc
  exact ⟨c, k1, hs _ _ k2⟩
theorem Rel.tab (r : Rel K T B Z cm σ H ρ s) (h : s[kk]? = some (.tab n)) : cm[kk]? = some (T.ta n) ∧ TabS H (T.ta n) (T.tq n) := by
  have hk : kk < cm.length := by rw [r.cells.len]; exact (List.getElem?_eq_some_iff.mp h).1
  have e := List.getElem?_eq_getElem hk
  obtain ⟨e1, e2⟩ := (r.cells.at_ kk _ _ e h).tabS Sub.hidH
  rw [e1] at e e2
  exact ⟨e, e2⟩
theorem Rel.tabUp (r : Rel K T B Z cm σ H ρ s) (h : s[kk]? = some (.tab n)) (u : TabUp (T.ta n) (T.tq n) H c' H1) : Ext cm H cm H1 ∧ Rel K T B Z cm σ H1 ρ s := by
  obtain ⟨hc, _⟩ := r.tab h
  cases u with
  | hit _ _ _ => exact ⟨.refl _ _, r⟩
  | @new ps more hP nC g2 g3 =>
    have nP : T.ta n ≠ c' := ne_of_none hP nC
    have r1 : Rel K T B Z cm σ (upd H c' (CodeO c' (T.tq n))) ρ s := FRel.grow (F := ⟨B, Z, σ, ρ⟩) r (sub_upd nC)
    have eU : upd (upd H (T.ta n) (.tbl (ps ++ more))) c' (CodeO c' (T.tq n)) = upd (upd H c' (CodeO c' (T.tq n))) (T.ta n) (.tbl (ps ++ more)) := by
      funext b
      by_cases h1 : b = c'
      · rw [h1, upd_same, upd_ne (Ne.symm nP), upd_same]
      · by_cases h2 : b = T.ta n
        · rw [h2, upd_ne nP, upd_same, upd_same]
        · rw [upd_ne h1, upd_ne h2, upd_ne h2, upd_ne h1]
    have own0 : OwnRep K T cm (GV cm Z (Ow σ ρ) (upd H c' (CodeO c' (T.tq n)))) (upd H c' (CodeO c' (T.tq n))) (T.ta n) (.tab n) := r1.cells.at_ kk _ _ hc h
    obtain ⟨_, ps0, e0, t0, k0⟩ := own0
    have ep : ps0 = ps := by
      rw [upd_ne nP, hP] at e0
      cases e0
      rfl
    subst ep
    have vis : GV cm Z (Ow σ ρ) (upd H c' (CodeO c' (T.tq n))) c' = some (CodeO c' (T.tq n)) := vis_new (F := ⟨B, Z, σ, ρ⟩) r nC
    have own1 : OwnRep K T cm (GV cm Z (Ow σ ρ) (upd H c' (CodeO c' (T.tq n)))) (upd (upd H c' (CodeO c' (T.tq n))) (T.ta n) (.tbl (ps0 ++ more))) (T.ta n) (.tab n) := by
      refine ⟨rfl, _, upd_same, g2, fun pos cv hcv => ?_⟩
      rcases g3 pos cv hcv with z | z
      · exact k0 pos cv z
      · exact ⟨c', z, vis⟩
    have r2 := r1.mutCell hc own1
    have es : s.set kk (.tab n) = s := by
      refine List.ext_getElem? fun i => ?_
      rw [List.getElem?_set]
      split
      · rename_i e
        subst e
        split
        · exact h.symm
        · rename_i hl
          rw [List.getElem?_eq_none (by omega)]
      · rfl
    rw [es, ← eU] at r2
    refine ⟨⟨.refl _, fun a o e na => ⟨?_, na⟩, fun a e => ?_⟩, r2⟩
    · rw [upd_ne (ne_of_none e nC), upd_ne (fun z => na (by rw [z]; exact List.mem_of_getElem? hc))]
      exact e
    · by_cases h1 : a = c'
      · rw [h1, upd_same]; intro z; cases z
      · by_cases h2 : a = T.ta n
        · rw [h2, upd_ne nP, upd_same]; intro z; cases z
        · rw [upd_ne h1, upd_ne h2]; exact e
end
end Tv

/-! Tx7: told(lambda: e): what e gives, or the refusal -/
namespace Tv
open PySem PySem.Spec PyProof.Rows L2 LamX

def tellBody (to te tr : Str) (j : Nat) (p1 p2 p3 p4 p5 p6 p7 p8 p9 p10 p11 p12 : Pos) (x1 : Nat) : List Stmt :=
  [.Try [.Return (some (.Tuple [.Constant (.str "told") j p1, .Call (.Name to p2) [] [] p3] x1 p4)) p5] [.ExceptHandler (some (.Name te p6)) (some "e") [.Return (some (.Call (.Name tr p7) [.Name "e" p8] [] p9)) p10] p11] [] [] p12]
/-- told: the def that calls what it got; refuse: the def that it calls with the exception; base: the class that it catches -/
structure Tell (P : Program) (w : World) (K : PySem.W.Frag) (mg : Str → Option Value) (base : Heap) (T : Tb) (es : List Nat) (nm : Nat → Str) (k : Nat) (x to te tr : Str) : Prop where
  ex : ∃ (g : Addr) (qual : Str) (params : Arguments) (sg : Scope) (fd : FuncData) (j : Nat) (p1 p2 p3 p4 p5 p6 p7 p8 p9 p10 p11 p12 : Pos) (x1 : Nat), mg x = some (.ref g) ∧ FunD K x qual params (tellBody to te tr j p1 p2 p3 p4 p5 p6 p7 p8 p9 p10 p11 p12 x1) sg [] [] g fd ∧ FnScope [to, "e"] [to] sg ∧ Binds K fd [to] [] ∧
    sg.names.lookup te = some .globalImplicit ∧ sg.names.lookup tr = some .globalImplicit ∧ sg.names.lookup to = some .local ∧ sg.names.lookup ("e" : Str) = some .local
  hot : ∃ F, Hot P w K mg base T es k tr F ∧ ∀ c ds s, c ∈ es → ds.length = (T.fl c).length → F [.exc c ds] s = .ok (.tup (.str (nm c) :: ds)) s
  bs : ∃ C, mg te = some (.ref C) ∧ ∀ c ∈ es, PySem.W.exmOne K (.ref (T.cls c)) (.ref C) = some true
  dt : (to == ("__debug__" : Str)) = false
  ct : (to == ("__classdict__" : Str)) = false
  de : (te == ("__debug__" : Str)) = false
  dr : (tr == ("__debug__" : Str)) = false
def mTold (es : List Nat) (nm : Nat → Str) (kk n : Nat) (m : EM) : EM := fun ρ s => match s[kk]? with
  | some (.tab n') => if n' = n then (match m ρ s with
    | .ok d s1 => .ok (.tup [.str "told", d]) s1
    | .er c ds s1 => if c ∈ es then .ok (.tup (.str (nm c) :: ds)) s1 else .no
    | .no => .no) else .no
  | _ => .no
section
variable {X : Cx} {T : Tb} {W : WX} {es : List Nat} {nm : Nat → Str}
/-- refuse(e) in the suite -/
theorem pe_hot {F : FM} {k i : Nat} {x n : Str} {a : Addr} {oe : Obj} {vs : Array Value} {cls : Value} {d : Option Addr} {p1 p2 p3 : Pos} (hF : Hot X.prog X.w X.K X.mg X.base T es k x F) (hT : T.xv = none) (hr : L2H.RoomH (k + 1) X.A) (hp : (a, oe) ∈ X.pn) (hz : Zc cls d oe) (hd : oe.data = .fields vs)
    (hg : Gl X x) (hdb : (x == ("__debug__" : Str)) = false) (hN : X.N[i]? = some n) (hv : Vis X.env.scope n) (hdn : (n == ("__debug__" : Str)) = false) (hcn : (n == ("__classdict__" : Str)) = false)
    (he : starEach [.Name n p2] X.env = (false, eval (.Name n p2) X.env) :: starEach [] X.env := by rfl) (hpl : (backTo p3 (starEach [] X.env)).any (·.1) = false := by rfl) :
    PE X (.Call (.Name x p1) [.Name n p2] [] p3) (fun σ H Q => (σ.length = X.N.length → σ[i]? = some (some (.ref a))) ∧ RHX X.K T es F cls d H Q) := by
  refine ⟨fun pins s σ H Q I h => ?_⟩
  obtain ⟨hs, hq⟩ := h
  have hs := hs I.len
  have P1 := I.pin (a, oe) (List.mem_append_left _ hp)
  obtain ⟨f, qual, n0, params, body, scope, fd, N, m, hm, FD, _⟩ := id hF.ex
  refine wpAny_Call_Name_kw (ld_glob I hg hm ?_ hdb)
  refine PySem.W.callWith_K (h₀ := X.base) I.ok.mod.kin FD.kp (thn ((pa_cons (pe_var (pos := p2) (i := i) hN hv hdn hcn) pa_nil he).run p3 pins s σ H (fun us H1 => us = [.ref a] ∧ H1 = H) I ⟨_, hs, rfl, rfl⟩) fun us s1 ⟨vs1, H1, I1, r1, q1⟩ => ⟨I1.kIn, ?_⟩) he hpl
  obtain ⟨rfl, rfl⟩ := q1
  cases r1 with
  | cons r0 rn =>
    cases rn
    cases r0
    have Q1 := I1.pin (a, oe) (List.mem_append_left _ hp)
    have hpin : L2H.PinOk X.stack H1 s1 (a, oe) := ⟨Q1.1, Q1.2.1, fun hm => (List.mem_cons.mp (I1.stkSub a hm)).elim Q1.2.2.1 Q1.2.2.2.1, Q1.2.2.2.2⟩
    obtain ⟨f', hm', _, rc⟩ := call_hot hF hT hr hpin I1.env0 hz hd hq
    rw [hm] at hm'
    cases hm'
    refine wpAny_call (codeAny_mono rc fun r s' hq => ?_)
    match r, hq with
    | .error e, hq => exact (show False from hq).elim
    | .ok (.ret u), hq => exact I1.after hq
    | .ok .next, hq => exact (show False from hq).elim
    | .ok .brk, hq => exact (show False from hq).elim
    | .ok .cont, hq => exact (show False from hq).elim
theorem q_told {k kk n : Nat} {x to te tr : Str} {cc : Addr} {m : EM} {params : Arguments} {body : Expr} {scope : Scope} {p lpos pos : Pos} (TL : Tell X.prog X.w X.K X.mg X.base T es nm k x to te tr) (hT : T.xv = none) (TB : TabB X.base X.mg cc (T.ta n)) (hcode : X.env.code = .ref cc) (hq : T.tq n = X.env.qual ++ "<lambda>")
    {j : Nat} (hr : Room j X.A) (hj : k + 3 ≤ j) (L : LamS X.env.scope scope) (hdef : defaultsOf params X.env = ([], []))
    (hbind : ∀ (q : Str) (cl : List (Str × Addr)) (pm cv ctv : Value), bindArgs (PySem.W.kla_fn "<lambda>" q params body scope cl pm cv ctv) ⟨[], []⟩ = pure [])
    (hbody : ∀ (A : Around) (outer : List Env) (s : Shared) (H : Hp) (E : XK) (f c' : Addr), Room (j - 2) (A.deeper (lamEnv X scope s.heap.objs.size f c')) → QE (lamCx X A outer s H E scope f c') T (fun cls d _ H => E cls d H) body m)
    (hg : Gl X x := by rfl) (hdb : (x == ("__debug__" : Str)) = false := by decide) : QE X T W (.Call (.Name x p) [.Lambda params body scope lpos] [] pos) (mTold es nm kk n m) := by
  refine ⟨fun pins s σ H Q I h => ?_⟩
  obtain ⟨B, Z, cm, ρ, s0, r, ps⟩ := h
  unfold mTold at ps
  split at ps
  · rename_i n' hk
    split at ps
    · rename_i en
      subst en
      obtain ⟨hc, hTab⟩ := r.tab hk
      obtain ⟨g, qual, pg, sg, fd, jj, p1, p2, p3, p4, p5, p6, p7, p8, p9, p10, p11, p12, x1, hm, FD, Sg, hb, ge, gr, lo, le⟩ := TL.ex
      obtain ⟨F, hF, hFv⟩ := TL.hot
      obtain ⟨C, hC, hex⟩ := TL.bs
      refine wpAny_Call_Name_kw (ld_glob I hg hm ?_ hdb)
      refine PySem.W.callWith_K (h₀ := X.base) I.ok.mod.kin FD.kp ?_ (by rfl) (by rfl)
      show wpAny _ _ (spliced ((false, eval (.Lambda params body scope lpos) X.env) :: backTo pos (starEach [] X.env))) _ _ s
      refine Calls.spliced_cons (lam_make3 I TB hcode (by rw [← hq]; exact hTab) hdef (L.has I.ok) fun f c' pm' ctv H1 s' I1 up hf hfn hfr hco => ?_)
      refine Calls.spliced_nil ⟨I1.kIn, ?_⟩
      rw [← hq] at up hco
      obtain ⟨ex1, r1⟩ := r.tabUp hk up
      have rc : codeAny (model X.prog X.w) X.A (.call (.ref g) ⟨[.ref f], []⟩) (CR C8.CX0 X.stack X.prog X.w H1 s' Q C8.E0) s' := by
        obtain ⟨oc, od, dV, kV, doc, pm, an, cdv, ct, osl, rfl, lk, hcd, _, _⟩ := FD.ex
        obtain ⟨j', rfl⟩ : ∃ j', j = j' + 2 := ⟨j - 2, by omega⟩
        have hb1 := hb s' [.ref f] I1.kIn rfl
        rw [List.append_nil] at hb1
        refine run_ofS (N := [to, "e"]) (ps := [to]) (us := [.ref f]) (vs := [.ref f]) lk hcd Sg hr I1.env0 hb1 (.cons rfl .nil) rfl fun hr' => ?_
        refine ⟨_, PSs.nox (pss_one (ps_try_as (X := (cxOf C8.CX0 X.prog X.w X.K X.mg X.base [to, "e"] qual sg g cdv X.A X.stack s' H1 C8.E0).nox) (x := te) (n := "e") (c := .ref C) (i := 1)
          (tb := fun W D σZ HZ => ∃ Ech : XK, (∀ cls d σ' H', Ech cls d H' → W cls d σ' H') ∧ σZ[0]? = some (some (.ref f)) ∧ HZ c' = some (CodeO c' (T.tq n')) ∧ tP X.K T (fun cls d _ H => Ech cls d H) (AR X.K T) m σ HZ fun v H' => ∀ p, H' p = none → D.rt (.ref p) (upd H' p (.tup [.str "told", v])))
          (ts := fun a cls d D σZ HZ => (σZ.length = 2 → σZ[1]? = some (some (.ref a))) ∧ RHX X.K T es F cls d HZ D.rt)
          rfl rfl Sg.nd rfl le ⟨ge, TL.de, .inl hC⟩ LamX.takes0 (fun W pn xe tk _ => ?_) (fun a oe cls d pn hz hd => ?_))), ?_⟩
        · -- the body
          refine ⟨fun pins s2 σZ HZ D I2 h2 => ?_⟩
          obtain ⟨Ech, hW, h0, h1, h3⟩ := h2
          have hp := pe_act (tb := tP X.K T (fun cls d _ H => Ech cls d H) (AR X.K T) m) (Eg := C8.E0) (CXg := C8.CX0) (Ng := [to, "e"]) (qg := qual) (sg := sg) (g := g) (cdg := cdv) (k := j') (i := 0) (a := to) (p1 := p2) (p2 := p3) I1 L hf hfn hfr (hbind _ _ _ _ _) tk hW hr' (fun A outer s H hr2 => hbody A outer s H Ech f c' (by simpa using hr2)) rfl (.inl lo) TL.dt TL.ct
          rw [← hq] at hp
          refine (pss_one (ps_ret (pos := p5) (pe_tup (pos := p4) (x1 := x1) (pa_cons (pe_str (x := "told") (j := jj) (pos := p1)) (pa_cons hp pa_nil rfl) rfl)))).run pins s2 σZ HZ D I2 ?_
          refine ⟨h0, h1, ?_⟩
          obtain ⟨B', Z', cm', ρ', s0', r', pp⟩ := h3
          refine ⟨B', Z', cm', ρ', s0', r', pp.mono fun v H' hv => ⟨by show 2 ≤ sizeLine; rw [sizeLine_eq]; omega, hv⟩⟩
        · -- the suite
          obtain ⟨vs, hd⟩ := hd
          have hrH : L2H.RoomH (k + 1) (((cxOf C8.CX0 X.prog X.w X.K X.mg X.base [to, "e"] qual sg g cdv X.A X.stack s' H1 C8.E0).nox.suite a ((a, oe) :: pn)).A) := by
            have h1 := hr'.dp
            have h2 := hr'.un
            refine ⟨?_, ?_⟩
            · show (X.A.deeper (envOfC qual sg s'.heap.objs.size g cdv)).depth + 3 * (k + 1) + 5 < recursionLimit
              omega
            · show (X.A.deeper (envOfC qual sg s'.heap.objs.size g cdv)).units + 16 * (k + 1) + 200 < cLine
              omega
          exact pss_one (ps_ret (pos := p10) (pe_hot (X := (cxOf C8.CX0 X.prog X.w X.K X.mg X.base [to, "e"] qual sg g cdv X.A X.stack s' H1 C8.E0).nox.suite a ((a, oe) :: pn)) (n := "e") (i := 1) (p1 := p7) (p2 := p8) (p3 := p9) hF hT hrH List.mem_cons_self hz hd gr TL.dr rfl (.inl le) (by decide) (by decide) rfl rfl))
        · -- what is wanted
          refine ⟨fun cls d H' => ∃ b, PySem.W.exmOne X.K cls (.ref C) = some b ∧ (b = true → RHX X.K T es F cls d H' Q) ∧ (b = false → False), fun cls d σ' H' ⟨b, e1, e2, e3⟩ => ⟨b, e1, fun hb a na => ⟨fun hl => ?_, e2 hb⟩, fun hb => e3 hb⟩, rfl, hco, ⟨B, Z, cm, ρ, s0, r1, ?_⟩⟩
          · rw [List.length_set] at hl
            rw [List.getElem?_set_self (by omega)]
          · cases hm0 : m ρ s0 with
            | ok d s1 =>
              rw [hm0] at ps
              refine fun v H' cm' ex r' z p hp => ?_
              exact ps (.ref p) _ cm' (ex1.trans (ex.trans (Ext.grow (sub_upd hp)))) (r'.grow (sub_upd hp)) (rep_tup r' hp (.cons (.str _) (.cons z .nil)))
            | er c ds s1 =>
              rw [hm0] at ps
              dsimp only at ps
              split at ps
              · rename_i hces
                refine fun cls dx H' cm' ex r' z => ⟨true, by rw [z.1]; exact hex c hces, fun _ => ?_, fun e => by cases e⟩
                have hl : ds.length = (T.fl c).length := by
                  rcases z.2 with ⟨e1, _, e2⟩ | ⟨dd, gs, _, _, e1, e2⟩
                  · rw [e1, e2]
                    rfl
                  · rw [← e1, ← e2.len, List.length_map, List.length_map]
                have nd : D.noX.nos ds = true := by
                  rcases z.2 with ⟨e1, _, e2⟩ | ⟨dd, gs, _, _, e1, e2⟩
                  · rw [e1]; rfl
                  · exact Reps.nox hT _ _ e2
                have hfl : ∀ {a b : R D}, a = b → True := fun _ => trivial
                refine ⟨cm', fun a => Z a ∨ Ow σ ρ a, c, ds, s1, s1, _, hces, FRel.toCells (F := ⟨B, Z, σ, ρ⟩) r', by rw [eG_zo]; exact z, hFv c ds s1 hces hl, nd, r'.cells.nox hT, fun v H2 cm2 ex2 c2 z2 => ?_⟩
                exact ps v H2 cm2 (ex1.trans (ex.trans ex2)) (FRel.ofCells (F := ⟨B, Z, σ, ρ⟩) r' ex2 c2) (by rw [eG_zo] at z2; exact z2)
              · exact ps.elim
            | no => rw [hm0] at ps; exact ps.elim
      refine wpAny_call (codeAny_mono rc fun r s2 hq => ?_)
      match r, hq with
      | .error e, hq => exact (show False from hq).elim
      | .ok (.ret u), hq => exact I1.after hq
      | .ok .next, hq => exact (show False from hq).elim
      | .ok .brk, hq => exact (show False from hq).elim
      | .ok .cont, hq => exact (show False from hq).elim
    · exact ps.elim
  · exact ps.elim
end
end Tv

/-! Tx8: a lambda with parameters, nothing captured, as a value; its call -/
namespace Tv
open PySem PySem.Spec PyProof.Rows L2 LamX

/-- the lambda at f, its code object at c -/
def LamH (q : Str) (params : Arguments) (body : Expr) (scope : Scope) (f c : Addr) : HO := .ext fun h => ∃ pm ctv : Value, h.get? f = some (PySem.W.kla_obj "<lambda>" q params body scope [] pm c ctv)
theorem lamH_ok {P : Program} {w : World} {H : Hp} {h : Heap} {q : Str} {params : Arguments} {body : Expr} {scope : Scope} {f c : Addr} {pm ctv : Value} (e : h.get? f = some (PySem.W.kla_obj "<lambda>" q params body scope [] pm c ctv)) : ObjOk P w H h f (LamH q params body scope f c) :=
  ⟨⟨pm, ctv, e⟩, ⟨_, e⟩, fun _ _ ⟨pm, ctv, z⟩ k => ⟨pm, ctv, k _ z⟩⟩
theorem lamH_at {P : Program} {w : World} {H : Hp} {h : Heap} {q : Str} {params : Arguments} {body : Expr} {scope : Scope} {f c : Addr} (hok : HOk P w H h) (e : H f = some (LamH q params body scope f c)) : ∃ pm ctv : Value, h.get? f = some (PySem.W.kla_obj "<lambda>" q params body scope [] pm c ctv) := by
  have z : ObjOk P w H h f (.ext fun h => ∃ pm ctv : Value, h.get? f = some (PySem.W.kla_obj "<lambda>" q params body scope [] pm c ctv)) := hok f _ e
  exact z.1
section
variable {X : Cx} {pins : List (Addr × Obj)} {σ : L2.St} {H : Hp} {s : Shared}
theorem lam_make4 {c P : Addr} {params : Arguments} {body : Expr} {scope : Scope} {pos : Pos} {E : Value → Shared → Prop} {Q : Value → Shared → Prop} (I : Inv X pins σ H s) (TB : TabB X.base X.mg c P) (hcode : X.env.code = .ref c)
    (hT : TabS H P (X.env.qual ++ "<lambda>")) (hdef : defaultsOf params X.env = ([], [])) (hfree : ∀ y ∈ scope.names, y.2 = .free → ∃ c, X.env.cells.lookup y.1 = some c) (hcl : cloFrom X.env.cells scope.names [] = [])
    (h : ∀ (f c' : Addr) (H1 : Hp) (s' : Shared), TabUp P (X.env.qual ++ "<lambda>") H c' H1 → H1 f = none → Inv X pins σ (upd H1 f (LamH (X.env.qual ++ "<lambda>") params body scope f c')) s' → Q (.ref f) s') :
    wpAny (model X.prog X.w) X.A (eval (.Lambda params body scope pos) X.env) Q E s := by
  obtain ⟨ps, hP, tri, known⟩ := hT
  have bP := TB.bm.keeps I.bk
  have gP : s.heap.get? P = some { cls := .none, data := .fields ps } := I.hok P _ hP
  refine PySem.W.kla_eval hdef ?_
  cases hc : codeAmong pos ps.toList with
  | some cv =>
    obtain ⟨c', rfl, hco⟩ := known pos cv hc
    refine PySem.W.kla_makeFunctionHit (closure_ok hfree) I.ok.glob (I.mod.glob.keeps I.bk) hcode (TB.code.keeps I.bk) gP tri hc bP fun ctv h' tk hx hsz => ?_
    rw [hcl]
    have J : Inv X pins σ H { s with heap := h', toks := tk } := I.kept (t' := tk) hx
    refine h h'.objs.size c' H _ (.hit hP hc hco) (J.hok.fresh (Nat.le_refl _)) (J.laid (t' := tk) (fun b o e => Heap.get?_push_of_some _ e) (Nat.le_refl _) (lamH_ok (pm := (X.mg "__name__").getD .none) (ctv := ctv) (Heap.get?_push_size _ rfl)))
  | none =>
    refine PySem.W.kla_makeFunction (closure_ok hfree) I.ok.glob (I.mod.glob.keeps I.bk) hcode (TB.code.keeps I.bk) gP tri hc TB.gP bP fun c' ctv h' tk hx hge hlt hrec htb => ?_
    rw [hcl]
    obtain ⟨c2, oc, vs, t, e2, hoc, hd, hv⟩ := hrec
    obtain rfl : c' = c2 := Value.ref.inj e2
    have nC : H c' = none := I.hok.fresh hge
    have toL : (ps ++ #[rawInt pos.line, rawInt pos.col, .ref c']).toList = ps.toList ++ [rawInt pos.line, rawInt pos.col, .ref c'] := by simp
    have J := inv_table (t' := tk) (more := #[rawInt pos.line, rawInt pos.col, .ref c']) (h' := h') I hP hx htb hge ⟨oc, vs, t, hoc, hd, hv⟩
    have nf := J.hok.fresh (Nat.le_refl h'.objs.size)
    exact h h'.objs.size c' _ _ (.new hP nC (by rw [toL]; exact PySem.TriplesOk_snoc _ _ _ _ tri) fun p' cv hcv => by rw [toL] at hcv; exact among_app _ tri hcv) nf
      (J.laid (t' := tk) (fun b o e => Heap.get?_push_of_some _ e) (Nat.le_refl _) (lamH_ok (pm := (X.mg "__name__").getD .none) (ctv := ctv) (Heap.get?_push_size _ rfl)))
end
section
variable {K : PySem.W.Frag} {T : Tb} {B : Hp} {Z : Addr → Prop} {cm : List Addr} {σ : L2.St} {H H1 : Hp} {ρ : List SD} {s : S} {kk n : Nat} {c' : Addr}
theorem Rel.tabCode (r : Rel K T B Z cm σ H ρ s) (h : s[kk]? = some (.tab n)) (u : TabUp (T.ta n) (T.tq n) H c' H1) : GV cm Z (Ow σ ρ) H1 c' = some (CodeO c' (T.tq n)) := by
  obtain ⟨hc, _⟩ := r.tab h
  cases u with
  | @hit ps pos hP hcv hco =>
    obtain ⟨_, ps0, e0, t0, k0⟩ := r.cells.at_ kk _ _ hc h
    have e0 : H (T.ta n) = some (.tbl ps0) := e0
    rw [hP] at e0
    cases e0
    obtain ⟨c2, e1, e2⟩ := k0 pos _ hcv
    cases e1
    exact e2
  | @new ps more hP nC g2 g3 =>
    refine hid_some.mpr ⟨fun z => ?_, upd_same⟩
    exact r.hidden z nC
end
def mLamV (kk n l : Nat) : EM := fun _ s => match s[kk]? with
  | some (.tab n') => if n' = n then .ok (.lam l) s else .no
  | _ => .no
section
variable {X : Cx} {T : Tb} {W : WX}
theorem q_lamV {kk n l : Nat} {cc : Addr} {params : Arguments} {body : Expr} {scope : Scope} {lpos : Pos} (TB : TabB X.base X.mg cc (T.ta n)) (hcode : X.env.code = .ref cc) (hq : T.tq n = X.env.qual ++ "<lambda>") (hl : T.lo l = LamH (T.tq n) params body scope) (hlq : T.lq l = T.tq n)
    (hnf : ∀ y ∈ scope.names, y.2 ≠ .free) (hcl : cloFrom X.env.cells scope.names [] = []) (hdef : defaultsOf params X.env = ([], [])) : QE X T W (.Lambda params body scope lpos) (mLamV kk n l) := by
  refine ⟨fun pins s σ H Q I h => ?_⟩
  obtain ⟨B, Z, cm, ρ, s0, r, ps⟩ := h
  unfold mLamV at ps
  split at ps
  · rename_i n' hk
    split at ps
    · rename_i en
      subst en
      obtain ⟨hc, hTab⟩ := r.tab hk
      refine lam_make4 I TB hcode (by rw [← hq]; exact hTab) hdef (fun y hy e => absurd e (hnf y hy)) hcl fun f c' H1 s' up hf J => ?_
      rw [← hq] at up J
      obtain ⟨ex1, r1⟩ := r.tabUp hk up
      have g1 := r.tabCode hk up
      rw [← hl] at J
      refine ⟨.ref f, _, J, rfl, ps (.ref f) _ cm (ex1.trans (Ext.grow (sub_upd hf))) (FRel.grow (F := ⟨B, Z, σ, ρ⟩) r1 (sub_upd hf)) (.lam (c := c') (vis_new (F := ⟨B, Z, σ, ρ⟩) r1 hf) ?_)⟩
      rw [hlq]
      exact sub_new (F := ⟨B, Z, σ, ρ⟩) r1 hf _ _ g1
    · exact ps.elim
  · exact ps.elim
end
/-- the lambda of kind l keeps F -/
structure LamA (P : Program) (w : World) (K : PySem.W.Frag) (mg : Str → Option Value) (base : Heap) (T : Tb) (k l n : Nat) (F : FM) : Prop where
  ex : ∃ (params : Arguments) (body : Expr) (scope : Scope) (N ps : List Str) (m : EM), T.lo l = LamH (T.lq l) params body scope ∧ FnScope N ps scope ∧ ps.length = n ∧ ps.length ≤ N.length ∧
    (∀ (pm cv ctv : Value) (us : List Value), us.length = n → bindArgs (PySem.W.kla_fn "<lambda>" (T.lq l) params body scope [] pm cv ctv) ⟨us, []⟩ = pure (ps.zip us)) ∧ F = (fun ds s => m (ds.map .v ++ List.replicate (N.length - n) .un) s) ∧
    ∀ (f : Addr) (cdv : Value) (A : Around) (outer : List Env) (s : Shared) (H : Hp) (E : XK), Room (k - 1) (A.deeper (envOfC (T.lq l) scope s.heap.objs.size f cdv)) → QE (cxOf (L2.CX P w) P w K mg base N (T.lq l) scope f cdv A outer s H E) T (fun cls d _ H => E cls d H) body m
theorem LamA.run {P : Program} {w : World} {K : PySem.W.Frag} {mg : Str → Option Value} {base : Heap} {T : Tb} {k l n : Nat} {F : FM} (LA : LamA P w K mg base T k l n F) (hk : 1 ≤ k) {A : Around} {outer : List Env} {s : Shared} {H : Hp} {us : List Value} {vs : List V} {Q : VK} {E : XK} {f c : Addr} (hr : Room k A)
    (e0 : Env0 P w K mg base A outer s H) (r : Vals vs us) (hf : H f = some (T.lo l f c)) (hc : H c = some (CodeO c (T.lq l))) (h : spD K T n F vs H Q E) :
    codeAny (model P w) A (.call (.ref f) ⟨us, []⟩) (CR (L2.CX P w) outer P w H s Q E) s := by
  obtain ⟨params, body, scope, N, ps, m, hl, S, hn, hN, hb, rfl, hbody⟩ := LA.ex
  obtain ⟨hlen, cm, Z, ds, s0, cl, rv, p⟩ := h
  rw [hl] at hf
  obtain ⟨pm, ctv, ho⟩ := lamH_at e0.hok hf
  have zc : ObjOk P w H s.heap c (.ext fun h => ∃ (oc : Obj) (vs : Array Value) (t : Tok), h.get? c = some oc ∧ oc.data = .fields vs ∧ vs[1]? = some (.str (T.lq l) t)) := e0.hok c _ hc
  obtain ⟨⟨oc, va, tk, h1, h2, h3⟩, _⟩ := zc
  have hu : us.length = n := by rw [← r.length, hlen]
  have NL : s.heap.NoLimit := e0.mod.nolimit.keeps fun b o e => (e0.bs b o e).1
  obtain ⟨k', rfl⟩ : ∃ k', k = k' + 1 := ⟨k - 1, by omega⟩
  refine PySem.W.kla_callFunE hr.depth ho rfl S.co S.gen rfl ⟨c, oc, va, tk, rfl, h1, h2, h3⟩ ?_
  rw [hb pm (.ref c) ctv us hu]
  have params_ : ∀ y ∈ ps.zip us, scope.names.lookup y.1 = some .local ∨ (scope.names.lookup y.1 = some .cell ∧ ((cellsFrom (s.heap.objs.size + 1) scope.names []).lookup y.1).isSome = true) := by
    rintro ⟨y, v⟩ hy
    exact (S.par y (List.of_mem_zip hy).1).elim .inl fun q => .inr ⟨q, PySem.W.cellsFrom_some _ _ _ (.inl q)⟩
  refine wpAny_pure (wpAny_newFunctionEnv_cells S.kind params_ fun env he s1 x1 => ?_)
  subst he
  refine ⟨NL.keeps x1.toInCall.keep, ?_⟩
  have J : Inv (cxOf (L2.CX P w) P w K mg base N (T.lq l) scope f (.ref c) A outer s H E) [] (L2.start N vs) H s1 := inv_start S hr.hd e0 (by rw [hlen, hn]) r x1
  refine PySem.W.kla_codeExpr (wpAny_mono ((hbody f (.ref c) A outer s H E (hr.deeper _)).run [] s1 (L2.start N vs) H Q J ?_) (fun v s' hq => ?_) fun e s' hq => hq)
  · have R0 := Rel.start (N := N) cl rv (by omega)
    refine ⟨offC cm H, Z, cm, _, s0, R0, ?_⟩
    rw [hlen]
    have p' : PostF K T Z cm H (m (ds.map .v ++ List.replicate (N.length - n) .un) s0) Q E := p
    cases e0' : m (ds.map .v ++ List.replicate (N.length - n) .un) s0 with
    | ok d s' =>
      rw [e0'] at p'
      exact fun v H' cm' ex r' z => p' v H' cm' ex (r'.cells.fewer fun a z => z.elim) (Rep.mono (.refl _) (sub_shrink fun a z => z.elim) _ _ z)
    | er c ds s' =>
      rw [e0'] at p'
      exact fun cls dx H' cm' ex r' z => p' cls dx H' cm' ex (r'.cells.fewer fun a z => z.elim) (z.mono (.refl _) (sub_shrink fun a z => z.elim) fun _ _ h => h)
    | no => rw [e0'] at p'; exact p'
  · obtain ⟨v', H', J', rv', q⟩ := hq
    exact ⟨v', H', J'.os, J'.bare, J'.base, J'.hok, rv', q⟩
/-- x(e, ..), x a local that holds a def or a lambda -/
def mCallL (i : Nat) (tbl tl : List (Nat × FM)) (lm : LM) : EM := fun ρ s => match ρ[i]? with
  | some (.v (.fn j)) => (match tbl.lookup j with
    | some F => (lm ρ s).bind fun ds s1 => F ds s1
    | none => .no)
  | some (.v (.lam j)) => (match tl.lookup j with
    | some F => (lm ρ s).bind fun ds s1 => F ds s1
    | none => .no)
  | _ => .no
section
variable {X : Cx} {T : Tb} {W : WX} {e : Expr} {es : List Expr} {lm : LM} {pos p : Pos} {x : Str} {i j k n : Nat} {tbl tl : List (Nat × FM)}
theorem q_callL (hF : ∀ q ∈ tbl, FnA X.prog X.w X.K X.mg X.base T k q.1 n q.2) (hL : ∀ q ∈ tl, LamA X.prog X.w X.K X.mg X.base T k q.1 n q.2) (hr : Room j X.A) (tk : Takes X W) (h1 : 1 ≤ k := by decide) (hk : k ≤ j := by decide) (ha : QS X T W n (e :: es) lm) (hN : X.N[i]? = some x := by rfl) (hv : Vis X.env.scope x := by first | exact Or.inl rfl | exact Or.inr (Or.inl rfl) | exact Or.inr (Or.inr rfl))
    (hd : (x == ("__debug__" : Str)) = false := by decide) (hcd : (x == ("__classdict__" : Str)) = false := by decide)
    (he : starEach (e :: es) X.env = (false, eval e X.env) :: starEach es X.env := by rfl) (hpl : (backTo pos (starEach es X.env)).any (·.1) = false := by rfl) :
    QE X T W (.Call (.Name x p) (e :: es) [] pos) (mCallL i tbl tl lm) := by
  refine ⟨fun pins s σ H Q I h => ?_⟩
  obtain ⟨B, Z, cm, ρ, s0, r, q⟩ := h
  unfold mCallL at q
  split at q
  · rename_i i' e0
    exact (q_callV hF hr tk hk ha hN hv hd hcd he hpl).run pins s σ H Q I ⟨B, Z, cm, ρ, s0, r, by unfold mCallV; rw [e0]; exact q⟩
  · rename_i l e0
    obtain ⟨v, h1', h2⟩ := r.val _ _ e0
    cases h2 with
    | @lam f c _ g1 g2 =>
    split at q
    · rename_i F eF
      have LA := hL _ (lookup_mem eF)
      have g1' := Sub.hidH _ _ g1
      have g2' := Sub.hidH _ _ g2
      refine wpAny_Call_Name_kw (thn ((pe_var (pos := p) hN hv hd hcd).run pins s σ H (fun v H1 => v = .ref f ∧ H1 = H) I ⟨_, h1', rfl, rfl⟩) fun u s1 ⟨v, H1, I1, r1, q1⟩ => ?_)
      obtain ⟨rfl, rfl⟩ := q1
      cases r1
      -- the lambda and its code stay while the arguments are reckoned
      have h' : tP X.K T W (ALn X.K T n) lm σ H1 fun vs H2 => spD X.K T n F vs H2 Q (fun cls d H' => W cls d σ H') ∧ H2 f = some (T.lo l f c) ∧ H2 c = some (CodeO c (T.lq l)) := by
        have hq : tP X.K T W (AR X.K T) (fun ρ s => (lm ρ s).bind fun ds s1 => F ds s1) σ H1 Q := ⟨B, Z, cm, ρ, s0, r, q⟩
        refine ⟨B, Z, cm, ρ, s0, r, ?_⟩
        refine (Post.bind (A := ALn X.K T n) (A' := AR X.K T) (f := fun ds s1 => F ds s1) q up_AR).mono fun vs H2 ⟨cm1, ds, s1', e1, r1, a1, p1⟩ => ?_
        exact ⟨spD_of (F0 := ⟨B, Z, σ, ρ⟩) r1 a1.1 a1.2 p1, Sub.hidH _ _ (e1.sub _ _ g1), Sub.hidH _ _ (e1.sub _ _ g2)⟩
      obtain ⟨params, body, scope, N, ps, m, hl, _⟩ := id LA.ex
      have g1h := g1'
      rw [hl] at g1h
      obtain ⟨pm, ctv, ho⟩ := lamH_at I1.hok g1h
      refine PySem.W.callWith_F ⟨_, _, _, _, ho⟩ (thn (ha.run pos pins s1 σ _ _ I1 h') fun us s2 ⟨vs, H2, I2, r2, q2, f2, c2⟩ => ?_) he hpl
      have f2h := f2
      rw [hl] at f2h
      obtain ⟨pm2, ctv2, ho2⟩ := lamH_at I2.hok f2h
      refine ⟨⟨_, _, _, _, ho2⟩, wpAny_call (codeAny_mono (LA.run h1 (hr.mono hk) I2.env0 r2 f2 c2 q2) fun r s' hq => ?_)⟩
      match r, hq with
      | .error e, hq => exact passAt tk σ pins H2 s2 e s' I2 hq
      | .ok (.ret u), hq => exact I2.after hq
      | .ok .next, hq => exact (show False from hq).elim
      | .ok .brk, hq => exact (show False from hq).elim
      | .ok .cont, hq => exact (show False from hq).elim
    · exact q.elim
  · exact q.elim
end
end Tv

/-! Tx9: repr; defs that want to know that no repr is under way -/
namespace Tv
open PySem PySem.Spec PyProof.Rows L2 LamX

/-! ### repr of a tuple or a list -/
def rRepr (K : PySem.W.Frag) : List V → Hp → VK → Prop := fun xs H Q => ∃ (a : Addr) (d : PyData), xs = [.ref a] ∧ Dp K H (.ref a) d ∧ d.showable = true ∧ d.hasDict = false ∧ d.depth ≤ 40 ∧ d.shown.length ≤ sizeLine ∧ Q (.str d.shown) H
def isRefD : D → Bool
  | .tup _ => true
  | .lst _ => true
  | _ => false
def gRepr (ds : List D) (s : S) : R D := match ds with
  | [d] => (match d.py with
    | some p => if isRefD d = true ∧ p.showable = true ∧ p.hasDict = false ∧ p.depth ≤ 40 ∧ p.shown.length ≤ sizeLine then .ok (.str p.shown) s else .no
    | none => .no)
  | _ => .no
section
variable {X : Cx} {T : Tb} {W : WX} {e : Expr} {m : EM} {p pos : Pos}
theorem call_repr (hg : X.A.guards = some []) (hu : X.A.units + 64 < cLine) : CallR X (.builtin "repr") (rRepr X.K) := by
  intro pins s σ H xs us Q I r h
  obtain ⟨a, d, rfl, hd, h1, h2, h3, h4, q⟩ := h
  cases r with
  | cons rx rr =>
    cases rr
    cases rx
    obtain ⟨as, rd⟩ := Dp.reads I d _ _ hd rfl
    exact repr_of_reads' rd h1 (fun z => by rw [h2] at z; cases z) hg (by omega) (fun _ _ z => z) (fun h' u tk hk => ⟨.str d.shown, H, I.kept (t' := tk) hk, ⟨u, rfl⟩, q⟩) h4
theorem oc_repr : OC X T (AR X.K T) (rRepr X.K) gRepr := by
  intro F cm H s W xs ds Q r a p
  unfold gRepr at p
  split at p
  · rename_i d
    split at p
    · rename_i pd e
      split at p
      · rename_i hc
        obtain ⟨h0, h1, h2, h3, h4⟩ := hc
        cases a with
        | @cons v _ _ _ a1 at_ =>
          cases at_
          have hx : ∃ c, v = V.ref c := by
            cases d with
            | lst l => obtain ⟨c, _, e, _⟩ := a1.lst; exact ⟨c, e⟩
            | tup l => obtain ⟨c, _, e, _⟩ := a1.tup; exact ⟨c, e⟩
            | _ => cases h0
          obtain ⟨c, rfl⟩ := hx
          exact ⟨c, pd, rfl, a1.dp e, h1, h2, h3, h4, p.fin r (.str _)⟩
      · exact p.elim
    · exact p.elim
  · exact p.elim
theorem q_repr (hgu : X.A.guards = some []) (hu : X.A.units + 64 < cLine) (hg : Gl X "repr") (hm : X.mg "repr" = none) (ha : QB X T W e m) (hs : starEach [e] X.env = (false, eval e X.env) :: starEach [] X.env := by rfl) (hpl : (backTo pos (starEach [] X.env)).any (·.1) = false := by rfl) : QE X T W (.Call (.Name "repr" p) [e] [] pos) (mCall gRepr (mCons m mNil)) :=
  q_callB (call_repr hgu hu) oc_repr up_AR hg hm (by decide +kernel) (qb_cons ha qb_nil hs) (by decide) (by decide) hs hpl
end

/-! ### defs that want to know the guards -/
/-- x may be called where no repr is under way -/
structure FnG (P : Program) (w : World) (K : PySem.W.Frag) (mg : Str → Option Value) (base : Heap) (T : Tb) (k : Nat) (x : Str) (n : Nat) (F : FM) : Prop where
  ex : ∃ (f : Addr) (fd : FuncData) (ps : List Str), ps.length = n ∧ (∀ (A : Around) (outer : List Env) (s : Shared) (H : Hp) (us : List Value) (vs : List V) (Q : VK) (E : XK), A.guards = some [] → Room k A → Env0 P w K mg base A outer s H → BindsTo s fd ⟨us, []⟩ (ps.zip us) → Vals vs us → spD K T n F vs H Q E →
    codeAny (model P w) A (.call (.ref f) ⟨us, []⟩) (CR (L2.CX P w) outer P w H s Q E) s) ∧ mg x = some (.ref f) ∧ PySem.W.keepIn K (.ref f) = true ∧ Binds K fd ps []
section
variable {P : Program} {w : World} {K : PySem.W.Frag} {mg : Str → Option Value} {base : Heap} {T : Tb} {x qual : Str} {params : Arguments} {body : List Stmt} {scope : Scope} {f : Addr} {fd : FuncData}
theorem deeper_guards {A : Around} (env : Env) : (A.deeper env).guards = A.guards := by
  first
  | rfl
  | simp [Around.deeper, Around.under]
/-- the code of a def's run: what its cdv is -/
def codeF (K : PySem.W.Frag) (f : Addr) : Addr := match K.lookup f with
  | some ⟨_, _, .func fd, _⟩ => (match fd.code with
    | .ref c => c
    | _ => 0)
  | _ => 0
theorem codeF_of {K : PySem.W.Frag} {f : Addr} {oc : Value} {od : Option Addr} {osl : Array (Option Value)} {fd : FuncData} {q : Str} (lk : K.lookup f = some ⟨oc, od, .func fd, osl⟩) (h : PySem.W.codeIn K fd.code q = true) : fd.code = .ref (codeF K f) := by
  obtain ⟨c, e⟩ := He.codeIn_ref h
  unfold codeF
  rw [lk]
  dsimp only
  rw [e]
theorem fnC_run {N ps : List Str} {k : Nat} {m : SM} (F : FunD K x qual params body scope [] [] f fd) (S : FnScope N ps scope) (hN : ps.length ≤ N.length) {A : Around} {outer : List Env} {s : Shared} {H : Hp} {us : List Value} {vs : List V} {Q : VK} {E : XK} (hr : Room (k + 1) A) (e0 : Env0 P w K mg base A outer s H) (hb : BindsTo s fd ⟨us, []⟩ (ps.zip us)) (r : Vals vs us)
    (h : spD K T ps.length (mFun (N.length - ps.length) m) vs H Q E)
    (hbody : ∀ cdv : Value, cdv = .ref (codeF K f) → Room k (A.deeper (envOfC qual scope s.heap.objs.size f cdv)) → QSs (cxOf (L2.CX P w) P w K mg base N qual scope f cdv A outer s H E) T (fun cls d _ H => E cls d H) body m) :
    codeAny (model P w) A (.call (.ref f) ⟨us, []⟩) (CR (L2.CX P w) outer P w H s Q E) s := by
  obtain ⟨oc, od, dV, kV, doc, pm, an, cdv, ct, osl, rfl, lk, hcd, _, _⟩ := F.ex
  obtain ⟨hlen, cm, Z, ds, s0, cl, rv, p⟩ := h
  refine run_ofS lk hcd S hr e0 hb r hlen fun hr' => ⟨_, hbody cdv (codeF_of lk hcd) hr', ?_⟩
  refine ⟨offC cm H, Z, cm, _, s0, Rel.start cl rv (by omega), ?_⟩
  rw [hlen]
  exact post_fn p
theorem fnG_ok {N ps : List Str} {k : Nat} {m : SM} (F : FunD K x qual params body scope [] [] f fd) (S : FnScope N ps scope) (hN : ps.length ≤ N.length) (hm : mg x = some (.ref f)) (hb : Binds K fd ps [])
    (hbody : ∀ (cdv : Value) (A : Around) (outer : List Env) (s : Shared) (H : Hp) (E : XK), cdv = .ref (codeF K f) → A.guards = some [] → Room k (A.deeper (envOfC qual scope s.heap.objs.size f cdv)) → QSs (cxOf (L2.CX P w) P w K mg base N qual scope f cdv A outer s H E) T (fun cls d _ H => E cls d H) body m) :
    FnG P w K mg base T (k + 1) x ps.length (mFun (N.length - ps.length) m) :=
  ⟨f, fd, ps, rfl, fun A outer s H us vs Q E hg hr e0 b r h => fnC_run F S hN hr e0 b r h fun cdv hc hr' => hbody cdv A outer s H E hc hg hr', hm, F.kp, hb⟩
/-- a def that makes lambdas: the body with its code known -/
theorem fnC_ok {N ps : List Str} {k : Nat} {m : SM} (F : FunD K x qual params body scope [] [] f fd) (S : FnScope N ps scope) (hN : ps.length ≤ N.length)
    (hbody : ∀ (cdv : Value) (A : Around) (outer : List Env) (s : Shared) (H : Hp) (E : XK), cdv = .ref (codeF K f) → Room k (A.deeper (envOfC qual scope s.heap.objs.size f cdv)) → QSs (cxOf (L2.CX P w) P w K mg base N qual scope f cdv A outer s H E) T (fun cls d _ H => E cls d H) body m) :
    FnOk P w K mg base (L2.CX P w) (k + 1) f fd ps (spD K T ps.length (mFun (N.length - ps.length) m)) := by
  obtain ⟨oc, od, dV, kV, doc, pm, an, cdv, ct, osl, rfl, lk, hcd, _, _⟩ := F.ex
  refine fn_of lk hcd S (fun vs H Q E h => h.1) fun A outer s H vs Q E hr h => ?_
  obtain ⟨hlen, cm, Z, ds, s0, cl, rv, p⟩ := h
  refine ⟨_, hbody cdv A outer s H E (codeF_of lk hcd) hr, offC cm H, Z, cm, _, s0, Rel.start cl rv (by omega), ?_⟩
  rw [hlen]
  exact post_fn p
end
section
variable {X : Cx} {T : Tb} {W : WX} {n j k : Nat} {x : Str} {F : FM} {e : Expr} {es : List Expr} {lm : LM} {p pos : Pos}
theorem FnG.le {P : Program} {w : World} {K : PySem.W.Frag} {mg : Str → Option Value} {base : Heap} {T : Tb} {k j n : Nat} {x : Str} {F : FM} (h : FnG P w K mg base T k x n F) (e : k ≤ j) : FnG P w K mg base T j x n F := by
  obtain ⟨f, fd, ps, hl, h1, h2⟩ := h.ex
  exact ⟨f, fd, ps, hl, fun A outer s H us vs Q E hg hr => h1 A outer s H us vs Q E hg (hr.mono e), h2⟩
theorem q_callG (c : FnG X.prog X.w X.K X.mg X.base T k x n F) (hgu : X.A.guards = some []) (hr : Room j X.A) (tk : Takes X W) (hk : k ≤ j := by decide) (hg : Gl X x := by rfl) (ha : QS X T W n (e :: es) lm) (hdb : (x == ("__debug__" : Str)) = false := by decide) (he : starEach (e :: es) X.env = (false, eval e X.env) :: starEach es X.env := by rfl) (hpl : (backTo pos (starEach es X.env)).any (·.1) = false := by rfl) :
    QE X T W (.Call (.Name x p) (e :: es) [] pos) (mCallF F lm) := by
  obtain ⟨f, fd, ps, hl, hF, hm, hkp, hb⟩ := c.ex
  refine ⟨fun pins s σ H Q I h => ?_⟩
  refine wpAny_Call_Name_kw (ld_glob I hg hm ?_ hdb)
  refine PySem.W.callWith_K (h₀ := X.base) I.ok.mod.kin hkp (thn (ha.run pos pins s σ H _ I (tCallF_of h)) fun us s1 ⟨vs, H1, I1, r1, q1⟩ => ⟨I1.kIn, ?_⟩) he hpl
  have hu : us.length = ps.length := by rw [← r1.length, q1.1, hl]
  have b := hb s1 us I1.kIn (by rw [List.append_nil]; exact hu)
  rw [List.append_nil] at b
  refine wpAny_call (codeAny_mono (hF X.A X.stack s1 H1 us vs Q _ hgu (hr.mono hk) I1.env0 b r1 q1) fun r s' hq => ?_)
  match r, hq with
  | .error e, hq => exact passAt tk σ pins H1 s1 e s' I1 hq
  | .ok (.ret u), hq => exact I1.after hq
  | .ok .next, hq => exact (show False from hq).elim
  | .ok .brk, hq => exact (show False from hq).elim
  | .ok .cont, hq => exact (show False from hq).elim
end
end Tv

/-! Txa: the end of a law that is run where no repr is under way -/
namespace Tv
open PySem PySem.Spec PyProof.Rows L2 LamX
section
variable {P : Program} {w : World} {K : PySem.W.Frag} {mg mb : Str → Option Value} {fa a : Addr} {cs : List (Addr × Addr)} {s1 : Shared} {vs : List Value} {ns : List Int}
/-- what is tracked at the start: the tables, the script where the written part does not hold it -/
def startH (K : PySem.W.Frag) (tabs : List Addr) (a : Addr) (vs : List Value) (ns : List Int) : Hp := fun b =>
  if b ∈ tabs then some (.tbl #[]) else if b = a ∧ (K.lookup a).isNone = true then some (.frz { cls := .type "list", data := .seq vs.toArray } (.lst (ns.map V.int))) else none
theorem startH_cases {tabs : List Addr} {b : Addr} {u : HO} (h : startH K tabs a vs ns b = some u) : (b ∈ tabs ∧ u = .tbl #[]) ∨ (b ∉ tabs ∧ b = a ∧ K.lookup a = none ∧ u = .frz { cls := .type "list", data := .seq vs.toArray } (.lst (ns.map V.int))) := by
  unfold startH at h
  split at h
  · rename_i hb
    cases h
    exact .inl ⟨hb, rfl⟩
  · rename_i hb
    split at h
    · rename_i hc
      cases h
      exact .inr ⟨hb, hc.1, Option.isNone_iff_eq_none.mp hc.2, rfl⟩
    · cases h
theorem law_run (KX : K.In s1.heap) (hns : s1.heap.Ns mainGlobals mg) (hb : s1.heap.Ns builtinsNs mb) (hbb : ∀ x : Str, x ≠ "__name__" → mb x = bootBuiltins x) (hlim : s1.heap.NoLimit) (hg : s1.gens = #[])
    (hT : ∀ p ∈ cs, s1.heap.get? p.2 = some { cls := .none, data := .fields #[] }) (nT : ∀ p ∈ cs, K.lookup p.2 = none) (C : ∀ p ∈ cs, PySem.W.CodeHd s1.heap p.1 p.2)
    (hbm : ∃ (bm : Addr) (ob : Obj), mg "__builtins__" = some (.ref bm) ∧ bm ≠ builtinsNs ∧ s1.heap.get? bm = some ob ∧ ob.cls = .type "module" ∧ ob.dict = some builtinsNs ∧ ob.data = .plain)
    (ha : s1.heap.get? a = some { cls := .type "list", data := .seq vs.toArray }) (hi : IntsAre vs ns) (hl : ns.length ≤ sizeLine)
    (F : ∀ (base : Heap) (H : Hp), K.In base → base.Ns mainGlobals mg → (∀ p ∈ cs, TabB base mg p.1 p.2) → Env0 P w K mg base callerA [] s1 H → (∀ p ∈ cs, H p.2 = some (.tbl #[])) → SqL K H a (ns.map V.int) →
      codeAny (model P w) callerA (.call (.ref fa) ⟨[.ref a], []⟩) (CR (L2.CX P w) [] P w H s1 (fun v _ => v = .bl true) fun _ _ _ => False) s1) :
    codeAny (model P w) callerA (.call (.ref fa) ⟨[.ref a], []⟩) (fun r s' => r = .ok (.ret (.bool true)) ∧ OldK s1.heap s'.heap ∧ s'.os = s1.os ∧ AllBare s'.gens) s1 := by
  have rv := vals_ints hi
  have lenV := hi.length
  obtain ⟨tabs, etabs⟩ : ∃ tabs : List Addr, tabs = cs.map (·.2) := ⟨_, rfl⟩
  have inT : ∀ p ∈ cs, p.2 ∈ tabs := fun p hp => by rw [etabs]; exact List.mem_map_of_mem (f := (·.2)) hp
  have ofT : ∀ b ∈ tabs, ∃ p ∈ cs, p.2 = b := fun b h => by rw [etabs] at h; exact List.mem_map.mp h
  have isT : ∀ b ∈ tabs, s1.heap.get? b = some { cls := .none, data := .fields #[] } := fun b h => by
    obtain ⟨p, hp, rfl⟩ := ofT b h
    exact hT p hp
  have aT : a ∉ tabs := fun z => by
    have q := isT a z
    rw [ha] at q
    cases q
  obtain ⟨H, eH⟩ : ∃ H : Hp, H = startH K tabs a vs ns := ⟨_, rfl⟩
  have Hc : ∀ {b u}, H b = some u → (b ∈ tabs ∧ u = .tbl #[]) ∨ (b ∉ tabs ∧ b = a ∧ K.lookup a = none ∧ u = .frz { cls := .type "list", data := .seq vs.toArray } (.lst (ns.map V.int))) := fun {b u} h => startH_cases (by rw [← eH]; exact h)
  have Ht : ∀ p ∈ cs, H p.2 = some (.tbl #[]) := fun p hp => by rw [eH]; exact if_pos (inT p hp)
  -- what is not tracked
  have off : ∀ {b : Addr} {o : Obj}, s1.heap.get? b = some o → o.data ≠ .fields #[] → (∀ us n, o.data ≠ .seq us n) → H b = none := fun {b o} e h1 h2 => by
    cases q : H b with
    | none => rfl
    | some u =>
      rcases Hc q with ⟨z, _⟩ | ⟨_, z, _⟩
      · rw [isT b z] at e
        cases e
        exact absurd rfl h1
      · rw [z, ha] at e
        cases e
        exact absurd rfl (h2 _ _)
  have offD : ∀ {b : Addr} {m : Str → Option Value}, s1.heap.Ns b m → (hidT s1.heap H).Ns b m := fun {b m} ⟨o, es, ep, e, d, r⟩ => ⟨o, es, ep, hidT_get e (off e (fun z => by rw [d] at z; cases z) (fun us n z => by rw [d] at z; cases z)), d, r⟩
  have KB : K.In (hidT s1.heap H) := fun b o e => hidT_get (KX b o e) (by
    cases q : H b with
    | none => rfl
    | some u =>
      rcases Hc q with ⟨z, _⟩ | ⟨_, z, n, _⟩
      · obtain ⟨p, hp, rfl⟩ := ofT b z
        rw [nT p hp] at e
        cases e
      · rw [z, n] at e
        cases e)
  have S : SqL K H a (ns.map V.int) := by
    cases hk : K.lookup a with
    | some o =>
      have e := KX a o hk
      rw [ha] at e
      cases e
      exact .inr ⟨_, vs.toArray, _, hk, rfl, rfl, rfl, by rw [List.size_toArray, lenV]; exact hl, by simpa using rv⟩
    | none => exact .inl (.inr ⟨{ cls := .type "list", data := .seq vs.toArray }, by rw [eH]; unfold startH; rw [if_neg aT, if_pos ⟨rfl, by rw [hk]; rfl⟩]⟩)
  have HO : HOk P w H s1.heap := fun b u h => by
    rcases Hc h with ⟨z, rfl⟩ | ⟨_, rfl, _, rfl⟩
    · exact isT b z
    · exact ⟨ha, by rw [List.length_map]; exact hl, vs, _, rv, ha⟩
  have MD : L2.Mod K mg (hidT s1.heap H) := ⟨KB, offD hns, ⟨mb, offD hb, hbb⟩, let ⟨mc, h1, h2⟩ := hlim; ⟨mc, offD h1, h2⟩⟩
  have TB : ∀ p ∈ cs, TabB (hidT s1.heap H) mg p.1 p.2 := fun p hp => by
    have hTp := hT p hp
    refine ⟨?_, ?_, fun z => ?_⟩
    · obtain ⟨o, us, file, tf, flags, tg, inF, text, tt, e1, r1, r2, r3, r4⟩ := C p hp
      refine ⟨o, us, file, tf, flags, tg, inF, text, tt, hidT_get e1 (off e1 (fun z => ?_) fun us n z => ?_), r1, r2, r3, r4⟩
      · rw [r2] at z
        cases z
        simp at r3
      · rw [r2] at z
        cases z
    · obtain ⟨bm, ob, b1, b2, b3, b4, b5, b6⟩ := hbm
      refine ⟨bm, ob, b1, b2, fun q => ?_, fun q => ?_, hidT_get b3 (off b3 (fun z => by rw [b6] at z; cases z) fun us n z => by rw [b6] at z; cases z), b4, b5, b6⟩
      · obtain ⟨o, es, ep, e, hd, _⟩ := hns
        rw [q, e] at b3
        cases b3
        rw [hd] at b6
        cases b6
      · rw [q, hTp] at b3
        cases b3
        cases b6
    · obtain ⟨o, es, ep, e, hd, _⟩ := hns
      rw [z, hTp] at e
      cases e
      cases hd
  have E0_ : Env0 P w K mg (hidT s1.heap H) callerA [] s1 H := ⟨rfl, MD, fun b o e => of_hidT e, Nat.le_of_eq (hidT_size _ _), trivial, fun b hb => absurd (show b ∈ ([] : List Addr) from hb) (by simp), HO, .of_eq hg⟩
  refine codeAny_mono (F _ H KB (offD hns) TB E0_ Ht S) fun r s' h => ?_
  match r, h with
  | .error e, h =>
    obtain ⟨_, _, _, _, _, _, _, _, _, _, _, _, z⟩ := h
    exact z.elim
  | .ok .next, h => exact (show False from h).elim
  | .ok .brk, h => exact (show False from h).elim
  | .ok .cont, h => exact (show False from h).elim
  | .ok (.ret u), ⟨v, H', os, bare, un, hok', r', q⟩ =>
    have q' : v = .bl true := q
    subst q'
    obtain rfl : u = Value.bool true := r'
    have stay : ∀ b o, b ∉ tabs → s1.heap.get? b = some o → s'.heap.get? b = some o := fun b o nb e => by
      cases q : H b with
      | none => exact un.keep b o e q (fun z => absurd (show b ∈ ([] : List Addr) from z) (by simp)) (by simp)
      | some u =>
        rcases Hc q with ⟨z, _⟩ | ⟨_, _, _, rfl⟩
        · exact absurd z nb
        · obtain ⟨e1, _⟩ := HO b _ q
          obtain ⟨e2, _⟩ := hok' b _ (un.frzs b _ _ q)
          rw [e] at e1
          cases e1
          exact e2
    have grow : ∀ p ∈ cs, ∃ more : Array Value, s'.heap.get? p.2 = some { cls := .none, data := .fields more } := fun p hp => by
      obtain ⟨more, z⟩ := un.tbls p.2 #[] (Ht p hp)
      exact ⟨_, hok' p.2 _ z⟩
    refine ⟨rfl, ⟨fun b o e => ?_, fun b o e => ?_⟩, os, bare⟩
    · by_cases hb : b ∈ tabs
      · obtain ⟨p, hp, rfl⟩ := ofT b hb
        obtain ⟨more, hm⟩ := grow p hp
        rw [hT p hp] at e
        cases e
        exact .inr (.inl ⟨((C p hp).tab (hT p hp)).isCodeTable, rfl, #[], more, rfl, by rw [Array.empty_append]; exact hm⟩)
      · exact .inl (stay b o hb e)
    · by_cases hb : b ∈ tabs
      · obtain ⟨p, hp, rfl⟩ := ofT b hb
        obtain ⟨more, hm⟩ := grow p hp
        exact ⟨_, hm⟩
      · exact ⟨o, stay b o hb e⟩
end
/-- what is to be known of the law's def -/
def LawG (l : PySem.W.OpenLaw) (w : World) (K : PySem.W.Frag) (k n : Nat) (x : Str) (mg : Str → Option Value) (fa : Addr) (h : Heap) : Prop :=
  ∃ (fd : FuncData) (cs : List (Addr × Addr)) (sp : Sp), (∀ p ∈ cs, h.get? p.2 = some { cls := .none, data := .fields #[] }) ∧ (∀ p ∈ cs, K.lookup p.2 = none) ∧ (∀ p ∈ cs, PySem.W.CodeHd h p.1 p.2) ∧ (∀ (s : Shared) (u : Value), BindsTo s fd ⟨[u], []⟩ [(x, u)]) ∧
    (∀ (H : Hp) (a : Addr) (ns : List Int), ns.length ≤ n → (∀ z ∈ ns, Builtin.Int.intBits z ≤ 1048576) → (∀ p ∈ cs, H p.2 = some (.tbl #[])) → SqL K H a (ns.map V.int) → sp [.ref a] H (fun v _ => v = .bl true) fun _ _ _ => False) ∧
    ∀ base : Heap, K.In base → base.Ns mainGlobals mg → (∀ p ∈ cs, TabB base mg p.1 p.2) → ∀ (A : Around) (outer : List Env) (s : Shared) (H : Hp) (us : List Value) (vs : List V) (Q : VK) (E : XK), A.guards = some [] → Room k A → Env0 l.prog w K mg base A outer s H → BindsTo s fd ⟨us, []⟩ ([x].zip us) → Vals vs us → sp vs H Q E →
      codeAny (model l.prog w) A (.call (.ref fa) ⟨us, []⟩) (CR (L2.CX l.prog w) outer l.prog w H s Q E) s
theorem walk_G {l : PySem.W.OpenLaw} {n k : Nat} {q : Program} {loose : List Str} {XP : (Str → Option Value) → Heap → Prop} {YP : World → Heap → Prop} {d : DefRec} {x : Str}
    (hn : l.most = some n) (hn2 : n ≤ sizeLine) (hdf : d.params.defaults = []) (hr : Room k callerA)
    (F : ∀ (w : World) (mg : Str → Option Value) (fa : Addr) (h : Heap), YP w h → h.Ns mainGlobals mg → mg d.name = some (.ref fa) → ∃ K : PySem.W.Frag, K.In h ∧ LawG l w K k n x mg fa h) :
    PySem.W.WalkO q loose XP YP l.row.toRowW d [] (fun f vs => PySem.call f vs) := by
  refine Att.attach_callB hn hdf fun w s0 s1 mg mb fa o pm cd doc a vs ns G Y ho hd hcd hmg hobj hints hlen hbits hg => ?_
  obtain ⟨K, KX, fd, cs, sp, hT, nT, C, hb, hsp, hF⟩ := F w mg fa _ Y G.T.g hmg
  refine law_run KX G.T.g G.T.b G.T.builtins G.T.nolimit hg hT nT C G.T.bmain hobj hints (Nat.le_trans hlen hn2) fun base H b1 b2 b3 e0 hH hS => ?_
  exact hF base b1 b2 b3 callerA [] s1 H [.ref a] [.ref a] _ _ rfl hr e0 (hb s1 (.ref a)) (.cons rfl .nil) (hsp H a ns hlen hbits hH hS)
end Tv

/-! Txb: the head's facts of exception classes, of tables of lambdas -/
namespace Tv
open PySem PySem.Spec PyProof.Rows L2 LamX He PySem.W

abbrev FnY : Type := Option (Str × Str × Arguments × FuncBody × Scope × Addr × List Str × Addr)
def fnY (K : Frag) (p : Str × Option Str) : FnY := match K.lookup (fAd K p) with
  | some ⟨_, _, .func fd, _⟩ => some (fd.name, fd.qualname, fd.params, fd.body, fd.scope, fd.globals, fd.closure.map (·.1), fd.builtins)
  | _ => none
/-- an exception class of the text and its __init__ -/
structure XD where
  cls : Str
  qual : Str
  params : Arguments
  body : List Stmt
  scope : Scope
def XD.val (d : XD) : FnY := some ("__init__", d.qual, d.params, .stmts d.body, d.scope, mainGlobals, ["__class__"], builtinsNs)
def XD.at_ (d : XD) : Str × Option Str := (d.cls, some "__init__")
def clsB (K : Frag) (C : Addr) : Bool := match K.lookup C with
  | some ⟨.type "type", _, .cls cd, sl⟩ => (match cd.mro, sl.toList with
    | .ref C' :: bm, [_, _, _, _, some (.builtin n), _] => C' == C && (n == "ValueError.__new__" && (!cd.hasDel && (cd.hasDict && (PySem.HandSPX.refsVE bm && decide (alongIn K "__init__" bm = some (some (.builtin "ValueError.__init__")))))))
    | _, _ => false)
  | _ => false
def iniB (file : Str) (K : Frag) (C f : Addr) : Bool := match K.lookup f with
  | some ⟨_, _, .func fd, _⟩ => (match fd.closure, fd.code, fd.defaults with
    | [(_, cc)], .ref cda, .none => codeIn K fd.code fd.qualname && ((match K.lookup cc with
        | some ⟨_, _, .cell (some (.ref D)), _⟩ => D == C
        | _ => false) && (match K.lookup cda with
        | some ⟨_, _, .fields vs, _⟩ => (match (vs[2]? : Option Value) with
          | some (.str fl _) => fl == file
          | _ => false)
        | _ => false))
    | _, _, _ => false)
  | _ => false
def xB (file : Str) (K : Frag) (C f : Addr) : Bool := clsB K C && (iniB file K C f && (eqO (findIn K (.ref C) "__setattr__") (some (some (.builtin "object.__setattr__"))) && (decide (subIn K (.ref C) (.type "ValueError") = some true) && (decide (subIn K (.ref C) (.type "BaseException") = some true) && (decide (typeIn K (.ref C) = some (.type "type")) &&
  (keepIn K (.ref C) && (decide (mroIn K C (.ref C) = some true) && (eqO (findIn K (.ref C) "__init__") (some (some (.ref f))) && (decide (typeIn K (.ref f) = some (.type "function")) && decide (nsIn K cStatics "thirdparty.any" = some none))))))))))
theorem clsB_ok {K : Frag} {C : Addr} (q : clsB K C = true) : ∃ nm q N bs bm sn sub ab col dd k0 k1 k2 k3 k5, K.lookup C = some (excClassObj nm q C N bs bm true sn sub ab col dd k0 k1 k2 k3 k5 "ValueError.__new__") ∧ PySem.HandSPX.refsVE bm = true ∧ alongIn K "__init__" bm = some (some (.builtin "ValueError.__init__")) := by
  unfold clsB at q
  split at q
  · rename_i dd cd sl ho
    split at q
    · rename_i C' bm k0 k1 k2 k3 n k5 hm hs
      obtain ⟨q1, q⟩ := ba q
      obtain ⟨q2, q⟩ := ba q
      obtain ⟨q3, q⟩ := ba q
      obtain ⟨q4, q⟩ := ba q
      obtain ⟨q5, q6⟩ := ba q
      have e1 : C' = C := eq_of_beq q1
      have e2 : n = "ValueError.__new__" := eq_of_beq q2
      subst e1 e2
      obtain ⟨nm, bs, mro, ns, qn, hd, sn, sub, ab, col, del⟩ := cd
      dsimp only at hm q3 q4
      subst hm q4
      have e3 : del = false := by simpa using q3
      subst e3
      have hsl : sl = #[k0, k1, k2, k3, some (.builtin "ValueError.__new__"), k5] := Array.toList_inj.mp hs
      subst hsl
      exact ⟨nm, qn, ns, bs, bm, sn, sub, ab, col, dd, k0, k1, k2, k3, k5, ho, q5, of_decide_eq_true q6⟩
    · cases q
  · cases q
/-- all that Exc asks, from what is told -/
theorem exc_of {P : Program} {K : Frag} {mg : Str → Option Value} {T : Tb} {c : Nat} {d : XD} {fs : List Str} {file : Str} {m : Str} {j : Nat} {q0 q1 q2 q3 q4 q5 : Pos} {rest : List Stmt} (e : fnY K d.at_ = d.val) (b : xB file K (ga K d.cls) (ma K (ga K d.cls) "__init__") = true) (hT : T.cls c = ga K d.cls) (hfl : T.fl c = fs)
    (hmg : mg d.cls = some (.ref (ga K d.cls))) (hsup : mg "super" = none) (hfile : (P.main.file : Str) = file) (htop : (P.main.scope.names.lookup ("super" : Str)).isSome = false) (hbody : d.body = Tx.supSt m j q0 q1 q2 q3 q4 q5 :: rest) (SF : Tx.SupForm m j q0 q1 q2 q3 q4) (S : Tx.Sts fs rest) (hlen : fs.length ≤ 800)
    (nd : (("self" : Str) :: fs).Nodup) (hp : (d.params.posonlyargs ++ d.params.args).head?.map (·.arg) = some "self") (hsc : d.scope.names.lookup ("super" : Str) = some .globalImplicit ∧ d.scope.names.lookup ("__class__" : Str) = some .free ∧ d.scope.kind = .function ∧ d.scope.isCoroutine = false ∧ d.scope.isGenerator = false ∧ (∀ x ∈ d.scope.names, x.2 ≠ .cell) ∧ d.scope.names.lookup ("self" : Str) = some .local)
    (hloc : ∀ y ∈ fs, d.scope.names.lookup y = some .local ∧ (y == ("__debug__" : Str)) = false) (hno : ∀ y ∈ fs, findIn K (.ref (ga K d.cls)) y = some none)
    (hbind : ∀ (kV doc pm : Value) (an : Option Addr) (cdv ct : Value) (cc : Addr) (us : List Value), us.length = fs.length + 1 → bindArgs (ksFn "__init__" d.qual d.params d.body d.scope .none kV doc pm an cdv ct cc) ⟨us, []⟩ = pure ((("self" : Str) :: fs).zip us)) : Exc P K mg T c d.cls fs := by
  obtain ⟨b1, b⟩ := ba b
  obtain ⟨b2, b⟩ := ba b
  obtain ⟨b3, b⟩ := ba b
  obtain ⟨b4, b⟩ := ba b
  obtain ⟨b5, b⟩ := ba b
  obtain ⟨b6, b⟩ := ba b
  obtain ⟨b7, b⟩ := ba b
  obtain ⟨b8, b⟩ := ba b
  obtain ⟨b9, b⟩ := ba b
  obtain ⟨b10, b11⟩ := ba b
  have ef : fAd K d.at_ = ma K (ga K d.cls) "__init__" := rfl
  unfold fnY at e
  unfold iniB at b2
  rw [ef] at e
  cases q : K.lookup (ma K (ga K d.cls) "__init__") with
  | none =>
    rw [q] at e
    cases e
  | some o =>
    obtain ⟨oc, od, dt, osl⟩ := o
    rw [q] at e b2
    cases dt with
    | func fd =>
      obtain ⟨n1, n2, n3, n4, n5, n6, n7, n8, n9, n10, n11, n12, n13, n14, n15⟩ := fd
      have e2 : (some (n1, n2, n3, n4, n5, n6, n7.map (·.1), n15) : FnY) = some (("__init__" : Str), d.qual, d.params, FuncBody.stmts d.body, d.scope, mainGlobals, [("__class__" : Str)], builtinsNs) := e
      simp only [Option.some.injEq, Prod.mk.injEq] at e2
      obtain ⟨h1, h2, h3, h4, h5, h6, h7, h8⟩ := e2
      subst h1 h2 h3 h4 h5 h6 h8
      dsimp only at b2
      split at b2
      · rename_i nn cc cda
        have hnn : nn = ("__class__" : Str) := by
          have : ([nn] : List Str) = [("__class__" : Str)] := h7
          exact (List.cons.inj this).1
        subst hnn
        obtain ⟨c1, b2⟩ := ba b2
        obtain ⟨c2, c3⟩ := ba b2
        refine ⟨by rw [hT]; exact hmg, hsup, hfl, hlen, nd, ma K (ga K d.cls) "__init__", cc, m, j, q0, q1, q2, q3, q4, q5, rest, ksFn "__init__" d.qual d.params d.body d.scope .none n9 n10 n11 n12 (.ref cda) n14 cc, ⟨?_, ?_, ?_, ?_, ?_, ?_, ?_, ?_, ?_, ?_, ?_, ?_, htop⟩, SF, S, ?_, ?_, ?_⟩
        · rw [hT]; exact clsB_ok b1
        · rw [hT]; exact eqO_ok b3
        · rw [hT]; exact of_decide_eq_true b4
        · rw [hT]; exact of_decide_eq_true b5
        · rw [hT]; exact of_decide_eq_true b6
        · rw [hT]; exact b7
        · rw [hT]; exact of_decide_eq_true b8
        · rw [hT]; exact eqO_ok b9
        · exact of_decide_eq_true b10
        · exact of_decide_eq_true b11
        · refine ⟨oc, od, osl, d.qual, d.params, d.scope, n10, n11, n12, cda, n14, "__init__", .none, n9, by rw [hbody], q, c1, hp, hsc.1, hsc.2.1, hsc.2.2.1, hsc.2.2.2.1, hsc.2.2.2.2.1, hsc.2.2.2.2.2.1, hsc.2.2.2.2.2.2, ?_⟩
          split at c3
          · rename_i ccl cdd vs ccs hk
            split at c3
            · rename_i fl tk hv
              exact ⟨ccl, cdd, ccs, vs, fl, tk, hk, hv, by rw [eq_of_beq c3, hfile]; exact beq_self_eq_true _⟩
            · cases c3
          · cases c3
        · split at c2
          · rename_i cl cld D csl hk
            rw [hT]
            rw [eq_of_beq c2] at hk
            exact ⟨cl, cld, csl, hk⟩
          · cases c2
        · rw [hbody]
        · intro y hy
          rw [hT]
          exact ⟨(hloc y hy).1, (hloc y hy).2, hno y hy⟩
        · exact Binds.all fun us hl => hbind _ _ _ _ _ _ _ us (by rw [hl]; rfl)
      · cases b2
    | _ => cases e

/-! ### the Hook: as X, the heap's static table too, the exception classes' defs -/
def asY (g : Addr → Option Obj) (n : Nat) : List Addr := asD g n ++ [cStatics]
abbrev AlY : Type := AlX × List FnY
def obsY (n : Nat) (fa : List Fa) (fn : List DefD) (ts : List Tab) (tf : List Defn) (ex : Frag → Bool) (fx : List XD) (g : Addr → Option Obj) : AlY := ((obsT fa fn ts (frT g (asY g n)), ex (frT g (asY g n)) && tabsB g tf (frT g (asY g n))), fx.map fun d => fnY (frT g (asY g n)) d.at_)
def valY (fn : List DefD) (ts : List Tab) (fx : List XD) (w : World) : AlY := ((valT fn ts w, true), fx.map XD.val)
structure SaysY (fa : List Fa) (fn : List DefD) (ts : List Tab) (tf : List Defn) (ex : Frag → Bool) (fx : List XD) (w : World) (h : Heap) (K : Frag) : Prop where
  x : SaysX fa fn ts tf ex w h K
  y : fx.map (fun d => fnY K d.at_) = fx.map XD.val
theorem SaysY.y_at {fa : List Fa} {fn : List DefD} {ts : List Tab} {tf : List Defn} {ex : Frag → Bool} {fx : List XD} {w : World} {h : Heap} {K : Frag} (c : SaysY fa fn ts tf ex fx w h K) (i : Nat) {d : XD} (hd : fx[i]? = some d := by rfl) : fnY K d.at_ = d.val := by
  have e : (fx.map fun d => fnY K d.at_)[i]? = (fx.map XD.val)[i]? := by rw [c.y]
  rw [List.getElem?_map, List.getElem?_map, hd] at e
  exact Option.some.inj e
theorem saysY_of {n : Nat} {fa : List Fa} {fn : List DefD} {ts : List Tab} {tf : List Defn} {ex : Frag → Bool} {fx : List XD} {w : World} {h : Heap} (e : obsY n fa fn ts tf ex fx h.get? = valY fn ts fx w) : SaysY fa fn ts tf ex fx w h (frT h.get? (asY h.get? n)) := by
  have e1 : obsT fa fn ts (frT h.get? (asY h.get? n)) = valT fn ts w := congrArg (fun z : AlY => z.1.1) e
  have e2 : (ex (frT h.get? (asY h.get? n)) && tabsB h.get? tf (frT h.get? (asY h.get? n))) = true := congrArg (fun z : AlY => z.1.2) e
  have e3 : fx.map (fun d => fnY (frT h.get? (asY h.get? n)) d.at_) = fx.map XD.val := congrArg (fun z : AlY => z.2) e
  obtain ⟨h1, h2⟩ := ba e2
  have each : ∀ p ∈ tf, codeHdIn (frT h.get? (asY h.get? n)) (cT (frT h.get? (asY h.get? n)) p).1 (cT (frT h.get? (asY h.get? n)) p).2 = true ∧ ∃ o, h.get? (cT (frT h.get? (asY h.get? n)) p).2 = some o ∧ emptyTab o = true := fun p hp => by
    obtain ⟨h3, h4⟩ := ba (List.all_eq_true.mp h2 p hp)
    refine ⟨h3, ?_⟩
    cases q : h.get? (cT (frT h.get? (asY h.get? n)) p).2 with
    | none => rw [q] at h4; cases h4
    | some o => rw [q] at h4; exact ⟨o, rfl, h4⟩
  refine ⟨⟨e1, h1, fun p hp => (each p hp).1, fun p hp => ?_, fun p hp => ?_⟩, e3⟩
  · obtain ⟨_, o, q, z⟩ := each p hp
    exact frT_none q z
  · obtain ⟨_, o, q, z⟩ := each p hp
    rw [q, emptyTab_eq z]
def hookY (n : Nat) (fa : List Fa) (fn : List DefD) (ts : List Tab) (tf : List Defn) (ex : Frag → Bool) (fx : List XD) : Hook where
  α := AlY
  obs := fun s => obsY n fa fn ts tf ex fx s.heap.get?
  val := fun w => valY fn ts fx w
  says := fun w h => ∃ K : Frag, K.In h ∧ SaysY fa fn ts tf ex fx w h K
  of := fun _ _ e => ⟨_, frT_in, saysY_of e⟩
  keeps := fun _ _ _ ⟨K, hK, c⟩ k => ⟨K, Frag.In.keeps hK k, ⟨⟨c.x.t, c.x.more, c.x.hd, c.x.out, fun p hp => k _ _ (c.x.empty p hp)⟩, c.y⟩⟩
theorem obsY_eq {n : Nat} {fa : List Fa} {fn : List DefD} {ts : List Tab} {tf : List Defn} {ex : Frag → Bool} {fx : List XD} {g : Addr → Option Obj} {s : Shared} (h : ∀ a, g a = s.heap.get? a) : obsY n fa fn ts tf ex fx g = (hookY n fa fn ts tf ex fx).obs s := by
  have e : g = s.heap.get? := funext h
  rw [e] <;> rfl
end Tv

/-! Txc: further rules: in, is True, lists within lists, an __init__ that makes a lambda -/
namespace Tv
open PySem PySem.Spec PyProof.Rows L2 LamX

/-! ### in, is -/
def toF : D → Option V
  | .non => some .non
  | .bl b => some (.bl b)
  | .int i => some (.int i)
  | .str x => some (.str x)
  | _ => none
def toFs : List D → Option (List V)
  | [] => some []
  | d :: ds => (toF d).bind fun v => (toFs ds).map fun l => v :: l
def gIn (x y : D) (s : S) : R D := match y with
  | .lst ds => (match x.py, D.pys ds with
    | some p, some ps => if SeqAt.shaped p = true ∧ SeqAt.shaped (.list ps) = true then .ok (.bl (ps.any fun z => PyData.eqv z p)) s else .no
    | _, _ => .no)
  | .tup ds => (match toF x, toFs ds with
    | some v, some vs => .ok (.bl (vs.any fun y => eqV y v)) s
    | _, _ => .no)
  | _ => .no
def gNotIn (x y : D) (s : S) : R D := match y with
  | .lst ds => (match x.py, D.pys ds with
    | some p, some ps => if SeqAt.shaped p = true ∧ SeqAt.shaped (.list ps) = true then .ok (.bl (!ps.any fun z => PyData.eqv z p)) s else .no
    | _, _ => .no)
  | .tup ds => (match toF x, toFs ds with
    | some v, some vs => .ok (.bl (!vs.any fun y => eqV y v)) s
    | _, _ => .no)
  | _ => .no
def gIsB (x y : D) (s : S) : R D := match x, y with
  | .bl a, .bl b => .ok (.bl (decide (a = b))) s
  | _, _ => .no
def gIsNotB (x y : D) (s : S) : R D := match x, y with
  | .bl a, .bl b => .ok (.bl (!decide (a = b))) s
  | _, _ => .no
section
variable {X : Cx} {T : Tb} {W : WX}
theorem toF_rep {F : Fm} {H0 H : Hp} {cm : List Addr} {s : S} {v : V} {d : D} {u : V} (z : AB X.K T F H0 cm H s v d) (h : toF d = some u) : v = u ∧ flatV u = true := by
  cases d with
  | non => cases h; exact ⟨z.non, rfl⟩
  | bl b => cases h; exact ⟨z.bl, rfl⟩
  | int b => cases h; exact ⟨z.int, rfl⟩
  | str b => cases h; exact ⟨z.str, rfl⟩
  | _ => cases h
theorem toFs_rep {K : PySem.W.Frag} {cm : List Addr} {G : Hp} : ∀ {ds : List D} {xs us : List V}, Reps K T cm G xs ds → toFs ds = some us → xs = us ∧ us.all flatV = true
  | [], _, _, h, e => by cases h; cases e; exact ⟨rfl, rfl⟩
  | d :: ds, _, us, h, e => by
    cases h with
    | @cons v0 _ _ _ h1 h2 =>
      unfold toFs at e
      cases q1 : toF d with
      | none => rw [q1] at e; cases e
      | some u =>
        cases q2 : toFs ds with
        | none => rw [q1, q2] at e; cases e
        | some l =>
          rw [q1, q2] at e
          cases e
          obtain ⟨rfl, hl⟩ := toFs_rep h2 q2
          have k : v0 = u ∧ flatV u = true := by
            cases d with
            | non => cases q1; cases h1; exact ⟨rfl, rfl⟩
            | bl b => cases q1; cases h1; exact ⟨rfl, rfl⟩
            | int b => cases q1; cases h1; exact ⟨rfl, rfl⟩
            | str b => cases q1; cases h1; exact ⟨rfl, rfl⟩
            | _ => cases q1
          obtain ⟨rfl, hu⟩ := k
          exact ⟨rfl, by rw [List.all_cons, hu, hl]; rfl⟩
theorem o2_in : O2 X T (AR X.K T) (fun x y H Q => rInD X.K x y H Q ∨ rIn X.K false x y H Q) gIn := by
  intro F cm H s W x y dx dy Q r a b p
  unfold gIn at p
  split at p
  · split at p
    · rename_i e1 e2
      split at p
      · rename_i hs
        exact .inl ⟨_, _, a.dp e1, b.dp (d := .lst _) (by unfold D.py; rw [e2]; rfl), hs.1, hs.2, p.fin r (.bl _)⟩
      · exact p.elim
    · exact p.elim
  · split at p
    · rename_i e1 e2
      obtain ⟨rfl, f1⟩ := toF_rep a e1
      obtain ⟨c, xs, rfl, h1, _, h3⟩ := b.tup
      obtain ⟨rfl, f2⟩ := toFs_rep h3 e2
      exact .inr ⟨c, _, rfl, .inr h1, f1, f2, p.fin r (.bl _)⟩
    · exact p.elim
  · exact p.elim
theorem o2_notIn : O2 X T (AR X.K T) (fun x y H Q => rNotInD X.K x y H Q ∨ rIn X.K true x y H Q) gNotIn := by
  intro F cm H s W x y dx dy Q r a b p
  unfold gNotIn at p
  split at p
  · split at p
    · rename_i e1 e2
      split at p
      · rename_i hs
        exact .inl ⟨_, _, a.dp e1, b.dp (d := .lst _) (by unfold D.py; rw [e2]; rfl), hs.1, hs.2, p.fin r (.bl _)⟩
      · exact p.elim
    · exact p.elim
  · split at p
    · rename_i e1 e2
      obtain ⟨rfl, f1⟩ := toF_rep a e1
      obtain ⟨c, xs, rfl, h1, _, h3⟩ := b.tup
      obtain ⟨rfl, f2⟩ := toFs_rep h3 e2
      exact .inr ⟨c, _, rfl, .inr h1, f1, f2, p.fin r (.bl _)⟩
    · exact p.elim
  · exact p.elim
theorem o2_isB : O2 X T (AR X.K T) rIsB gIsB := by
  intro F cm H s W x y dx dy Q r a b p
  unfold gIsB at p
  split at p
  · cases a.bl
    cases b.bl
    exact ⟨_, _, rfl, rfl, p.fin r (.bl _)⟩
  · exact p.elim
variable {a b : Expr} {ma mb : EM} {pos : Pos}
theorem q_in (hu : X.A.units + 65 < cLine) (ha : QB X T W a ma) (hb : QB X T W b mb) (hm : behindInMarks .In b = false := by rfl) : QE X T W (.Compare a [.In] [b] pos) (mOp gIn ma mb) := q_cmp ((op_inD hu).or op_in_seq) o2_in ha hb hm
theorem qt_in (hu : X.A.units + 65 < cLine) (ha : QB X T W a ma) (hb : QB X T W b mb) (hm : behindInMarks .In b = false := by rfl) : QT X T W (.Compare a [.In] [b] pos) (mTest (mOp gIn ma mb)) := qt_cmp ((op_inD hu).or op_in_seq) o2_in ha hb hm
theorem q_notIn (hu : X.A.units + 65 < cLine) (ha : QB X T W a ma) (hb : QB X T W b mb) (hm : behindInMarks .NotIn b = false := by rfl) : QE X T W (.Compare a [.NotIn] [b] pos) (mOp gNotIn ma mb) := q_cmp ((op_notInD hu).or op_notIn_seq) o2_notIn ha hb hm
theorem qt_notIn (hu : X.A.units + 65 < cLine) (ha : QB X T W a ma) (hb : QB X T W b mb) (hm : behindInMarks .NotIn b = false := by rfl) : QT X T W (.Compare a [.NotIn] [b] pos) (mTest (mOp gNotIn ma mb)) := qt_cmp ((op_notInD hu).or op_notIn_seq) o2_notIn ha hb hm
theorem q_isB (ha : QB X T W a ma) (hb : QB X T W b mb) : QE X T W (.Compare a [.Is] [b] pos) (mOp gIsB ma mb) := q_cmp op_isBl o2_isB ha hb (nomark _)
theorem qt_isB (ha : QB X T W a ma) (hb : QB X T W b mb) : QT X T W (.Compare a [.Is] [b] pos) (mTest (mOp gIsB ma mb)) := qt_cmp op_isBl o2_isB ha hb (nomark _)
theorem o2_isNotB {X : Cx} {T : Tb} : O2 X T (AR X.K T) rNotB gIsNotB := by
  intro F cm H s W x y dx dy Q r a b p
  unfold gIsNotB at p
  split at p
  · cases a.bl
    cases b.bl
    exact ⟨_, _, rfl, rfl, p.fin r (.bl _)⟩
  · exact p.elim
theorem q_isNotB {X : Cx} {T : Tb} {W : WX} {a b : Expr} {ma mb : EM} {pos : Pos} (ha : QB X T W a ma) (hb : QB X T W b mb) : QE X T W (.Compare a [.IsNot] [b] pos) (mOp gIsNotB ma mb) := q_cmp op_notBl o2_isNotB ha hb (nomark _)
theorem qt_isNotB {X : Cx} {T : Tb} {W : WX} {a b : Expr} {ma mb : EM} {pos : Pos} (ha : QB X T W a ma) (hb : QB X T W b mb) : QT X T W (.Compare a [.IsNot] [b] pos) (mTest (mOp gIsNotB ma mb)) := qt_cmp op_notBl o2_isNotB ha hb (nomark _)
end

/-! ### a new list as a cell; base[i] = e; tuple(cell) -/
def mNewC (m : EM) : EM := fun ρ s => (m ρ s).bind fun d s1 => .ok (.cell s1.length) (s1 ++ [d])
def gTupleC (ds : List D) (s : S) : R D := match ds with
  | [.cell n] => (match s[n]? with
    | some (.lst l) => .ok (.tup l) s
    | _ => .no)
  | _ => gTuple ds s
def setCell (b k d : D) (ρ : List SD) (s : S) : SR := match b, k with
  | .cell n, .int k => (match s[n]? with
    | some (.lst ds) => (match ixN ds.length k with
      | some j => .nx ρ (s.set n (.lst (ds.set j d)))
      | none => .no)
    | _ => .no)
  | _, _ => .no
def mSetIxE (mb mi m : EM) : SM := mE m fun d ρ s => mE mb (fun b ρ s => mE mi (fun k ρ s => setCell b k d ρ s) ρ s) ρ s
section
variable {X : Cx} {T : Tb} {W : WX} {e ix bs : Expr} {m mi mb : EM} {pos p p1 : Pos}
theorem q_newC (h : QF X T W e m) : QE X T W e (mNewC m) := PE.conv h fun σ H Q h => by
  obtain ⟨B, Z, cm, ρ, s, r, p⟩ := h
  refine ⟨B, Z, cm, ρ, s, r, ?_⟩
  unfold mNewC at p
  cases hm : m ρ s with
  | ok d s1 =>
    rw [hm] at p
    refine fun b H' cm' ex r' z => ?_
    have z0 := z
    obtain ⟨q, rfl, r2⟩ := Rel.newCell (F := ⟨B, Z, σ, ρ⟩) r z
    obtain ⟨p0, ds, xs, e1, _, hn, _⟩ := z0
    cases e1
    have len : cm'.length = s1.length := r'.cells.len
    refine p (.ref q) H' (cm' ++ [q]) ⟨ex.pre.trans ⟨[q], rfl⟩, fun a o e n => ⟨(ex.keep a o e n).1, fun z => ?_⟩, ex.there⟩ r2 (.cell (by rw [← len]; simp))
    rcases List.mem_append.mp z with z | z
    · exact (ex.keep a o e n).2 z
    · rw [List.mem_singleton.mp z, hn] at e
      cases e
  | er c ds s1 =>
    rw [hm] at p
    exact p
  | no =>
    rw [hm] at p
    exact p
theorem oc_tupleC : OC X T (AR X.K T) (fun xs H Q => ∃ p ys, xs = [.ref p] ∧ ((SqL X.K H p ys ∧ ∀ l, H l = none → Q (.ref l) (upd H l (.tup ys))) ∨ (SqT X.K H p ys ∧ Q (.ref p) H))) gTupleC := by
  intro F cm H s W xs ds Q r a p
  unfold gTupleC at p
  split at p
  · rename_i n
    split at p
    · rename_i l e0
      cases a with
      | @cons v _ _ _ a t =>
        cases t
        have hc : ∃ c, v = .ref c ∧ cm[n]? = some c := by
          rcases a with z | ⟨c, rfl, o, q⟩
          · cases z with
            | cell h => exact ⟨_, rfl, h⟩
          · exact q.elim
        obtain ⟨c, rfl, hc⟩ := hc
        obtain ⟨ys, h1, h3⟩ := r.cells.at_ n c _ hc e0
        exact ⟨c, ys, rfl, .inl ⟨.of h1, fun q hq => p.fin_new r (sub_upd hq) (rep_tup r hq h3)⟩⟩
    · exact p.elim
  · exact oc_tuple F cm H s W xs _ Q r a p
theorem q_tupleC (hg : Gl X "tuple") (hm : X.mg "tuple" = none) (ha : QB X T W e m) (hs : starEach [e] X.env = (false, eval e X.env) :: starEach [] X.env := by rfl) (hpl : (backTo pos (starEach [] X.env)).any (·.1) = false := by rfl) : QE X T W (.Call (.Name "tuple" p) [e] [] pos) (mCall gTupleC (mCons m mNil)) :=
  q_callTy call_tuple_of oc_tupleC up_AR hg hm PyProof.Rows.boot_tuple (qb_cons ha qb_nil hs) (by decide) (by decide) hs hpl
theorem q_setIxE (he : QE X T W e m) (hb : QE X T W bs mb) (hi : QE X T W ix mi)
    (ha : ∀ v, assign (.Subscript bs ix p1) X.env v = (do
      let ov ← holding [v] (eval bs X.env)
      let iv ← holding [v, ov] (eval ix X.env)
      standAt p1
      holding [v, ov, iv] (setItem ov iv v)
      release [v, ov, iv] []) := by intro _; rfl)
    (hs : swapsWithSole [.Subscript bs ix p1] e pos.line X.env = pure false := by rfl) (hw : swappedStores [.Subscript bs ix p1] e X.env = pure none := by rfl)
    (h1 : (assignEach [.Subscript bs ix p1] X.env).map (·.2) = [assign (.Subscript bs ix p1) X.env] := by rfl) : QSt X T W (.Assign [.Subscript bs ix p1] e pos) (mSetIxE mb mi m) := by
  have h0 := ps_asg (pos := pos) he (pg_sub hb hi set_list ha) hs hw h1
  refine h0.conv fun Ed σ H h => ?_
  refine mE_of (A := AR X.K T) h fun B Z cm0 s0 cm H' ρ d s v pre r0 r z p => ?_
  refine ⟨B, Z, cm, ρ, s, r, tE_of (fun b s' eb bv H2 cm2 ex2 r2 z2 => ?_) (fun c es s' e cls dx H2 cm2 ex r' z2 => ?_) (fun e => ?_)⟩
  · unfold mE at p
    rw [eb] at p
    dsimp only at p
    refine ⟨B, Z, cm2, ρ, s', r2, tE_of (fun k s3 ek kv H3 cm3 ex3 r3 z3 => ?_) (fun c es s3 e cls dx H3 cm3 ex3 r3 z3 => ?_) (fun e => ?_)⟩
    · rw [ek] at p
      dsimp only at p
      unfold setCell at p
      split at p
      · rename_i n k'
        split at p
        · rename_i ds es
          split at p
          · rename_i j ej
            cases z3
            have z2' : Rep X.K T cm2 (GV cm2 Z (Ow σ ρ) H2) bv (.cell n) := z2
            cases z2' with
            | @cell a _ hc =>
              have hc3 := ex3.pre.get hc
              obtain ⟨xs, k1, k2⟩ := r3.cells.at_ n a _ hc3 es
              have z' : Rep X.K T cm3 (GV cm3 Z (Ow σ ρ) H3) v d := Rep.mono (ex2.pre.trans ex3.pre) ((ex2.trans ex3).sub) _ _ z
              exact ⟨a, xs, k', j, rfl, rfl, k1, by rw [k2.len]; exact ej, p σ _ cm3 (ex2.pre.trans ex3.pre) (r3.mutCell hc3 ⟨xs.set j v, upd_same, Reps.set z' j k2⟩)⟩
          · exact p.elim
        · exact p.elim
      · exact p.elim
    · rw [e] at p
      exact p cls dx σ H3 cm3 (ex2.pre.trans ex3.pre) r3 z3
    · rw [e] at p
      exact p
  · unfold mE at p
    rw [e] at p
    exact p cls dx σ H2 cm2 ex.pre r' z2
  · unfold mE at p
    rw [e] at p
    exact p
end

/-! ### an __init__ whose code is to be known -/
section
variable {P : Program} {w : World} {K : PySem.W.Frag} {mg : Str → Option Value} {base : Heap} {T : Tb} {x qual : Str} {params : Arguments} {body : List Stmt} {scope : Scope} {f : Addr} {fd : FuncData}
theorem initC_ok {N ps : List Str} {p0 : Str} {k c nf : Nat} {m : SM} (F : FunD K x qual params body scope [] [] f fd) (S : FnScope N (p0 :: ps) scope) (hN : ps.length + 1 ≤ N.length) (hnf : (T.fl c).length = nf)
    (hbody : ∀ (cdv : Value) (A : Around) (outer : List Env) (s : Shared) (H : Hp) (E : XK) (a : Addr), cdv = .ref (codeF K f) → Room k (A.deeper (envOfC qual scope s.heap.objs.size f cdv)) →
      QSs (cxOf (L2.CX P w) P w K mg base N qual scope f cdv A outer s H E) (T.w (some a)) (fun cls d _ H => E cls d H) body m)
 : FnOk P w K mg base (L2.CX P w) (k + 1) f fd (p0 :: ps) (spI K T c ps.length (mInit c nf (N.length - (ps.length + 1)) m)) := by
  obtain ⟨oc, od, dV, kV, doc, pm, an, cdv, ct, osl, rfl, lk, hcd, _, _⟩ := F.ex
  refine fn_of lk hcd S (fun vs H Q E h => h.1) fun A outer s H vs Q E hr h => ?_
  obtain ⟨hl, a, rest, cm, Z, ds, s0, dx, rfl, hx, hc, hz, cl, r, p⟩ := h
  have hl' : rest.length = ps.length := by simpa using hl
  refine ⟨tS K (T.w (some a)) (fun cls d _ H => E cls d H) m, hbody cdv A outer s H E a (codeF_of lk hcd) hr, ?_⟩
  refine ⟨offX a cm H, Z, cm, _, s0, Rel.startI hx hc hz cl r (by omega), ?_⟩
  rw [hl']
  unfold mInit at p
  -- the instance stays: nobody frees; told by the frame where it is owned, else by the exception's road
  cases e0 : m (SD.own (.sf c []) :: (ds.map .v ++ List.replicate (N.length - (ps.length + 1)) .un)) s0 with
  | nx ρ' s' =>
    rw [e0] at p
    dsimp only at p
    split at p
    · rename_i c' fs e1
      split at p
      · rename_i hcf
        obtain ⟨rfl, hlen⟩ := hcf
        refine fun σ' H' cm' pr r' => ?_
        obtain ⟨b, h1, ⟨h2, dx', gs, h3, h4, h5⟩, h6, h7, h8⟩ := r'.own 0 _ e1
        have eb : b = a := by
          have : some a = some b := h2
          exact (Option.some.inj this).symm
        subst eb
        refine p H' cm' (r'.extX pr) (r'.cells.fewer fun a z => z.elim).bt ?_
        refine .ins (hid_some.mpr ⟨fun z => ?_, h3⟩) ?_ (Reps.bt (Reps.mono (.refl _) (sub_shrink fun a z => z.elim) _ _ h5))
        · rcases z with z | z | z
          · exact h6 z
          · exact h7 z
          · exact z
        · rw [h4, hlen, ← hnf]
          exact List.take_length
      · exact p.elim
    · exact p.elim
  | rt d s' => rw [e0] at p; exact p.elim
  | er k es ρ' s' =>
    rw [e0] at p
    exact fun cls dx' σ' H' cm' pr r' z => p cls dx' H' cm' (r'.extX pr) (r'.cells.fewer fun a z => z.elim).bt (z.mono (.refl _) (sub_shrink fun a z => z.elim) fun _ _ h => h).bt
  | bk ρ' s' => rw [e0] at p; exact p.elim
  | ct ρ' s' => rw [e0] at p; exact p.elim
  | no => rw [e0] at p; exact p.elim
end
end Tv

/-! Txd: the law's start with tables; short words for the printer -/
namespace Tv
open PySem PySem.Spec PyProof.Rows L2 LamX

theorem hu65 {A : Around} {k : Nat} (hr : Room k A) : A.units + 65 < cLine := by have := hr.un; omega
theorem hu64H {A : Around} {k : Nat} (hr : L2H.RoomH k A) : A.units + 64 < cLine := by have := hr.un; omega
theorem hu65H {A : Around} {k : Nat} (hr : L2H.RoomH k A) : A.units + 65 < cLine := by have := hr.un; omega
theorem inj_of {α : Type} {f : Nat → α} : ∀ {l : List Nat}, (l.map f).Nodup → ∀ {c d : Nat}, c ∈ l → d ∈ l → f c = f d → c = d
  | [], _, _, _, h, _, _ => by cases h
  | a :: l, nd, c, d, hc, hd, e => by
    rw [List.map_cons, List.nodup_cons] at nd
    have nm : ∀ x, x ∈ l → f a ≠ f x := fun x hx z => nd.1 (List.mem_map.mpr ⟨x, hx, z.symm⟩)
    rcases List.mem_cons.mp hc with h1 | h1 <;> rcases List.mem_cons.mp hd with h2 | h2
    · rw [h1, h2]
    · rw [h1] at e
      exact absurd e (nm d h2)
    · rw [h2] at e
      exact absurd e.symm (nm c h1)
    · exact inj_of nd.2 h1 h2 e
theorem LamA.le {P : Program} {w : World} {K : PySem.W.Frag} {mg : Str → Option Value} {base : Heap} {T : Tb} {k j l n : Nat} {F : FM} (h : LamA P w K mg base T k l n F) (e : k ≤ j) : LamA P w K mg base T j l n F := by
  obtain ⟨params, body, scope, N, ps, m, h1, h2, h3, h4, h5, h6, h7⟩ := h.ex
  exact ⟨params, body, scope, N, ps, m, h1, h2, h3, h4, h5, h6, fun f cdv A outer s H E hr => h7 f cdv A outer s H E (hr.mono (by omega))⟩
def tabsS (n : Nat) : S := (List.range n).map D.tab
theorem lawG_sp {K : PySem.W.Frag} {T : Tb} {F : FM} {cs : List (Addr × Addr)} (nd : (cs.map (·.2)).Nodup) (hta : ∀ (i : Nat) (p : Addr × Addr), cs[i]? = some p → p.2 = T.ta i)
    (hl : ∀ ns : List Int, ns.length ≤ 63 → (∀ z ∈ ns, Builtin.Int.intBits z ≤ 1048576) → ∃ s, F [scr ns] (tabsS cs.length) = .ok (.bl true) s) (H : Hp) (a : Addr) (ns : List Int) (h1 : ns.length ≤ 63) (h2 : ∀ z ∈ ns, Builtin.Int.intBits z ≤ 1048576)
    (hH : ∀ p ∈ cs, H p.2 = some (.tbl #[])) (hS : SqL K H a (ns.map V.int)) : spD K T 1 F [.ref a] H (fun v _ => v = .bl true) fun _ _ _ => False := by
  obtain ⟨s, e⟩ := hl ns h1 h2
  have hc : ∀ b, b ∈ cs.map (·.2) → H b = some (.tbl #[]) := fun b hb => by
    obtain ⟨p, hp, rfl⟩ := List.mem_map.mp hb
    exact hH p hp
  refine ⟨rfl, cs.map (·.2), fun _ => False, [scr ns], tabsS cs.length, ⟨?_, nd, fun n b d e1 e2 => ?_, fun b hb => ?_, fun _ h => h.elim, fun d hd => ?_⟩, ?_, ?_⟩
  · unfold tabsS
    rw [List.length_map, List.length_map, List.length_range]
  · have hn : n < cs.length := by
      have := (List.getElem?_eq_some_iff.mp e1).1
      rwa [List.length_map] at this
    have e3 : d = .tab n := by
      unfold tabsS at e2
      rw [List.getElem?_map, List.getElem?_range hn] at e2
      exact (Option.some.inj e2).symm
    subst e3
    rw [List.getElem?_map] at e1
    cases q : cs[n]? with
    | none => rw [q] at e1; cases e1
    | some p =>
      rw [q] at e1
      obtain rfl : p.2 = b := Option.some.inj e1
      exact ⟨hta n p q, #[], hH p (List.mem_of_getElem? q), True.intro, fun pos cv h => by
        have z : codeAmong pos [] = some cv := h
        simp [codeAmong] at z⟩
  · rw [hc b hb]
    intro z
    cases z
  · unfold tabsS at hd
    obtain ⟨n, _, rfl⟩ := List.mem_map.mp hd
    rfl
  · refine .cons (.frz ?_ (reps_ints ns)) .nil
    have vis : ∀ u, H a = some u → (∀ ps, u ≠ .tbl ps) → GV (cs.map (·.2)) (fun _ => False) O0 H a = some u := fun u h hu => hid_some.mpr ⟨fun z => by
      rcases z with z | z | z
      · rw [hc a z] at h
        cases h
        exact hu _ rfl
      · exact z
      · exact z, h⟩
    rcases hS with (h | ⟨o, h⟩) | h
    · exact .inl (.inl (vis _ h fun ps z => by cases z))
    · exact .inl (.inr ⟨o, vis _ h fun ps z => by cases z⟩)
    · exact .inr h
  · rw [e]
    intro v H' cm' _ _ r
    cases r
    rfl
end Tv

/-! Tye: the evaluator's steps, the later constructs -/
namespace Tv
open PySem PySem.Spec PyProof.Rows L2
section
variable {ρ : List SD} {s : S} {a b c m mb mi : EM} {lm : LM} {x y d : D} {i k n l : Nat}
theorem v_raise : mRaise i lm ρ s = match lm ρ s with
  | .ok ds s' => .er i ds ρ s'
  | .er k es s' => .er k es ρ s'
  | .no => .no := rfl
theorem v_told {es : List Nat} {nm : Nat → Str} : mTold es nm k n m ρ s = match s[k]? with
  | some (.tab n') => if n' = n then (match m ρ s with
    | .ok d s1 => .ok (.tup [.str "told", d]) s1
    | .er c ds s1 => if c ∈ es then .ok (.tup (.str (nm c) :: ds)) s1 else .no
    | .no => .no) else .no
  | _ => .no := rfl
theorem v_lamV : mLamV k n l ρ s = match s[k]? with
  | some (.tab n') => if n' = n then .ok (.lam l) s else .no
  | _ => .no := rfl
theorem v_callL {tbl tl : List (Nat × FM)} : mCallL i tbl tl lm ρ s = match (ρ[i]? : Option SD) with
  | some (.v (.fn j)) => (match tbl.lookup j with
    | some F => (match lm ρ s with | .ok xs s1 => F xs s1 | .er c ds s => .er c ds s | .no => .no)
    | none => .no)
  | some (.v (.lam j)) => (match tl.lookup j with
    | some F => (match lm ρ s with | .ok xs s1 => F xs s1 | .er c ds s => .er c ds s | .no => .no)
    | none => .no)
  | _ => .no := by
  unfold mCallL
  cases (ρ[i]? : Option SD) with
  | none => rfl
  | some y =>
    cases y with
    | v d =>
      cases d <;> (try rfl)
      · rename_i j
        dsimp only
        cases tbl.lookup j <;> (try rfl)
        dsimp only
        cases lm ρ s <;> rfl
      · rename_i j
        dsimp only
        cases tl.lookup j <;> (try rfl)
        dsimp only
        cases lm ρ s <;> rfl
    | _ => rfl
theorem v_newC : mNewC m ρ s = match m ρ s with
  | .ok d s1 => .ok (.cell s1.length) (s1 ++ [d])
  | .er c ds s => .er c ds s
  | .no => .no := by
  unfold mNewC
  cases m ρ s <;> rfl
theorem v_setIxE : mSetIxE mb mi m ρ s = match m ρ s with
  | .ok d s1 => (match mb ρ s1 with
    | .ok b s2 => (match mi ρ s2 with
      | .ok k s3 => setCell b k d ρ s3
      | .er c ds s => .er c ds ρ s
      | .no => .no)
    | .er c ds s => .er c ds ρ s
    | .no => .no)
  | .er c ds s => .er c ds ρ s
  | .no => .no := by
  unfold mSetIxE mE
  cases m ρ s <;> (try rfl)
  all_goals (
    rename_i d s1
    dsimp only
    cases mb ρ s1 <;> (try rfl)
    rename_i b s2
    dsimp only
    cases mi ρ s2 <;> rfl)
theorem w_setCell {v : Int} : setCell (.cell n) (.int v) d ρ s = match s[n]? with
  | some (.lst ds) => (match ixN ds.length v with
    | some j => .nx ρ (s.set n (.lst (ds.set j d)))
    | none => .no)
  | _ => .no := rfl
theorem w_tupC : gTupleC [.cell n] s = match s[n]? with
  | some (.lst l) => .ok (.tup l) s
  | _ => .no := rfl
theorem w_isNotB {p q : Bool} : gIsNotB (.bl p) (.bl q) s = .ok (.bl (!decide (p = q))) s := rfl
theorem w_ix30 {a b c : D} : gIx (.tup [a, b, c]) (.int 0) s = .ok a s := rfl
theorem w_ix31 {a b c : D} : gIx (.tup [a, b, c]) (.int 1) s = .ok b s := rfl
theorem w_ix32 {a b c : D} : gIx (.tup [a, b, c]) (.int 2) s = .ok c s := rfl
theorem w_ixL30 {a b c : D} : gIx (.lst [a, b, c]) (.int 0) s = .ok a s := rfl
theorem w_ixL31 {a b c : D} : gIx (.lst [a, b, c]) (.int 1) s = .ok b s := rfl
theorem w_ixL32 {a b c : D} : gIx (.lst [a, b, c]) (.int 2) s = .ok c s := rfl
theorem w_ixL20 {a b : D} : gIx (.lst [a, b]) (.int 0) s = .ok a s := rfl
theorem w_ixL21 {a b : D} : gIx (.lst [a, b]) (.int 1) s = .ok b s := rfl
end
end Tv

/-! Tyf: range with a step -/
namespace Tv
open PySem PySem.Spec PyProof.Rows L2
section
variable {X : Cx} {T : Tb} {W : WX} {tg e e2 e3 : Expr} {lm : LM} {p pos : Pos}
def rngC (i c : Int) (n : Nat) : List D := (List.range n).map fun k => .int (i + (k : Nat) * c)
def rgN (i j c : Int) : Nat := (Builtin.Range.rangeSize i j c).toNat
def rgOk (i j c : Int) : Bool := decide (c ≠ 0) && (decide (c.natAbs < 1073741824) && (Builtin.Range.small i j c && decide (Builtin.Range.rangeSize i j c = (rgN i j c : Nat))))
def mRng3 (lm : LM) : LM := fun ρ s => (lm ρ s).bind fun xs s1 => match xs with
  | [.int i, .int j, .int c] => if rgOk i j c = true then .ok (rngC i c (rgN i j c)) s1 else .no
  | _ => .no
theorem aw_rngC {K : PySem.W.Frag} {T : Tb} {F : Fm} {cm : List Addr} {H H0 : Hp} {s : S} {i c : Int} {n : Nat} : AW K T F H0 cm H s (Itc i c n) (rngC i c n) :=
  ⟨_, _, by rw [show (rngC i c n).length = n by unfold rngC; simp]; exact walk_rangeC, fun _ _ => trivial, fun k H1 x H2 hk sub y => by
    obtain ⟨rfl, rfl⟩ := y
    refine ⟨Sub.refl _, .int (i + (k : Nat) * c), ?_, .int _⟩
    have hk' : k < n := by unfold rngC at hk; simpa using hk
    unfold rngC
    simp [hk']⟩
theorem ints3 {K : PySem.W.Frag} {T : Tb} {cm : List Addr} {G : Hp} {xs : List V} {i j c : Int} (h : Reps K T cm G xs [.int i, .int j, .int c]) : xs = [.int i, .int j, .int c] := by
  cases h with
  | cons a b =>
    cases a
    rw [ints2 b]
theorem q_iRng3 (hg : Gl X "range") (hm : X.mg "range" = none) (ha : QS X T W 3 [e, e2, e3] lm) (hs : starEach [e, e2, e3] X.env = (false, eval e X.env) :: starEach [e2, e3] X.env := by rfl) (hpl : (backTo pos (starEach [e2, e3] X.env)).any (·.1) = false := by rfl) : QI X T W tg (.Call (.Name "range" p) [e, e2, e3] [] pos) (mRng3 lm) := PI.conv (pi_range3 hg hm ha hs hpl) fun σ H R h => by
  refine h.bind (ALn X.K T 3) up_AW fun B Z cm ρ x H1 ⟨cm1, dx, s1, e1, r1, a1, p1⟩ => ?_
  dsimp only at p1
  split at p1
  · split at p1
    · rename_i hj
      unfold rgOk at hj
      rw [Bool.and_eq_true, Bool.and_eq_true, Bool.and_eq_true] at hj
      obtain ⟨h1, h2, h3, h4⟩ := hj
      exact ⟨_, _, _, _, ints3 a1.1, ⟨of_decide_eq_true h1, of_decide_eq_true h2, h3, of_decide_eq_true h4⟩, p1.fin r1 aw_rngC⟩
    · exact p1.elim
  · exact p1.elim
end
section
variable {ρ : List SD} {s : S} {lm : LM}
theorem v_rng3 : mRng3 lm ρ s = match lm ρ s with
  | .ok xs s1 => (match xs with
    | [.int i, .int j, .int c] => if rgOk i j c = true then .ok (rngC i c (rgN i j c)) s1 else .no
    | _ => .no)
  | .er c ds s => .er c ds s
  | .no => .no := by
  unfold mRng3
  cases lm ρ s <;> rfl
end
end Tv

/-! Tyg: the Hook again, its addresses found with less work for the kernel; the run's equation in two parts -/
namespace Tv
open PySem PySem.Spec PyProof.Rows L2 LamX He PySem.W
def addZ {R : Type} : List Addr → Nat → List Addr → (Nat → List Addr → R) → R
  | [], m, acc, k => k m acc
  | r :: rs, m, acc, k => HandSHeadRun.frNat r fun r => match Nat.beq (Nat.mod (Nat.div m (Nat.pow 2 r)) 2) 1 with
    | true => addZ rs m acc k
    | false => HandSHeadRun.frNat (Nat.add m (Nat.pow 2 r)) fun m => addZ rs m (r :: acc) k
def lvZ {R : Type} (g : Addr → Option Obj) : List Addr → Nat → List Addr → (Nat → List Addr → R) → R
  | [], m, acc, k => k m acc
  | a :: fr, m, acc, k => match g a with
    | some o => addZ (refsD o) m acc fun m acc => lvZ g fr m acc k
    | none => lvZ g fr m acc k
def bfsZ (g : Addr → Option Obj) : Nat → List Addr → Nat → List Addr → List Addr
  | 0, _, _, al => al
  | n + 1, fr, m, al => lvZ g fr m [] fun m nw => bfsZ g n nw m (al ++ nw)
def asZ (g : Addr → Option Obj) (n : Nat) : List Addr := bfsZ g n [mainGlobals] (Nat.add (Nat.pow 2 mainGlobals) (Nat.pow 2 cStatics)) [mainGlobals, cStatics]
def obsZ (n : Nat) (fa : List Fa) (fn : List DefD) (ts : List Tab) (tf : List Defn) (ex : Frag → Bool) (fx : List XD) (g : Addr → Option Obj) : AlY := ((obsT fa fn ts (frT g (asZ g n)), ex (frT g (asZ g n)) && tabsB g tf (frT g (asZ g n))), fx.map fun d => fnY (frT g (asZ g n)) d.at_)
theorem saysZ_of {n : Nat} {fa : List Fa} {fn : List DefD} {ts : List Tab} {tf : List Defn} {ex : Frag → Bool} {fx : List XD} {w : World} {h : Heap} (e : obsZ n fa fn ts tf ex fx h.get? = valY fn ts fx w) : SaysY fa fn ts tf ex fx w h (frT h.get? (asZ h.get? n)) := by
  unfold obsZ at e
  generalize asZ h.get? n = as at *
  have e1 : obsT fa fn ts (frT h.get? as) = valT fn ts w := congrArg (fun z : AlY => z.1.1) e
  have e2 : (ex (frT h.get? as) && tabsB h.get? tf (frT h.get? as)) = true := congrArg (fun z : AlY => z.1.2) e
  have e3 : fx.map (fun d => fnY (frT h.get? as) d.at_) = fx.map XD.val := congrArg (fun z : AlY => z.2) e
  obtain ⟨h1, h2⟩ := ba e2
  have each : ∀ p ∈ tf, codeHdIn (frT h.get? as) (cT (frT h.get? as) p).1 (cT (frT h.get? as) p).2 = true ∧ ∃ o, h.get? (cT (frT h.get? as) p).2 = some o ∧ emptyTab o = true := fun p hp => by
    obtain ⟨h3, h4⟩ := ba (List.all_eq_true.mp h2 p hp)
    refine ⟨h3, ?_⟩
    cases q : h.get? (cT (frT h.get? as) p).2 with
    | none => rw [q] at h4; cases h4
    | some o => rw [q] at h4; exact ⟨o, rfl, h4⟩
  refine ⟨⟨e1, h1, fun p hp => (each p hp).1, fun p hp => ?_, fun p hp => ?_⟩, e3⟩
  · obtain ⟨_, o, q, z⟩ := each p hp
    exact frT_none q z
  · obtain ⟨_, o, q, z⟩ := each p hp
    rw [q, emptyTab_eq z]
def hookZ (n : Nat) (fa : List Fa) (fn : List DefD) (ts : List Tab) (tf : List Defn) (ex : Frag → Bool) (fx : List XD) : Hook where
  α := AlY
  obs := fun s => obsZ n fa fn ts tf ex fx s.heap.get?
  val := fun w => valY fn ts fx w
  says := fun w h => ∃ K : Frag, K.In h ∧ SaysY fa fn ts tf ex fx w h K
  of := fun _ _ e => ⟨_, frT_in, saysZ_of e⟩
  keeps := fun _ _ _ ⟨K, hK, c⟩ k => ⟨K, Frag.In.keeps hK k, ⟨⟨c.x.t, c.x.more, c.x.hd, c.x.out, fun p hp => k _ _ (c.x.empty p hp)⟩, c.y⟩⟩
theorem obsZ_eq {n : Nat} {fa : List Fa} {fn : List DefD} {ts : List Tab} {tf : List Defn} {ex : Frag → Bool} {fx : List XD} {g : Addr → Option Obj} {s : Shared} (h : ∀ a, g a = s.heap.get? a) : obsZ n fa fn ts tf ex fx g = (hookZ n fa fn ts tf ex fx).obs s := by
  have e : g = s.heap.get? := funext h
  rw [e] <;> rfl
/-- two looks at one end -/
theorem map_two {α β γ : Type} {x : Option α} {f : α → β} {g : α → γ} {a : β} {b : γ} (h1 : x.map f = some a) (h2 : x.map g = some b) : x.map (fun s => (f s, g s)) = some (a, b) := by
  cases x with
  | none => cases h1
  | some s =>
    cases h1
    cases h2
    rfl
theorem map_three {α β γ δ : Type} {x : Option α} {f : α → β} {g : α → γ} {e : α → δ} {a : β} {b : γ} {c : δ} (h1 : x.map (fun s => (f s, g s)) = some (a, b)) (h2 : x.map e = some c) : x.map (fun s => (f s, g s, e s)) = some (a, b, c) := by
  cases x with
  | none => cases h1
  | some s =>
    cases h1
    cases h2
    rfl
/-- the run's two looks, each by itself -/
def RunA (r : OpenRow) (q : Program) (M : Nat) (loose : List Str) (w : World) : Prop :=
  ∀ os : OsState, (HandSHeadRun.endF (HandSHeadRun.stepQ (HandSHeadRun.denQ HandSHeadRun.tabQ) r.prog w) M r.prog w os).map (fun s => (HandSHeadRun.looksF r.prog (boot_heap w.params) s.abs, HandSHeadRun.seenQ q loose (importedModules r.prog.main.body) (fun s => xlAt q [] s && recOk r.toRowW.records s) s.abs)) = some (true, openGood q loose)
def RunB (r : OpenRow) (H : Hook) (ob : SharedT → H.α) (M : Nat) (w : World) : Prop :=
  ∀ os : OsState, (HandSHeadRun.endF (HandSHeadRun.stepQ (HandSHeadRun.denQ HandSHeadRun.tabQ) r.prog w) M r.prog w os).map ob = some (H.val w)
theorem run_two {r : OpenRow} {q : Program} {H : Hook} {ob : SharedT → H.α} {M : Nat} {loose : List Str} {w : World} (a : RunA r q M loose w) (b : RunB r H ob M w) : HandSHeadRun.RunEq r q H ob M loose w := fun os => map_three (a os) (b os)
end Tv

/-! Tyh: lambda a=0: e, made and handed to the def that tells -/
namespace Tv
open PySem PySem.Spec PyProof.Rows L2 LamX
section
variable {X : Cx} {pins : List (Addr × Obj)} {σ : L2.St} {H HZ : Hp} {s s1 : Shared}
abbrev lamQ (X : Cx) : Str := X.env.qual ++ "<lambda>"
abbrev lamC (X : Cx) (sc : Scope) : List (Str × Addr) := cloFrom X.env.cells sc.names []
/-- the function behind lambda a=0: e -/
abbrev dflO (X : Cx) (pr : Arguments) (bd : Expr) (sc : Scope) (t : Addr) (doc pm : Value) (c' : Addr) (ct : Value) : Obj := PySem.W.kdv_obj "<lambda>" (lamQ X) pr (.expr bd) sc (lamC X sc) (.ref t) doc pm c' ct
theorem lam_makeD {c P : Addr} {pr : Arguments} {bd : Expr} {sc : Scope} {lp dq : Pos} {di : Int} {dj : Nat} {R : Value → Shared → Prop} (J : Inv X pins σ H s) (TB : TabB X.base X.mg c P) (hco : X.env.code = .ref c)
    (hT : TabS H P (lamQ X)) (hd : pr.defaults = [.Constant (.int di) dj dq]) (hk : pr.kw_defaults = []) (hfr : ∀ y ∈ sc.names, y.2 = .free → ∃ c, X.env.cells.lookup y.1 = some c)
    (fin : ∀ (f t c' : Addr) (v0 pm ct doc : Value) (H1 : Hp) (s' : Shared), RelV (.int di) v0 → Inv X pins σ H1 s' → TabUp P (lamQ X) H c' H1 → s'.heap.get? f = some (dflO X pr bd sc t doc pm c' ct) → s'.heap.get? t = some (PySem.W.kdv_tup [v0]) →
      H1 f = none → f ∉ frs X.stack → H1 t = none → t ∉ frs X.stack → H1 c' = some (CodeO c' (lamQ X)) → R (.ref f) s') :
    wpAny (model X.prog X.w) X.A (eval (.Lambda pr bd sc lp) X.env) R X.xe s := by
  refine PySem.W.kdv_lam (by rw [hd]; rfl) hk ?_
  rw [hd]
  refine PySem.W.kdv_all1 (wpAny_mono ((pe_int (X := X) (i := di) (j := dj) (pos := dq)).run pins s σ H (fun v H1 => v = .int di ∧ H1 = H) J ⟨rfl, rfl⟩) (fun v0 sv qv => ?_) fun _ _ z => ?_)
  · obtain ⟨w0, Hv, Jv, rv, rfl, rfl⟩ := qv
    refine PySem.W.kdv_all0 ?_
    rw [makeFunction_eq]
    simp only [List.zip_nil_right, List.filterMap_nil, List.isEmpty_nil, List.isEmpty_cons, if_true, pure_bind, Bool.false_eq_true, if_false]
    refine wpAny_bind (wpAny_newTextTuple ?_)
    obtain ⟨ps, gH, tri, known⟩ := hT
    have off : ∀ f, sv.heap.objs.size ≤ f → f ∉ frs X.stack := fun f hf z => by
      rcases List.mem_cons.mp (Jv.stkSub _ z) with e | e
      · have k := Jv.lt
        rw [← e] at k
        exact absurd k (Nat.not_lt_of_le hf)
      · exact Jv.nofs hf e
    have t0 : Hv sv.heap.objs.size = none := Jv.hok.fresh (Nat.le_refl _)
    have tf : sv.heap.objs.size ∉ frs X.stack := off _ (Nat.le_refl _)
    have tg : (sv.heap.push (PySem.W.kdv_tup [v0])).get? sv.heap.objs.size = some (PySem.W.kdv_tup [v0]) := Heap.get?_push_size _ rfl
    have Jt : Inv X pins σ Hv { sv with heap := sv.heap.push (PySem.W.kdv_tup [v0]) } := Jv.kept (t' := sv.toks) fun b o e => Heap.get?_push_of_some _ e
    have up0 : sv.heap.objs.size < (sv.heap.push (PySem.W.kdv_tup [v0])).objs.size := by rw [Heap.size_push]; omega
    generalize hsv : ({ sv with heap := sv.heap.push (PySem.W.kdv_tup [v0]) } : Shared) = st at *
    have eh : st.heap = sv.heap.push (PySem.W.kdv_tup [v0]) := by rw [← hsv]
    rw [← eh] at tg up0
    have bP := TB.bm.keeps Jt.bk
    have gP := Jt.hok P _ gH
    cases hc : codeAmong lp ps.toList with
    | some cv =>
      obtain ⟨c', rfl, hcc⟩ := known lp cv hc
      refine PySem.W.kdv_makeTailHit (closure_ok hfr) Jt.ok.glob (Jt.mod.glob.keeps Jt.bk) hco (TB.code.keeps Jt.bk) gP tri hc bP fun ct doc h' tk hx hz => ?_
      have nf : h'.objs.size ∉ frs X.stack := off _ (by omega)
      exact fin h'.objs.size sv.heap.objs.size c' v0 ((X.mg "__name__").getD .none) ct doc Hv _ rv (Jt.kept fun b o e => Heap.get?_push_of_some _ (hx b o e)) (.hit gH hc hcc) (Heap.get?_push_size _ rfl) (Heap.get?_push_of_some _ (hx _ _ tg)) (Jt.hok.fresh hz) nf t0 tf hcc
    | none =>
      refine PySem.W.kdv_makeTail (closure_ok hfr) Jt.ok.glob (Jt.mod.glob.keeps Jt.bk) hco (TB.code.keeps Jt.bk) gP tri hc TB.gP bP fun c' ct doc h' tk hx hge hlt hrec htb => ?_
      obtain ⟨c2, oc, vs, tt, e2, hoc, hdc, hvc⟩ := hrec
      obtain rfl : c' = c2 := Value.ref.inj e2
      have nC : Hv c' = none := Jt.hok.fresh hge
      have nP : P ≠ c' := ne_of_none gH nC
      have tP : sv.heap.objs.size ≠ P := fun e => by
        rw [e, gH] at t0
        cases t0
      have K1 := inv_table (t' := tk) (more := #[rawInt lp.line, rawInt lp.col, .ref c']) (h' := h'.push (dflO X pr bd sc sv.heap.objs.size doc ((X.mg "__name__").getD .none) c' ct)) Jt gH
        (fun b o hb e => Heap.get?_push_of_some _ (hx b o hb e)) (Heap.get?_push_of_some _ htb) hge ⟨oc, vs, tt, Heap.get?_push_of_some _ hoc, hdc, hvc⟩
      have el : (ps ++ #[rawInt lp.line, rawInt lp.col, .ref c']).toList = ps.toList ++ [rawInt lp.line, rawInt lp.col, .ref c'] := by simp
      have big : st.heap.objs.size ≤ h'.objs.size := by omega
      have PL : P < st.heap.objs.size := Heap.lt_size gP
      have up1 : TabUp P (lamQ X) Hv c' (upd (upd Hv P (.tbl (ps ++ #[rawInt lp.line, rawInt lp.col, .ref c']))) c' (CodeO c' (lamQ X))) :=
        .new gH nC (by rw [el]; exact PySem.TriplesOk_snoc _ _ _ _ tri) fun p' cv hcv => by rw [el] at hcv; exact among_app _ tri hcv
      have fN : upd (upd Hv P (.tbl (ps ++ #[rawInt lp.line, rawInt lp.col, .ref c']))) c' (CodeO c' (lamQ X)) h'.objs.size = none := by
        rw [upd_ne (Nat.ne_of_gt hlt), upd_ne (Nat.ne_of_gt (Nat.lt_of_lt_of_le PL big))]
        exact Jt.hok.fresh big
      have tN : upd (upd Hv P (.tbl (ps ++ #[rawInt lp.line, rawInt lp.col, .ref c']))) c' (CodeO c' (lamQ X)) sv.heap.objs.size = none := by
        rw [upd_ne (Nat.ne_of_lt (Nat.lt_of_lt_of_le up0 hge)), upd_ne tP]
        exact t0
      exact fin h'.objs.size sv.heap.objs.size c' v0 ((X.mg "__name__").getD .none) ct doc _ _ rv K1 up1 (Heap.get?_push_size _ rfl) (Heap.get?_push_of_some _ (hx _ _ tP tg)) fN (off _ (by omega)) tN tf upd_same
  · exact z
/-- one parameter with a default, of a name that the maker does not use; no name of its own but that one -/
structure LamD (sc lam : Scope) (N : List Str) (a : Str) : Prop where
  kind : lam.kind = .function
  co : lam.isCoroutine = false
  gen : lam.isGenerator = false
  cell : ∀ y ∈ lam.names, y.2 ≠ .cell
  par : lam.names.lookup a = some .local
  own : ∀ y ∈ lam.names, y.2 = .local → y.1 ∉ N
  free : ∀ y ∈ lam.names, y.2 = .free → sc.names.lookup y.1 = some .cell ∨ sc.names.lookup y.1 = some .free
theorem LamD.has {lam : Scope} {N : List Str} {a : Str} (D : LamD X.env.scope lam N a) (ok : X.Ok) : ∀ y ∈ lam.names, y.2 = .free → ∃ c, X.env.cells.lookup y.1 = some c := fun y hy e =>
  (D.free y hy e).elim (fun k => ok.has _ (.inl k)) fun k => ok.has _ (.inr k)
theorem lam_startD {B : Around} {ou : List Env} {Ee : XK} {lam : Scope} {f c' : Addr} {g₁ : Heap} {tk : Nat} {a : Str} {v0 : Value} (I : Inv X pins σ H s) (D : LamD X.env.scope lam X.N a) (e0 : Env0 X.prog X.w X.K X.mg X.base B ou s1 HZ) (hd : B.handled = none)
    (un : Un (frs X.stack) [] H HZ s.heap s1.heap) (hns : g₁.Ns s1.heap.objs.size fun y => ([(a, v0)] : List (Str × Value)).reverse.lookup y) (kp : ∀ b o, s1.heap.get? b = some o → g₁.get? b = some o) :
    Inv (lamCx X B ou s1 HZ Ee lam f c') [] σ HZ { s1 with heap := g₁, toks := tk } := by
  have frees := D.has I.ok
  have back : ∀ {y c}, (lamC X lam).lookup y = some c → X.env.cells.lookup y = some c := fun {y c} e => by
    rcases cloFrom_mem (PySem.mem_of_lookup e) with z | ⟨h1, h2⟩
    · cases z
    · obtain ⟨c1, q⟩ := frees _ h1 rfl
      have q : X.env.cells.lookup y = some c1 := q
      have : c = c1 := by
        rw [h2, q] <;> rfl
      rw [this]
      exact q
  have there : ∀ {y}, lam.names.lookup y = some .free → ∃ c, (lamC X lam).lookup y = some c := fun {y} q => mem_lookup (cloFrom_has (cells := X.env.cells) (acc := []) (PySem.mem_of_lookup q : (y, NameKind.free) ∈ lam.names))
  have stays : ∀ {c : Addr} {v : Option Value}, H c = none → s.heap.IsCell c v → g₁.IsCell c v := fun {c v} n ⟨o, ho, hv⟩ => by
    obtain ⟨sl, q⟩ := un.any ho n (by simp)
    exact ⟨_, kp _ _ q, hv⟩
  have none_ : ∀ b : Addr, b ∉ (lamCx X B ou s1 HZ Ee lam f c').ex := fun b z => absurd (show b ∈ ([] : List Addr) from z) (by simp)
  refine ⟨⟨e0.mod, D.kind, rfl, rfl, Nat.le_refl _, fun y z c e1 e2 => I.ok.inj y z c (back e1) (back e2), fun y hy => ?_, fun y c z _ => ?_, fun _ => hd, Around.frames_deeper e0.frames, .inr ⟨rfl, rfl⟩, fun b z => absurd z (none_ b), e0.bs, e0.bsz,
      fun b _ _ => none_ b, fun b z => absurd z (none_ b), e0.funs, e0.frf⟩,
    rfl, e0.bare, Un.kept kp, ⟨_, hns, fun i y v e1 e2 e3 => ?_⟩, fun y c e => ?_, e0.hok.fresh (Nat.le_refl _), fun y c e => ?_, fun q hq => absurd (show q ∈ ([] : List (Addr × Obj)) ++ [] from hq) (by simp), e0.hok.kept kp, I.len⟩
  · have hy : lam.names.lookup y = some .cell ∨ lam.names.lookup y = some .free := hy
    rcases hy with q | q
    · exact absurd rfl (D.cell _ (PySem.mem_of_lookup q))
    · exact there q
  · have z : false = true := z
    cases z
  · have e3 : Vis lam y := e3
    rcases e3 with q | q | q
    · exact absurd (List.mem_of_getElem? e1) (D.own _ (PySem.mem_of_lookup q) rfl)
    · exact absurd rfl (D.cell _ (PySem.mem_of_lookup q))
    · obtain ⟨m, hn, hl⟩ := I.loc
      have sees : Vis X.env.scope y := (D.free _ (PySem.mem_of_lookup q) rfl).elim (fun k => .inr (.inl k)) fun k => .inr (.inr k)
      obtain ⟨w', r, u⟩ := hl i y v e1 e2 sees
      obtain ⟨c2, h2⟩ := there q
      refine ⟨w', r, .inr ⟨.inr q, c2, h2, ?_⟩⟩
      have c1 := back h2
      rcases u with ⟨k', _⟩ | ⟨_, c3, e', z⟩
      · have k' : X.env.scope.names.lookup y = some .local := k'
        rcases D.free _ (PySem.mem_of_lookup q) rfl with k2 | k2 <;> rw [show X.env.scope.names.lookup y = _ from k2] at k' <;> cases k'
      · rw [c1] at e'
        cases e'
        exact stays (I.freeC y _ c1) z
  · obtain ⟨w', z⟩ := I.cell y c (back e)
    exact ⟨w', stays (I.freeC y c (back e)) z⟩
  · obtain ⟨v, o, ho, hv⟩ := I.cell y c (back e)
    exact un.free c o ho (I.freeC y c (back e)) (by simp)
/-- what the call without arguments binds: the default -/
def BindD (X : Cx) (pr : Arguments) (bd : Expr) (lam : Scope) (a : Str) : Prop := ∀ (t c' : Addr) (doc pm ct v0 : Value), ∃ k, bindArgs (PySem.W.kdv_fn "<lambda>" (lamQ X) pr (.expr bd) lam (lamC X lam) (.ref t) doc pm (.ref c') ct) ⟨[], []⟩ = seqItems? (.ref t) >>= k ∧ k (some [v0].toArray) = pure [(a, v0)]
theorem pe_actD {CXg : CXT} {Eg : XK} {Ng : List Str} {qg : Str} {sg : Scope} {g f t c' : Addr} {cdg pm doc ct v0 : Value} {pr : Arguments} {bd : Expr} {lam : Scope} {k i : Nat} {x a : Str} {pn : List (Addr × Obj)} {xe : Value → Shared → Prop} {W : WX} {Ee : XK} {tb : TE} {p1 p2 : Pos}
    (I : Inv X pins σ H s) (D : LamD X.env.scope lam X.N a) (hf : s.heap.get? f = some (dflO X pr bd lam t doc pm c' ct)) (ht : s.heap.get? t = some (PySem.W.kdv_tup [v0])) (nf : H f = none) (of : f ∉ frs X.stack) (nt : H t = none) (ot : t ∉ frs X.stack)
    (hb : BindD X pr bd lam a) (tk : Takes ((cxOf CXg X.prog X.w X.K X.mg X.base Ng qg sg g cdg X.A X.stack s H Eg).tr pn xe) W) (hW : ∀ cls d σ' H', Ee cls d H' → W cls d σ' H') (hr : Room (k + 1) (X.A.deeper (envOfC qg sg s.heap.objs.size g cdg)))
    (hbody : ∀ (B : Around) (ou : List Env) (s : Shared) (H : Hp), Room k (B.deeper (lamEnv X lam s.heap.objs.size f c')) → PE (lamCx X B ou s H Ee lam f c') bd tb)
    (hN : Ng[i]? = some x) (hv : Vis sg x) (hdx : (x == ("__debug__" : Str)) = false := by decide) (hcx : (x == ("__classdict__" : Str)) = false := by decide) :
    PE ((cxOf CXg X.prog X.w X.K X.mg X.base Ng qg sg g cdg X.A X.stack s H Eg).tr pn xe) (.Call (.Name x p1) [] [] p2)
      (fun σZ HZ Q => σZ[i]? = some (some (.ref f)) ∧ HZ c' = some (CodeO c' (lamQ X)) ∧ tb σ HZ Q) := by
  refine ⟨fun pinsZ sZ σZ HZ Q IZ ⟨hs, hc, hq0⟩ => ?_⟩
  refine wpAny_Call_Name_kw (thn ((pe_var (pos := p1) (i := i) hN hv hdx hcx).run pinsZ sZ σZ HZ (fun v H1 => v = .ref f ∧ H1 = HZ) IZ ⟨.ref f, hs, rfl, rfl⟩) fun u s1 ⟨v, H1, I1, r1, ev, eH⟩ => ?_)
  subst ev
  rw [eH] at I1
  obtain rfl : u = Value.ref f := r1
  have noE : ∀ b : Addr, b ∉ ([] : List Addr) := fun b z => nomatch z
  have f1 : s1.heap.get? f = some (dflO X pr bd lam t doc pm c' ct) := I1.base.keep f _ hf nf of (noE f)
  have t1 : s1.heap.get? t = some (PySem.W.kdv_tup [v0]) := I1.base.keep t _ ht nt ot (noE t)
  refine PySem.W.callWith_F0 ⟨_, _, _, _, f1⟩ ?_
  have un : Un (frs X.stack) [] H HZ s.heap s1.heap := I1.base
  obtain ⟨⟨oc, vs, tq, hoc, hdc, hvc⟩, _, _⟩ := I1.hok c' _ hc
  have rc : codeAny (model X.prog X.w) (X.A.deeper (envOfC qg sg s.heap.objs.size g cdg)) (.call (.ref f) ⟨[], []⟩) (CR (L2.CX X.prog X.w) (envOfC qg sg s.heap.objs.size g cdg :: X.stack) X.prog X.w HZ s1 Q Ee) s1 := by
    refine PySem.W.kla_callFunE hr.depth f1 rfl D.co D.gen rfl ⟨c', oc, vs, tq, rfl, hoc, hdc, hvc⟩ ?_
    obtain ⟨kk, b1, b2⟩ := hb t c' doc pm ct v0
    refine BindsTo.of_defaults (T := t) (k := kk) (items := [v0].toArray) (binds := [(a, v0)]) rfl t1 rfl b1 b2 _ _ _ _ ?_
    refine wpAny_newFunctionEnv D.cell (fun y hy => by rw [List.mem_singleton.mp hy]; exact D.par) (fun g₁ hns hsb => ⟨I1.nolimit.fresh _ hsb, ?_⟩) D.kind
    show codeAny _ _ (.expr bd (lamEnv X lam s1.heap.objs.size f c')) _ _
    have J : Inv (lamCx X (X.A.deeper (envOfC qg sg s.heap.objs.size g cdg)) (envOfC qg sg s.heap.objs.size g cdg :: X.stack) s1 HZ Ee lam f c') [] σ HZ { s1 with heap := g₁, toks := s1.toks + ([(a, v0)] : List (Str × Value)).length } :=
      lam_startD I D I1.env0 hr.hd un hns fun b o e => hsb.extBut b o (Nat.ne_of_lt (Heap.lt_size e)) (Heap.get?_push_of_some _ e)
    refine PySem.W.kla_codeExpr (wpAny_mono ((hbody _ _ s1 HZ (hr.deeper _)).run [] _ _ HZ Q J hq0) (fun v s' z => ?_) fun e s' z => z)
    obtain ⟨w', H', J', rv, q⟩ := z
    exact ⟨w', H', J'.os, J'.bare, J'.base, J'.hok, rv, q⟩
  have px : Passes (L2.CX X.prog X.w) ((cxOf CXg X.prog X.w X.K X.mg X.base Ng qg sg g cdg X.A X.stack s H Eg).tr pn xe) Ee := passes_call tk hW
  refine wpAny_call (codeAny_mono rc fun r s' z => ?_)
  match r, z with
  | .error e, z => exact px pinsZ σZ HZ s1 e s' I1 z
  | .ok (.ret u), z => exact I1.after z
  | .ok .next, z => exact z.elim
  | .ok .brk, z => exact z.elim
  | .ok .cont, z => exact z.elim
end
section
variable {X : Cx} {T : Tb} {W : WX} {es : List Nat} {nm : Nat → Str}
theorem q_toldD {k kk n : Nat} {x to te tr : Str} {cc : Addr} {m : EM} {params : Arguments} {body : Expr} {scope : Scope} {p lpos pos : Pos} (TL : Tell X.prog X.w X.K X.mg X.base T es nm k x to te tr) (hT : T.xv = none) (TB : TabB X.base X.mg cc (T.ta n)) (hcode : X.env.code = .ref cc) (hq : T.tq n = X.env.qual ++ "<lambda>")
    {j : Nat} (hr : Room j X.A) (hj : k + 3 ≤ j) {di : Int} {dj : Nat} {dq : Pos} {a0 : Str} (L : LamD X.env.scope scope X.N a0) (hdd : params.defaults = [.Constant (.int di) dj dq]) (hdk : params.kw_defaults = []) (hbind : BindD X params body scope a0)
    (hbody : ∀ (A : Around) (outer : List Env) (s : Shared) (H : Hp) (E : XK) (f c' : Addr), Room (j - 2) (A.deeper (lamEnv X scope s.heap.objs.size f c')) → QE (lamCx X A outer s H E scope f c') T (fun cls d _ H => E cls d H) body m)
    (hg : Gl X x := by rfl) (hdb : (x == ("__debug__" : Str)) = false := by decide) : QE X T W (.Call (.Name x p) [.Lambda params body scope lpos] [] pos) (mTold es nm kk n m) := by
  refine ⟨fun pins s σ H Q I h => ?_⟩
  obtain ⟨B, Z, cm, ρ, s0, r, ps⟩ := h
  unfold mTold at ps
  split at ps
  · rename_i n' hk
    split at ps
    · rename_i en
      subst en
      have hq' : T.tq n' = lamQ X := hq
      obtain ⟨hc, hTab⟩ := r.tab hk
      obtain ⟨g, qual, pg, sg, fd, jj, p1, p2, p3, p4, p5, p6, p7, p8, p9, p10, p11, p12, x1, hm, FD, Sg, hb, ge, gr, lo, le⟩ := TL.ex
      obtain ⟨F, hF, hFv⟩ := TL.hot
      obtain ⟨C, hC, hex⟩ := TL.bs
      refine wpAny_Call_Name_kw (ld_glob I hg hm ?_ hdb)
      refine PySem.W.callWith_K (h₀ := X.base) I.ok.mod.kin FD.kp ?_ (by rfl) (by rfl)
      show wpAny _ _ (spliced ((false, eval (.Lambda params body scope lpos) X.env) :: backTo pos (starEach [] X.env))) _ _ s
      refine Calls.spliced_cons (lam_makeD I TB hcode (by rw [← hq']; exact hTab) hdd hdk (L.has I.ok) fun f t c' v0 pm' ctv doc' H1 s' rv0 I1 up hf ht hfn hfr htn htr hco => ?_)
      refine Calls.spliced_nil ⟨I1.kIn, ?_⟩
      rw [← hq'] at up hco
      obtain ⟨ex1, r1⟩ := r.tabUp hk up
      have rc : codeAny (model X.prog X.w) X.A (.call (.ref g) ⟨[.ref f], []⟩) (CR C8.CX0 X.stack X.prog X.w H1 s' Q C8.E0) s' := by
        obtain ⟨oc, od, dV, kV, doc, pm, an, cdv, ct, osl, rfl, lk, hcd, _, _⟩ := FD.ex
        obtain ⟨j', rfl⟩ : ∃ j', j = j' + 2 := ⟨j - 2, by omega⟩
        have hb1 := hb s' [.ref f] I1.kIn rfl
        rw [List.append_nil] at hb1
        refine run_ofS (N := [to, "e"]) (ps := [to]) (us := [.ref f]) (vs := [.ref f]) lk hcd Sg hr I1.env0 hb1 (.cons rfl .nil) rfl fun hr' => ?_
        refine ⟨_, PSs.nox (pss_one (ps_try_as (X := (cxOf C8.CX0 X.prog X.w X.K X.mg X.base [to, "e"] qual sg g cdv X.A X.stack s' H1 C8.E0).nox) (x := te) (n := "e") (c := .ref C) (i := 1)
          (tb := fun W D σZ HZ => ∃ Ech : XK, (∀ cls d σ' H', Ech cls d H' → W cls d σ' H') ∧ σZ[0]? = some (some (.ref f)) ∧ HZ c' = some (CodeO c' (T.tq n')) ∧ tP X.K T (fun cls d _ H => Ech cls d H) (AR X.K T) m σ HZ fun v H' => ∀ p, H' p = none → D.rt (.ref p) (upd H' p (.tup [.str "told", v])))
          (ts := fun a cls d D σZ HZ => (σZ.length = 2 → σZ[1]? = some (some (.ref a))) ∧ RHX X.K T es F cls d HZ D.rt)
          rfl rfl Sg.nd rfl le ⟨ge, TL.de, .inl hC⟩ LamX.takes0 (fun W pn xe tk _ => ?_) (fun a oe cls d pn hz hd => ?_))), ?_⟩
        · -- the body
          refine ⟨fun pins s2 σZ HZ D I2 h2 => ?_⟩
          obtain ⟨Ech, hW, h0, h1, h3⟩ := h2
          have hp := pe_actD (tb := tP X.K T (fun cls d _ H => Ech cls d H) (AR X.K T) m) (Eg := C8.E0) (CXg := C8.CX0) (Ng := [to, "e"]) (qg := qual) (sg := sg) (g := g) (cdg := cdv) (k := j') (i := 0) (x := to) (p1 := p2) (p2 := p3) I1 L hf ht hfn hfr htn htr hbind tk hW hr' (fun A outer s H hr2 => hbody A outer s H Ech f c' (by simpa using hr2)) rfl (.inl lo) TL.dt TL.ct
          rw [← hq'] at hp
          refine (pss_one (ps_ret (pos := p5) (pe_tup (pos := p4) (x1 := x1) (pa_cons (pe_str (x := "told") (j := jj) (pos := p1)) (pa_cons hp pa_nil rfl) rfl)))).run pins s2 σZ HZ D I2 ?_
          refine ⟨h0, h1, ?_⟩
          obtain ⟨B', Z', cm', ρ', s0', r', pp⟩ := h3
          refine ⟨B', Z', cm', ρ', s0', r', pp.mono fun v H' hv => ⟨by show 2 ≤ sizeLine; rw [sizeLine_eq]; omega, hv⟩⟩
        · -- the suite
          obtain ⟨vs, hd⟩ := hd
          have hrH : L2H.RoomH (k + 1) (((cxOf C8.CX0 X.prog X.w X.K X.mg X.base [to, "e"] qual sg g cdv X.A X.stack s' H1 C8.E0).nox.suite a ((a, oe) :: pn)).A) := by
            have h1 := hr'.dp
            have h2 := hr'.un
            refine ⟨?_, ?_⟩
            · show (X.A.deeper (envOfC qual sg s'.heap.objs.size g cdv)).depth + 3 * (k + 1) + 5 < recursionLimit
              omega
            · show (X.A.deeper (envOfC qual sg s'.heap.objs.size g cdv)).units + 16 * (k + 1) + 200 < cLine
              omega
          exact pss_one (ps_ret (pos := p10) (pe_hot (X := (cxOf C8.CX0 X.prog X.w X.K X.mg X.base [to, "e"] qual sg g cdv X.A X.stack s' H1 C8.E0).nox.suite a ((a, oe) :: pn)) (n := "e") (i := 1) (p1 := p7) (p2 := p8) (p3 := p9) hF hT hrH List.mem_cons_self hz hd gr TL.dr rfl (.inl le) (by decide) (by decide) rfl rfl))
        · -- what is wanted
          refine ⟨fun cls d H' => ∃ b, PySem.W.exmOne X.K cls (.ref C) = some b ∧ (b = true → RHX X.K T es F cls d H' Q) ∧ (b = false → False), fun cls d σ' H' ⟨b, e1, e2, e3⟩ => ⟨b, e1, fun hb a na => ⟨fun hl => ?_, e2 hb⟩, fun hb => e3 hb⟩, rfl, hco, ⟨B, Z, cm, ρ, s0, r1, ?_⟩⟩
          · rw [List.length_set] at hl
            rw [List.getElem?_set_self (by omega)]
          · cases hm0 : m ρ s0 with
            | ok d s1 =>
              rw [hm0] at ps
              refine fun v H' cm' ex r' z p hp => ?_
              exact ps (.ref p) _ cm' (ex1.trans (ex.trans (Ext.grow (sub_upd hp)))) (r'.grow (sub_upd hp)) (rep_tup r' hp (.cons (.str _) (.cons z .nil)))
            | er c ds s1 =>
              rw [hm0] at ps
              dsimp only at ps
              split at ps
              · rename_i hces
                refine fun cls dx H' cm' ex r' z => ⟨true, by rw [z.1]; exact hex c hces, fun _ => ?_, fun e => by cases e⟩
                have hl : ds.length = (T.fl c).length := by
                  rcases z.2 with ⟨e1, _, e2⟩ | ⟨dd, gs, _, _, e1, e2⟩
                  · rw [e1, e2]
                    rfl
                  · rw [← e1, ← e2.len, List.length_map, List.length_map]
                have nd : D.noX.nos ds = true := by
                  rcases z.2 with ⟨e1, _, e2⟩ | ⟨dd, gs, _, _, e1, e2⟩
                  · rw [e1]; rfl
                  · exact Reps.nox hT _ _ e2
                have hfl : ∀ {a b : R D}, a = b → True := fun _ => trivial
                refine ⟨cm', fun a => Z a ∨ Ow σ ρ a, c, ds, s1, s1, _, hces, FRel.toCells (F := ⟨B, Z, σ, ρ⟩) r', by rw [eG_zo]; exact z, hFv c ds s1 hces hl, nd, r'.cells.nox hT, fun v H2 cm2 ex2 c2 z2 => ?_⟩
                exact ps v H2 cm2 (ex1.trans (ex.trans ex2)) (FRel.ofCells (F := ⟨B, Z, σ, ρ⟩) r' ex2 c2) (by rw [eG_zo] at z2; exact z2)
              · exact ps.elim
            | no => rw [hm0] at ps; exact ps.elim
      refine wpAny_call (codeAny_mono rc fun r s2 hq => ?_)
      match r, hq with
      | .error e, hq => exact (show False from hq).elim
      | .ok (.ret u), hq => exact I1.after hq
      | .ok .next, hq => exact (show False from hq).elim
      | .ok .brk, hq => exact (show False from hq).elim
      | .ok .cont, hq => exact (show False from hq).elim
    · exact ps.elim
  · exact ps.elim
end
end Tv

/-! Tyi: texts: split, join, a sign in a text, str(), int(text) -/
namespace Tv
open PySem PySem.Spec PyProof.Rows L2
def allS : List D → Option (List Str)
  | [] => some []
  | .str x :: r => (allS r).map fun l => x :: l
  | _ :: _ => none
theorem allS_eq : ∀ {ds : List D} {xs : List Str}, allS ds = some xs → ds = xs.map D.str
  | [], _, h => by cases h; rfl
  | .str x :: ds, xs, h => by
    unfold allS at h
    cases q : allS ds with
    | none => rw [q] at h; cases h
    | some l =>
      rw [q] at h
      cases h
      rw [allS_eq q]
      rfl
  | .non :: _, _, h => by cases h
  | .bl _ :: _, _, h => by cases h
  | .int _ :: _, _, h => by cases h
  | .tup _ :: _, _, h => by cases h
  | .lst _ :: _, _, h => by cases h
  | .frz _ :: _, _, h => by cases h
  | .ins _ _ :: _, _, h => by cases h
  | .cell _ :: _, _, h => by cases h
  | .fn _ :: _, _, h => by cases h
  | .dic _ _ :: _, _, h => by cases h
  | .exc _ _ :: _, _, h => by cases h
  | .sf _ _ :: _, _, h => by cases h
  | .lam _ :: _, _, h => by cases h
  | .tab _ :: _, _, h => by cases h
section
variable {K : PySem.W.Frag} {T : Tb} {cm : List Addr} {G : Hp}
theorem reps_strs : ∀ {xs : List Str} {vs : List V}, Reps K T cm G vs (xs.map D.str) → vs = xs.map V.str
  | [], _, h => by cases h; rfl
  | x :: xs, _, h => by
    cases h with
    | cons a b =>
      cases a
      rw [reps_strs b]
      rfl
theorem strs_reps : ∀ (xs : List Str), Reps K T cm G (xs.map V.str) (xs.map D.str)
  | [] => .nil
  | x :: xs => .cons (.str x) (strs_reps xs)
end
def gSplit (x : D) (ds : List D) (s : S) : R D := match x, ds with
  | .str a, [.str b] => if (b.length == 0) = false ∧ a.length + 2 ≤ sizeLine then .ok (.lst ((Txt.split a b).map D.str)) s else .no
  | _, _ => .no
def gJoin (x : D) (ds : List D) (s : S) : R D := match x, ds with
  | .str a, [.lst l] => (match allS l with
    | some ys => if (ys.map (·.length)).sum + ys.length * a.length ≤ 16777216 then .ok (.str (Txt.join a ys)) s else .no
    | none => .no)
  | .str a, [.frz l] => (match allS l with
    | some ys => if (ys.map (·.length)).sum + ys.length * a.length ≤ 16777216 then .ok (.str (Txt.join a ys)) s else .no
    | none => .no)
  | .str a, [.tup l] => (match allS l with
    | some ys => if (ys.map (·.length)).sum + ys.length * a.length ≤ 16777216 then .ok (.str (Txt.join a ys)) s else .no
    | none => .no)
  | _, _ => .no
def gInT (x y : D) (s : S) : R D := match x, y with
  | .str c, .str z => (match c.cps.toList with
    | [k] => .ok (.bl (decide (k ∈ z.cps.toList))) s
    | _ => .no)
  | _, _ => .no
def gNotInT (x y : D) (s : S) : R D := match x, y with
  | .str c, .str z => (match c.cps.toList with
    | [k] => .ok (.bl (!decide (k ∈ z.cps.toList))) s
    | _ => .no)
  | _, _ => .no
def gStr (ds : List D) (s : S) : R D := match ds with
  | [.int i] => if i.natAbs.log2 < 1920 then .ok (.str (toString i)) s else .no
  | [.str x] => .ok (.str x) s
  | _ => .no
def gIntT (ds : List D) (s : S) : R D := match ds with
  | [.str x] => (match PySem.intText? x with
    | some n => if x.length ≤ 640 then .ok (.int n) s else .no
    | none => .no)
  | _ => .no
section
variable {X : Cx} {T : Tb} {W : WX} {o e : Expr} {mo me : EM} {apos pos p : Pos}
theorem obm_split : OBm X T (AF X.K T) (fun x xs H Q => ∃ a b, x = .str a ∧ xs = [.str b] ∧ (b.length == 0) = false ∧ a.length + 2 ≤ sizeLine ∧ rNewStrs (Txt.split a b) H Q) gSplit := by
  intro F cm H s W x d xs ds Q r a as h
  unfold gSplit at h
  split at h
  · rename_i za zb
    split at h
    · rename_i hc
      cases as with
      | cons a1 at_ =>
        cases at_
        cases a.str
        cases a1.str
        exact ⟨za, zb, rfl, rfl, hc.1, hc.2, fun q hq => h.fin_new r (sub_upd hq) (rep_lst r hq (strs_reps _))⟩
    · exact h.elim
  · exact h.elim
theorem q_split (ho : QB X T W o mo) (ha : QB X T W e me)
    (hbase : attributeBase o "split" X.env (eval o X.env) = eval o X.env := by rfl)
    (hfew : ((backTo pos (starEach [e] X.env)).all (fun x => !x.1) && (backToKw pos (keywordEach [] X.env)).all (fun x => x.1.isSome) && decide ([e].length + ([] : List Keyword).length + (if ([] : List Keyword).isEmpty then 0 else 1) < 30)) = true := by rfl)
    (hline : (apos.endLine == pos.line) = true := by rfl) (hs : starEach [e] X.env = (false, eval e X.env) :: starEach [] X.env := by rfl) (hplain : (backTo pos (starEach [] X.env)).any (·.1) = false := by rfl) :
    QF X T W (.Call (.Attribute o "split" apos) [e] [] pos) (mBm "str" gSplit mo (mCons me mNil)) :=
  q_bm PySem.F.plainAttrs_str F.slot_str_split F.type_str_split mt_split obm_split up_AF ho (qb_cons ha qb_nil hs) hbase hfew hline hs hplain
theorem obm_join : OBm X T (AR X.K T) (fun x xs H Q => ∃ a p, ∃ ys : List Str, x = .str a ∧ xs = [.ref p] ∧ (SqL X.K H p (ys.map V.str) ∨ SqT X.K H p (ys.map V.str)) ∧ (ys.map (·.length)).sum + ys.length * a.length ≤ 16777216 ∧ Q (.str (Txt.join a ys)) H) gJoin := by
  intro F cm H s W x d xs ds Q r a as h
  unfold gJoin at h
  split at h
  · rename_i za l
    split at h
    · rename_i ys e
      split at h
      · rename_i hc
        cases allS_eq e
        cases as with
        | cons a1 at_ =>
          cases at_
          cases a.str
          obtain ⟨c, xs, rfl, h1, h3⟩ := a1.lst
          cases reps_strs h3
          exact ⟨za, c, ys, rfl, rfl, .inl (.of h1), hc, h.fin r (.str _)⟩
      · exact h.elim
    · exact h.elim
  · rename_i za l
    split at h
    · rename_i ys e
      split at h
      · rename_i hc
        cases allS_eq e
        cases as with
        | cons a1 at_ =>
          cases at_
          cases a.str
          obtain ⟨c, xs, rfl, h1, h3⟩ := a1.frz
          cases reps_strs h3
          exact ⟨za, c, ys, rfl, rfl, .inl h1, hc, h.fin r (.str _)⟩
      · exact h.elim
    · exact h.elim
  · rename_i za l
    split at h
    · rename_i ys e
      split at h
      · rename_i hc
        cases allS_eq e
        cases as with
        | cons a1 at_ =>
          cases at_
          cases a.str
          obtain ⟨c, xs, rfl, h1, h2, h3⟩ := a1.tup
          cases reps_strs h3
          exact ⟨za, c, ys, rfl, rfl, .inr h1, hc, h.fin r (.str _)⟩
      · exact h.elim
    · exact h.elim
  · exact h.elim
theorem q_join (ho : QB X T W o mo) (ha : QB X T W e me)
    (hbase : attributeBase o "join" X.env (eval o X.env) = eval o X.env := by rfl)
    (hfew : ((backTo pos (starEach [e] X.env)).all (fun x => !x.1) && (backToKw pos (keywordEach [] X.env)).all (fun x => x.1.isSome) && decide ([e].length + ([] : List Keyword).length + (if ([] : List Keyword).isEmpty then 0 else 1) < 30)) = true := by rfl)
    (hline : (apos.endLine == pos.line) = true := by rfl) (hs : starEach [e] X.env = (false, eval e X.env) :: starEach [] X.env := by rfl) (hplain : (backTo pos (starEach [] X.env)).any (·.1) = false := by rfl) :
    QE X T W (.Call (.Attribute o "join" apos) [e] [] pos) (mBm "str" gJoin mo (mCons me mNil)) :=
  q_bm PySem.F.plainAttrs_str F.slot_str_join F.type_str_join mt_join obm_join up_AR ho (qb_cons ha qb_nil hs) hbase hfew hline hs hplain
theorem one_sign {c : Str} {k : Nat} (h : c.cps.toList = [k]) : c = ⟨#[k]⟩ := by
  obtain ⟨⟨l⟩⟩ := c
  have : l = [k] := h
  rw [this]
theorem o2_inT : O2 X T (AR X.K T) (fun x y H Q => ∃ (c : Nat) (z : Str), x = .str ⟨#[c]⟩ ∧ y = .str z ∧ Q (.bl (decide (c ∈ z.cps.toList))) H) gInT := by
  intro F cm H s W x y dx dy Q r a b h
  unfold gInT at h
  split at h
  · split at h
    · rename_i k e
      cases a.str
      cases b.str
      cases one_sign e
      exact ⟨k, _, rfl, rfl, h.fin r (.bl _)⟩
    · exact h.elim
  · exact h.elim
theorem o2_notInT : O2 X T (AR X.K T) (fun x y H Q => ∃ (c : Nat) (z : Str), x = .str ⟨#[c]⟩ ∧ y = .str z ∧ Q (.bl (!decide (c ∈ z.cps.toList))) H) gNotInT := by
  intro F cm H s W x y dx dy Q r a b h
  unfold gNotInT at h
  split at h
  · split at h
    · rename_i k e
      cases a.str
      cases b.str
      cases one_sign e
      exact ⟨k, _, rfl, rfl, h.fin r (.bl _)⟩
    · exact h.elim
  · exact h.elim
theorem q_inT (ha : QB X T W o mo) (hb : QB X T W e me) (hm : behindInMarks .In e = false := by rfl) : QE X T W (.Compare o [.In] [e] pos) (mOp gInT mo me) := q_cmp op_in_sign o2_inT ha hb hm
theorem q_notInT (ha : QB X T W o mo) (hb : QB X T W e me) (hm : behindInMarks .NotIn e = false := by rfl) : QE X T W (.Compare o [.NotIn] [e] pos) (mOp gNotInT mo me) := q_cmp op_notIn_sign o2_notInT ha hb hm
theorem qt_inT (ha : QB X T W o mo) (hb : QB X T W e me) (hm : behindInMarks .In e = false := by rfl) : QT X T W (.Compare o [.In] [e] pos) (mTest (mOp gInT mo me)) := qt_cmp op_in_sign o2_inT ha hb hm
theorem qt_notInT (ha : QB X T W o mo) (hb : QB X T W e me) (hm : behindInMarks .NotIn e = false := by rfl) : QT X T W (.Compare o [.NotIn] [e] pos) (mTest (mOp gNotInT mo me)) := qt_cmp op_notIn_sign o2_notInT ha hb hm
theorem oc_str : OC X T (AR X.K T) (fun xs H Q => (∃ i, xs = [.int i] ∧ i.natAbs.log2 < 1920 ∧ Q (.str (toString i)) H) ∨ ∃ a, xs = [.str a] ∧ Q (.str a) H) gStr := by
  intro F cm H s W xs ds Q r a h
  unfold gStr at h
  split at h
  · split at h
    · rename_i hc
      cases a with
      | cons a1 at_ =>
        cases at_
        cases a1.int
        exact .inl ⟨_, rfl, hc, h.fin r (.str _)⟩
    · exact h.elim
  · cases a with
    | cons a1 at_ =>
      cases at_
      cases a1.str
      exact .inr ⟨_, rfl, h.fin r (.str _)⟩
  · exact h.elim
theorem q_strOf (hg : Gl X "str") (hm : X.mg "str" = none) (ha : QB X T W e me) (hs : starEach [e] X.env = (false, eval e X.env) :: starEach [] X.env := by rfl) (hpl : (backTo pos (starEach [] X.env)).any (·.1) = false := by rfl) : QE X T W (.Call (.Name "str" p) [e] [] pos) (mCall gStr (mCons me mNil)) :=
  q_callTy (call_str_int.or SkE.call_str_str) oc_str up_AR hg hm rfl (qb_cons ha qb_nil hs) (by decide) (by decide) hs hpl
theorem oc_intT : OC X T (AR X.K T) (fun xs H Q => ∃ a n, xs = [.str a] ∧ PySem.intText? a = some n ∧ a.length ≤ 640 ∧ Q (.int n) H) gIntT := by
  intro F cm H s W xs ds Q r a h
  unfold gIntT at h
  split at h
  · split at h
    · rename_i n e
      split at h
      · rename_i hc
        cases a with
        | cons a1 at_ =>
          cases at_
          cases a1.str
          exact ⟨_, n, rfl, e, hc, h.fin r (.int _)⟩
      · exact h.elim
    · exact h.elim
  · exact h.elim
theorem q_intT (hg : Gl X "int") (hm : X.mg "int" = none) (ha : QB X T W e me) (hs : starEach [e] X.env = (false, eval e X.env) :: starEach [] X.env := by rfl) (hpl : (backTo pos (starEach [] X.env)).any (·.1) = false := by rfl) : QE X T W (.Call (.Name "int" p) [e] [] pos) (mCall gIntT (mCons me mNil)) :=
  q_callTy call_int_str oc_intT up_AR hg hm rfl (qb_cons ha qb_nil hs) (by decide) (by decide) hs hpl
end
end Tv

/-! Tyj: constants of the module that are tuples, or dicts with text keys; dicts written in a def -/
namespace Tv
open PySem PySem.Spec PyProof.Rows L2 LamX He PySem.W
/-! ### a constant in K -/
def conAll (f : Value → D → Bool) : List Value → List D → Bool
  | [], [] => true
  | v :: vs, d :: ds => f v d && conAll f vs ds
  | _, _ => false
def conV (K : Frag) : Nat → Value → D → Bool
  | n, .int i _, d => (match d with | .int j => decide (i = j) | _ => false)
  | n, .str x _, d => (match d with | .str y => decide (x = y) | _ => false)
  | n, .none, d => (match d with | .non => true | _ => false)
  | n + 1, .ref a, d => (match d, K.lookup a with
    | .tup ds, some ⟨.type c, _, .seq its _, _⟩ => decide (c = "tuple") && (decide (its.size ≤ 1000) && conAll (conV K n) its.toList ds)
    | _, _ => false)
  | _, _, _ => false
def Con (K : Frag) (v : Value) (d : D) : Prop := ∃ u, RelV u v ∧ ∀ T cm G, Rep K T cm G u d
theorem conAll_ok {K : Frag} {f : Value → D → Bool} (hf : ∀ v d, f v d = true → Con K v d) : ∀ {vs : List Value} {ds : List D}, conAll f vs ds = true → ∃ us, Vals us vs ∧ ∀ T cm G, Reps K T cm G us ds
  | [], [], _ => ⟨[], .nil, fun _ _ _ => .nil⟩
  | v :: vs, d :: ds, h => by
    unfold conAll at h
    rw [Bool.and_eq_true] at h
    obtain ⟨u, r, q⟩ := hf v d h.1
    obtain ⟨us, rs, qs⟩ := conAll_ok hf h.2
    exact ⟨u :: us, .cons r rs, fun T cm G => .cons (q T cm G) (qs T cm G)⟩
  | [], _ :: _, h => by cases h
  | _ :: _, [], h => by cases h
theorem conV_ok {K : Frag} : ∀ (n : Nat) (v : Value) (d : D), conV K n v d = true → Con K v d := by
  intro n
  induction n with
  | zero =>
    intro v d h
    cases v with
    | int i t =>
      cases d with
      | int j =>
        have e : i = j := of_decide_eq_true (by simpa [conV] using h)
        subst e
        exact ⟨.int i, ⟨t, rfl⟩, fun _ _ _ => .int i⟩
      | _ => simp [conV] at h
    | str x t =>
      cases d with
      | str y =>
        have e : x = y := of_decide_eq_true (by simpa [conV] using h)
        subst e
        exact ⟨.str x, ⟨t, rfl⟩, fun _ _ _ => .str x⟩
      | _ => simp [conV] at h
    | none =>
      cases d with
      | non => exact ⟨.non, rfl, fun _ _ _ => .non⟩
      | _ => simp [conV] at h
    | _ => simp [conV] at h
  | succ n ih =>
    intro v d h
    cases v with
    | int i t =>
      cases d with
      | int j =>
        have e : i = j := of_decide_eq_true (by simpa [conV] using h)
        subst e
        exact ⟨.int i, ⟨t, rfl⟩, fun _ _ _ => .int i⟩
      | _ => simp [conV] at h
    | str x t =>
      cases d with
      | str y =>
        have e : x = y := of_decide_eq_true (by simpa [conV] using h)
        subst e
        exact ⟨.str x, ⟨t, rfl⟩, fun _ _ _ => .str x⟩
      | _ => simp [conV] at h
    | none =>
      cases d with
      | non => exact ⟨.non, rfl, fun _ _ _ => .non⟩
      | _ => simp [conV] at h
    | ref a =>
      unfold conV at h
      split at h
      · rename_i ds c od its k sl e
        rw [Bool.and_eq_true, Bool.and_eq_true] at h
        obtain ⟨h1, h2, h3⟩ := h
        obtain ⟨us, r, q⟩ := conAll_ok (fun v d => ih v d) h3
        have hc : c = "tuple" := of_decide_eq_true h1
        subst hc
        have hz : its.size ≤ sizeLine := by
          have := of_decide_eq_true h2
          rw [sizeLine_eq]
          omega
        exact ⟨.ref a, rfl, fun T cm G => .tup (.inr ⟨_, its, k, e, rfl, rfl, hz, r⟩) (q T cm G)⟩
      · cases h
    | _ => simp [conV] at h
/-- the module's constant x -/
def ConG (K : Frag) (mg : Str → Option Value) (x : Str) (d : D) : Prop := ∃ v, mg x = some v ∧ Con K v d
section
variable {X : Cx} {T : Tb} {W : WX} {o e : Expr} {mo me : EM} {pos p : Pos}
theorem q_con {x : Str} {d : D} (h : ConG X.K X.mg x d) (hg : Gl X x := by rfl) (hdb : (x == ("__debug__" : Str)) = false := by decide) : QE X T W (.Name x pos) (mC d) := by
  obtain ⟨v, hm, u, r, q⟩ := h
  exact q_c (v := u) (pe_glob hg hm r hdb) fun _ _ => q _ _ _
end
/-! ### a dict of the module with text keys -/
theorem nsIn_none {K : Frag} {P : Params} {a : Addr} {ks : List Str} {z : Str} (h : dicW K a = some (keysIn P ks)) (hz : z ∉ ks) : nsIn K a z = some none := by
  unfold dicW at h
  unfold nsIn
  split at h
  · rename_i c es k sl e
    rw [e]
    dsimp only
    split at h
    · have hk : es.toList.map He.keyOf = keysIn P ks := Option.some.inj h
      have all : ∀ (l : List DictEntry) (ks : List Str), l.map He.keyOf = keysIn P ks → z ∉ ks → l.find? (·.key.isStr z) = none ∧ l.any (·.refKey) = false := by
        intro l
        induction l with
        | nil => intro ks _ _; exact ⟨rfl, rfl⟩
        | cons e l ih =>
          intro ks h hz
          cases ks with
          | nil => cases h
          | cons k ks =>
            have h : He.keyOf e :: l.map He.keyOf = some (k, PyData.keyHash P k) :: keysIn P ks := h
            injection h with h1 h2
            obtain ⟨i1, i2⟩ := ih ks h2 fun q => hz (List.mem_cons_of_mem _ q)
            unfold He.keyOf at h1
            split at h1
            · rename_i x t q
              have hx : x = k := (Prod.mk.inj (Option.some.inj h1)).1
              have ne : x ≠ z := fun w => hz (by rw [← w, hx]; exact List.mem_cons_self)
              have f1 : e.key.isStr z = false := by
                rw [q]
                simp [Value.isStr, ne]
              have f2 : e.refKey = false := by
                unfold DictEntry.refKey
                rw [q]
              refine ⟨?_, ?_⟩
              · rw [List.find?_cons_of_neg (by rw [f1]; simp)]
                exact i1
              · rw [List.any_cons, f2, i2]
                rfl
            · cases h1
      obtain ⟨a1, a2⟩ := all _ _ hk hz
      rw [a1, a2]
      rfl
    · cases h
  · cases h
structure KTab (K : Frag) (w : World) (mg : Str → Option Value) (x : Str) (tab : List (Str × D)) : Prop where
  ex : ∃ a es n, mg x = some (.ref a) ∧ KDict K w a es n ∧ (∀ z d, tab.lookup z = some d → ∃ v, nsIn K a z = some (some v) ∧ Con K v d) ∧ ∀ z, tab.lookup z = none → nsIn K a z = some none
def tabB (K : Frag) (a : Addr) (tab : List (Str × D)) : Bool := tab.all fun q => match nsIn K a q.1 with
  | some (some v) => conV K 4 v q.2
  | _ => false
theorem lookup_memD : ∀ {tab : List (Str × D)} {z : Str} {d : D}, tab.lookup z = some d → (z, d) ∈ tab
  | [], _, _, h => by cases h
  | (k, e) :: tab, z, d, h => by
    rw [List.lookup_cons] at h
    split at h
    · rename_i q
      have : z = k := eq_of_beq q
      rw [this, Option.some.inj h]
      exact List.mem_cons_self
    · exact List.mem_cons_of_mem _ (lookup_memD h)
theorem lookup_noneD : ∀ {tab : List (Str × D)} {z : Str}, tab.lookup z = none → z ∉ tab.map (·.1)
  | [], _, _ => by simp
  | (k, e) :: tab, z, h => by
    rw [List.lookup_cons] at h
    split at h
    · cases h
    · rename_i q
      intro hz
      rcases List.mem_cons.mp hz with w | w
      · rw [w] at q
        simp at q
      · exact lookup_noneD h w
theorem ktab_of {K : Frag} {w : World} {mg : Str → Option Value} {x : Str} {tab : List (Str × D)} {a : Addr} (hm : mg x = some (.ref a)) (h1 : dicW K a = some (keysIn w.params (tab.map (·.1)))) (h2 : tabB K a tab = true) : KTab K w mg x tab := by
  obtain ⟨es, n, kd⟩ := dicW_ok h1
  refine ⟨a, es, n, hm, kd, fun z d hl => ?_, fun z hl => nsIn_none h1 (lookup_noneD hl)⟩
  have q := List.all_eq_true.mp h2 _ (lookup_memD hl)
  dsimp only at q
  split at q
  · rename_i v e
    exact ⟨v, e, conV_ok 4 v d q⟩
  · cases q
def gInK (tab : List (Str × D)) (m : EM) : EM := fun ρ s => (m ρ s).bind fun x s1 => match x with
  | .str z => .ok (.bl (tab.lookup z).isSome) s1
  | _ => .no
def gNotInK (tab : List (Str × D)) (m : EM) : EM := fun ρ s => (m ρ s).bind fun x s1 => match x with
  | .str z => .ok (.bl (!(tab.lookup z).isSome)) s1
  | _ => .no
def gGetK (tab : List (Str × D)) (m : EM) : EM := fun ρ s => (m ρ s).bind fun x s1 => match x with
  | .str z => (match tab.lookup z with
    | some d => .ok d s1
    | none => .no)
  | _ => .no
section
variable {X : Cx} {T : Tb} {W : WX} {e : Expr} {m : EM} {pos p : Pos} {x : Str} {tab : List (Str × D)}
theorem q_inK (h : KTab X.K X.w X.mg x tab) (ha : QB X T W e m) (hg : Gl X x := by rfl) (hdb : (x == ("__debug__" : Str)) = false := by decide) (hm : behindInMarks .In (.Name x p) = false := by rfl) : QE X T W (.Compare e [.In] [.Name x p] pos) (gInK tab m) := by
  obtain ⟨a, es, n, h1, kd, h2, h3⟩ := h.ex
  refine PE.conv (pe_cmpR (op_in_kd kd) ha (pe_glob (v := .ref a) hg h1 rfl hdb) hm) fun σ H Q h => ?_
  refine h.bind (AB X.K T) up_AR fun B Z cm ρ v H1 ⟨cm1, dx, s1, e1, r1, a1, p1⟩ => ?_
  cases dx with
  | str z =>
    cases a1.str
    dsimp only at p1
    cases q : tab.lookup z with
    | some d =>
      obtain ⟨v, k1, _⟩ := h2 z d q
      rw [q] at p1
      exact ⟨z, some v, rfl, rfl, k1, p1.fin r1 (.bl _)⟩
    | none =>
      rw [q] at p1
      exact ⟨z, none, rfl, rfl, h3 z q, p1.fin r1 (.bl _)⟩
  | _ => exact p1.elim
theorem q_notInK (h : KTab X.K X.w X.mg x tab) (ha : QB X T W e m) (hg : Gl X x := by rfl) (hdb : (x == ("__debug__" : Str)) = false := by decide) (hm : behindInMarks .NotIn (.Name x p) = false := by rfl) : QE X T W (.Compare e [.NotIn] [.Name x p] pos) (gNotInK tab m) := by
  obtain ⟨a, es, n, h1, kd, h2, h3⟩ := h.ex
  refine PE.conv (pe_cmpR (op_notIn_kd kd) ha (pe_glob (v := .ref a) hg h1 rfl hdb) hm) fun σ H Q h => ?_
  refine h.bind (AB X.K T) up_AR fun B Z cm ρ v H1 ⟨cm1, dx, s1, e1, r1, a1, p1⟩ => ?_
  cases dx with
  | str z =>
    cases a1.str
    dsimp only at p1
    cases q : tab.lookup z with
    | some d =>
      obtain ⟨v, k1, _⟩ := h2 z d q
      rw [q] at p1
      exact ⟨z, some v, rfl, rfl, k1, p1.fin r1 (.bl _)⟩
    | none =>
      rw [q] at p1
      exact ⟨z, none, rfl, rfl, h3 z q, p1.fin r1 (.bl _)⟩
  | _ => exact p1.elim
theorem ix_kd {d : Addr} {es : Array DictEntry} {n : Nat} (D : KDict X.K X.w d es n) : IxR X (fun x y H Q => ∃ (z : Str) (u0 : Value) (v0 : V), x = .ref d ∧ y = .str z ∧ nsIn X.K d z = some (some u0) ∧ RelV v0 u0 ∧ Q v0 H) := by
  intro va sl pins s σ H x y v u Q I rx ry h hs
  have h0 := h
  obtain ⟨z, u0, v0, rfl, rfl, k, r, q⟩ := h
  have rx0 := rx
  obtain rfl : v = Value.ref d := rx
  exact tail_any (kd_type D I) PySem.F.slot_dict_getitem.lookup (op_item_kd D pins s σ H _ _ _ u Q I rx0 ry h0) hs
theorem q_getK (h : KTab X.K X.w X.mg x tab) (ha : QB X T W e m) (hg : Gl X x := by rfl) (hdb : (x == ("__debug__" : Str)) = false := by decide) (hs : PlainIx e := by exact fun _ _ => rfl) : QE X T W (.Subscript (.Name x p) e pos) (gGetK tab m) := by
  obtain ⟨a, es, n, h1, kd, h2, h3⟩ := h.ex
  refine PE.conv (pe_ix (ix_kd kd) (pe_glob (v := .ref a) hg h1 rfl hdb) ha hs) fun σ H Q h => ?_
  refine h.bind (AB X.K T) up_AR fun B Z cm ρ v H1 ⟨cm1, dx, s1, e1, r1, a1, p1⟩ => ?_
  cases dx with
  | str z =>
    cases a1.str
    dsimp only at p1
    cases q : tab.lookup z with
    | some d =>
      obtain ⟨v, k1, u, k2, k3⟩ := h2 z d q
      rw [q] at p1
      exact ⟨z, v, u, rfl, rfl, k1, k2, p1.fin r1 (k3 _ _ _)⟩
    | none =>
      rw [q] at p1
      exact p1.elim
  | _ => exact p1.elim
end
end Tv

/-! Tyk: a text times a number; dicts with constant pairs, looked up -/
namespace Tv
open PySem PySem.Spec PyProof.Rows L2
/-! ### a text times a number -/
def repS (z : Str) (k : Nat) : Str := ⟨(List.replicate k z.cps).foldl (· ++ ·) #[]⟩
theorem repS_size (z : Array Nat) : ∀ (k : Nat) (acc : Array Nat), ((List.replicate k z).foldl (· ++ ·) acc).size = acc.size + k * z.size
  | 0, acc => by simp
  | k + 1, acc => by
    rw [List.replicate_succ, List.foldl_cons, repS_size z k, Array.size_append, Nat.succ_mul]
    omega
def gRepS (x y : D) (s : S) : R D := match x, y with
  | .str z, .int k => if 2 ≤ k ∧ k ≤ 1000 ∧ 1 ≤ z.length ∧ z.length ≤ 1000 then .ok (.str (repS z k.toNat)) s else .no
  | _, _ => .no
section
variable {X : Cx} {T : Tb} {W : WX} {o e : Expr} {mo me : EM} {apos pos p : Pos}
def rRepS : R2 := fun x y H Q => ∃ z k, x = .str z ∧ y = .int k ∧ 2 ≤ k ∧ k ≤ 1000 ∧ 1 ≤ z.length ∧ z.length ≤ 1000 ∧ Q (.str (repS z k.toNat)) H
theorem op_repS : OpR X (binaryOp .Mult) rRepS := by
  intro pins s σ H x y v u Q I rx ry h
  obtain ⟨z, k, rfl, rfl, h1, h2, h3, h4, q⟩ := h
  obtain ⟨t, rfl⟩ := rx
  obtain ⟨t', rfl⟩ := ry
  have n1 : ¬ k < 1 := by omega
  have n2 : (k == 1 || z.length == 0) = false := by
    have a1 : ¬ k = 1 := by omega
    have a2 : ¬ z.length = 0 := by omega
    simp [a1, a2]
  refine PySem.P.mul_str ?_ ?_ ?_ ?_
  · have a1 : ¬ k < -(2 ^ 63 : Int) := by omega
    have a2 : ¬ k ≥ 2 ^ 63 := by omega
    rw [decide_eq_false a1, decide_eq_false a2]; rfl
  · intro _ _ hz
    have : (1000 : Int) ≤ (2 ^ 63 - 1) / k := by
      rw [Int.le_ediv_iff_mul_le (by omega)]
      omega
    omega
  · intro _ _
    have : z.length * k.toNat ≤ 1000 * 1000 := Nat.mul_le_mul h4 (by omega)
    show decide (_ > sizeLine) = false
    rw [decide_eq_false]
    rw [sizeLine_eq]
    omega
  · rw [if_neg n1, n2, if_neg (by simp)]
    refine ⟨?_, .str (repS z k.toNat), H, I.tok _, ⟨_, rfl⟩, q⟩
    have hz : (repS z k.toNat).length = k.toNat * z.length := by
      show ((List.replicate k.toNat z.cps).foldl (· ++ ·) #[]).size = _
      rw [repS_size]
      show 0 + _ = _
      rw [Nat.zero_add]
      rfl
    show (repS z k.toNat).length ≤ _
    rw [hz, sizeLine_eq]
    have : k.toNat * z.length ≤ 1000 * 1000 := Nat.mul_le_mul (by omega) h4
    omega
theorem o2_repS : O2 X T (AR X.K T) rRepS gRepS := by
  intro F cm H s W x y dx dy Q r a b h
  unfold gRepS at h
  split at h
  · split at h
    · rename_i hc
      cases a.str
      cases b.int
      exact ⟨_, _, rfl, rfl, hc.1, hc.2.1, hc.2.2.1, hc.2.2.2, h.fin r (.str _)⟩
    · exact h.elim
  · exact h.elim
theorem q_repS (ha : QB X T W o mo) (hb : QB X T W e me) : QE X T W (.BinOp o .Mult e pos) (mOp gRepS mo me) := q_op op_repS o2_repS up_AR ha hb
end
/-! ### dicts with constant pairs -/
def dget : List Key → List D → Key → Option D
  | a :: ks, d :: ds, k => if a = k then some d else dget ks ds k
  | _, _, _ => none
theorem dget_val {K : PySem.W.Frag} {T : Tb} {cm : List Addr} {G : Hp} {k : Key} : ∀ {kvs : List (Key × V)} {ds : List D}, Reps K T cm G (kvs.map (·.2)) ds →
    (∀ d, dget (kvs.map (·.1)) ds k = some d → ∃ v, valV kvs k = some v ∧ Rep K T cm G v d) ∧ (dget (kvs.map (·.1)) ds k = none → valV kvs k = none)
  | [], _, h => by
    cases h
    exact ⟨fun _ h => (nomatch h), fun _ => rfl⟩
  | p :: kvs, _, h => by
    cases h with
    | cons a b =>
      obtain ⟨i1, i2⟩ := dget_val (k := k) b
      by_cases e : p.1 = k
      · refine ⟨fun d h => ?_, fun h => ?_⟩
        · rw [List.map_cons, dget, if_pos e] at h
          cases h
          exact ⟨_, valV_pos e, a⟩
        · rw [List.map_cons, dget, if_pos e] at h
          cases h
      · refine ⟨fun d h => ?_, fun h => ?_⟩
        · rw [List.map_cons, dget, if_neg e] at h
          obtain ⟨v, h1, h2⟩ := i1 d h
          exact ⟨v, by rw [valV_neg e]; exact h1, h2⟩
        · rw [List.map_cons, dget, if_neg e] at h
          rw [valV_neg e]
          exact i2 h
def gDIn (x y : D) (s : S) : R D := match x, y with
  | .str z, .dic ks ds => .ok (.bl (dget ks ds (.inr z)).isSome) s
  | _, _ => .no
def gDGet (x y : D) (s : S) : R D := match x, y with
  | .dic ks ds, .str z => (match dget ks ds (.inr z) with
    | some d => .ok d s
    | none => .no)
  | _, _ => .no
section
variable {X : Cx} {T : Tb} {W : WX} {o e : Expr} {mo me : EM} {apos pos p : Pos}
theorem AB.dic {K : PySem.W.Frag} {F : Fm} {H0 H : Hp} {cm : List Addr} {s : S} {v : V} {ks : List Key} {ds : List D} (r : FRel K T F cm H s) (z : AB K T F H0 cm H s v (.dic ks ds)) : ∃ a kvs, v = .ref a ∧ Rd H a (.dK kvs) ∧ ks = kvs.map (·.1) ∧ Reps K T cm (F.G cm H) (kvs.map (·.2)) ds := by
  rcases z with z | ⟨a, rfl, h1, h2⟩
  · generalize hk : D.dic ks ds = d at z
    cases z <;> cases hk
    rename_i a kvs h1 h2
    refine ⟨a, kvs, rfl, ?_, rfl, h2⟩
    rcases h1 with h1 | ⟨o, h1⟩
    · exact .inl (hid_some.mp h1).2
    · exact .inr ⟨o, (hid_some.mp h1).2⟩
  · exact h2.elim
def rDIn : R2 := fun y x H Q => ∃ a o, x = .ref a ∧ DGet H a y o ∧ Q (.bl o.isSome) H
def rDGet : R2 := fun x y H Q => ∃ a v, x = .ref a ∧ DGet H a y (some v) ∧ Q v H
theorem o2_dIn : O2 X T (AR X.K T) rDIn gDIn := by
  intro F cm H s W x y dx dy Q r a b h
  unfold gDIn at h
  split at h
  · rename_i z ks ds
    cases a.str
    obtain ⟨d, kvs, rfl, h1, rfl, h3⟩ := b.dic r
    obtain ⟨i1, i2⟩ := dget_val (k := .inr z) h3
    cases q : dget (kvs.map (·.1)) ds (.inr z) with
    | some dd =>
      obtain ⟨v, j1, _⟩ := i1 dd q
      rw [q] at h
      exact ⟨d, some v, rfl, .inl ⟨kvs, .inr z, h1, rfl, j1.symm⟩, h.fin r (.bl _)⟩
    | none =>
      rw [q] at h
      exact ⟨d, none, rfl, .inl ⟨kvs, .inr z, h1, rfl, (i2 q).symm⟩, h.fin r (.bl _)⟩
  · exact h.elim
theorem o2_dGet : O2 X T (AR X.K T) rDGet gDGet := by
  intro F cm H s W x y dx dy Q r a b h
  unfold gDGet at h
  split at h
  · rename_i ks ds z
    cases b.str
    obtain ⟨d, kvs, rfl, h1, rfl, h3⟩ := a.dic r
    obtain ⟨i1, i2⟩ := dget_val (k := .inr z) h3
    cases q : dget (kvs.map (·.1)) ds (.inr z) with
    | some dd =>
      obtain ⟨v, j1, j2⟩ := i1 dd q
      rw [q] at h
      exact ⟨d, v, rfl, .inl ⟨kvs, .inr z, h1, rfl, j1.symm⟩, h.fin r j2⟩
    | none =>
      rw [q] at h
      exact h.elim
  · exact h.elim
theorem q_dIn (hu : X.A.units + 65 < cLine) (ha : QB X T W e me) (ho : QB X T W o mo) (hm : behindInMarks .In o = false := by rfl) : QE X T W (.Compare e [.In] [o] pos) (mOp gDIn me mo) :=
  PE.conv (pe_cmp (pc_din (by omega) ha ho) hm) fun σ H Q h => tOp_of (r := rDIn) o2_dIn up_AR h
theorem q_dGet (hu : X.A.units + 65 < cLine) (ho : QB X T W o mo) (ha : QB X T W e me) (hs : NoSl e := by exact fun _ _ => rfl) : QE X T W (.Subscript o e pos) (mOp gDGet mo me) :=
  PE.conv (pe_dget (by omega) ho ha hs) fun σ H Q h => tOp_of (r := rDGet) o2_dGet up_AR h
/-- the pairs of a display that are constants -/
structure CPairs (X : Cx) (T : Tb) (pos : Pos) (keys : List (Option Expr)) (values : List Expr) (ks : List Key) (ds : List D) : Prop where
  ex : ∃ (trs : List (TE × TE)) (kvs : List (Key × V)), PPs X pos keys values trs ∧ (∀ σ H Q, Q (kvs.map fun kv => (kV kv.1, kv.2)) H → tPairs trs σ H Q) ∧ ks = kvs.map (·.1) ∧ ∀ cm G, Reps X.K T cm G (kvs.map (·.2)) ds
theorem cp_nil : CPairs X T pos [] [] [] [] := ⟨[], [], pps_nil, fun _ _ _ h => h, rfl, fun _ _ => .nil⟩
theorem cp_cons {k v : Expr} {kk : Key} {vv : V} {d : D} {keys : List (Option Expr)} {values : List Expr} {ks : List Key} {ds : List D} (hk : PE X k (tC (kV kk))) (hv : PE X v (tC vv)) (hd : ∀ cm G, Rep X.K T cm G vv d) (h : CPairs X T pos keys values ks ds) : CPairs X T pos (some k :: keys) (v :: values) (kk :: ks) (d :: ds) := by
  obtain ⟨trs, kvs, h1, h2, h3, h4⟩ := h.ex
  refine ⟨(tC (kV kk), tC vv) :: trs, (kk, vv) :: kvs, pps_cons hk hv h1, fun σ H Q h => h2 σ H _ h, by rw [h3]; rfl, fun cm G => .cons (hd cm G) (h4 cm G)⟩
theorem merge_nodup : ∀ (kvs acc : List (Key × V)), ((acc ++ kvs).map (·.1)).Nodup → mergeK acc kvs = acc ++ kvs
  | [], acc, _ => by rw [List.append_nil]; rfl
  | p :: kvs, acc, h => by
    have hn : (acc.any fun kv => decide (kv.1 = p.1)) = false := by
      rw [List.any_eq_false]
      intro q hq
      simp only [decide_eq_true_eq]
      intro e
      rw [List.map_append, List.map_cons] at h
      have := (List.nodup_append.mp h).2.2 q.1 (List.mem_map_of_mem hq) p.1 List.mem_cons_self
      exact this e
    have e : putK acc p.1 p.2 = acc ++ [p] := by
      unfold putK
      rw [hn, if_neg (by simp)]
    show mergeK (putK acc p.1 p.2) kvs = _
    rw [e, merge_nodup kvs (acc ++ [p]) (by rw [List.append_assoc]; exact h), List.append_assoc]
    rfl
theorem q_disp {keys : List (Option Expr)} {values : List Expr} {ks : List Key} {ds : List D} (h : CPairs X T pos keys values ks ds) (hn : ks.Nodup := by decide) (hl : ks.length ≤ 15 := by decide) (hall : keys.all (·.isSome) = true := by rfl) (hlen : keys.length = values.length := by rfl) (h0 : keys ≠ [] := by simp) (h15 : keys.length ≤ 15 := by decide) : QE X T W (.Dict keys values pos) (mC (.dic ks ds)) := by
  obtain ⟨trs, kvs, h1, h2, h3, h4⟩ := h.ex
  refine PE.conv (pe_disp h1 hall hlen h0 h15) fun σ H Q h => ?_
  obtain ⟨B, Z, cm, ρ, s, r, p⟩ := h
  intro a ha
  refine h2 _ _ _ ⟨upd_same, kvs, rfl, by rw [h3, List.length_map] at hl; exact hl, ?_⟩
  rw [upd_upd, merge_nodup kvs [] (by rw [List.nil_append, ← h3]; exact hn), List.nil_append]
  refine p.fin_new (F := ⟨B, Z, σ, ρ⟩) r (sub_upd ha) ?_
  rw [h3]
  exact .dic (.inl (vis_new r ha)) (h4 _ _)
theorem q_disp0 : QE X T W (.Dict [] [] pos) (mC (.dic [] [])) := PE.conv pe_dnewK fun σ H Q h => by
  obtain ⟨B, Z, cm, ρ, s, r, p⟩ := h
  intro a ha
  refine p.fin_new (F := ⟨B, Z, σ, ρ⟩) r (sub_upd ha) ?_
  exact .dic (kvs := []) (.inl (vis_new r ha)) .nil
end
theorem tab_at {fa : List He.Fa} {fn : List He.DefD} {ts : List He.Tab} {w : World} {K : PySem.W.Frag} (c : He.SaysT fa fn ts w K) (i : Nat) {t : He.Tab} (h : ts[i]? = some t := by rfl) : He.dicW K (t.1 K) = some (He.keysIn w.params t.2) := by
  have e : ts.map (fun t => He.dicW K (t.1 K)) = ts.map fun t => some (He.keysIn w.params t.2) := congrArg (fun z : He.AlT => z.2) c
  have e2 : (ts.map fun t => He.dicW K (t.1 K))[i]? = (ts.map fun t => some (He.keysIn w.params t.2))[i]? := by rw [e]
  rw [List.getElem?_map, List.getElem?_map, h] at e2
  exact Option.some.inj e2
/-! ### tests -/
def tIfT (t : TT) (ta tb : TT) : TT := fun σ H Q => t σ H fun c H1 => if c = true then ta σ H1 Q else tb σ H1 Q
def mIfT (c a b : TM) : TM := fun ρ s => (c ρ s).bind fun x s1 => match x with | true => a ρ s1 | false => b ρ s1
section
variable {X : Cx} {T : Tb} {W : WX} {c a b e : Expr} {tA ta tb : TT} {mc ma mb : TM} {m me mo : EM} {pos p : Pos} {o : Expr} {x : Str} {tab : List (Str × D)}
theorem pt_ifExp (hc : PT X c tA) (ha : PT X a ta) (hb : PT X b tb) : PT X (.IfExp c a b pos) (tIfT tA ta tb) := by
  refine ⟨fun pins s σ H Q I h => ?_⟩
  refine PyProof.Rows.isTrue_IfExp (thn (hc.run pins s σ H _ I h) fun d s1 ⟨H1, I1, q1⟩ => ?_)
  cases d with
  | true => exact ha.run pins s1 σ H1 Q I1 q1
  | false => exact hb.run pins s1 σ H1 Q I1 q1
theorem qt_if (hc : QT X T W c mc) (ha : QT X T W a ma) (hb : QT X T W b mb) : QT X T W (.IfExp c a b pos) (mIfT mc ma mb) := PT.conv (pt_ifExp hc ha hb) fun σ H Q h => by
  refine h.bind AT up_AT fun B Z cm ρ x H1 ⟨cm1, dx, s1, e1, r1, a1, p1⟩ => ?_
  cases a1
  cases x with
  | true =>
    rw [if_pos rfl]
    exact ⟨B, Z, cm1, ρ, s1, r1, p1⟩
  | false =>
    rw [if_neg Bool.false_ne_true]
    exact ⟨B, Z, cm1, ρ, s1, r1, p1⟩
theorem qt_dIn (hu : X.A.units + 65 < cLine) (ha : QB X T W e me) (ho : QB X T W o mo) (hm : behindInMarks .In o = false := by rfl) : QT X T W (.Compare e [.In] [o] pos) (mTest (mOp gDIn me mo)) :=
  PT.conv (pt_cmp (pc_din (by omega) ha ho) hm) fun σ H Q h => tTest_of (fun _ _ _ h => tOp_of (r := rDIn) o2_dIn up_AR h) h
theorem inK_of {d : Addr} (h2 : ∀ z d', tab.lookup z = some d' → ∃ v, PySem.W.nsIn X.K d z = some (some v) ∧ Con X.K v d') (h3 : ∀ z, tab.lookup z = none → PySem.W.nsIn X.K d z = some none) {σ : L2.St} {H : Hp} {Q : VK} (h : tP X.K T W (AR X.K T) (gInK tab m) σ H Q) :
    tOp (fun x y H Q => ∃ (z : Str) (r : Option Value), x = .str z ∧ y = .ref d ∧ PySem.W.nsIn X.K d z = some r ∧ Q (.bl r.isSome) H) (tP X.K T W (AB X.K T) m) (tC (.ref d)) σ H Q := by
  refine h.bind (AB X.K T) up_AR fun B Z cm ρ v H1 ⟨cm1, dx, s1, e1, r1, a1, p1⟩ => ?_
  cases dx with
  | str z =>
    cases a1.str
    dsimp only at p1
    cases q : tab.lookup z with
    | some d =>
      obtain ⟨v, k1, _⟩ := h2 z d q
      rw [q] at p1
      exact ⟨z, some v, rfl, rfl, k1, p1.fin r1 (.bl _)⟩
    | none =>
      rw [q] at p1
      exact ⟨z, none, rfl, rfl, h3 z q, p1.fin r1 (.bl _)⟩
  | _ => exact p1.elim
theorem notInK_of {d : Addr} (h2 : ∀ z d', tab.lookup z = some d' → ∃ v, PySem.W.nsIn X.K d z = some (some v) ∧ Con X.K v d') (h3 : ∀ z, tab.lookup z = none → PySem.W.nsIn X.K d z = some none) {σ : L2.St} {H : Hp} {Q : VK} (h : tP X.K T W (AR X.K T) (gNotInK tab m) σ H Q) :
    tOp (fun x y H Q => ∃ (z : Str) (r : Option Value), x = .str z ∧ y = .ref d ∧ PySem.W.nsIn X.K d z = some r ∧ Q (.bl (!r.isSome)) H) (tP X.K T W (AB X.K T) m) (tC (.ref d)) σ H Q := by
  refine h.bind (AB X.K T) up_AR fun B Z cm ρ v H1 ⟨cm1, dx, s1, e1, r1, a1, p1⟩ => ?_
  cases dx with
  | str z =>
    cases a1.str
    dsimp only at p1
    cases q : tab.lookup z with
    | some d =>
      obtain ⟨v, k1, _⟩ := h2 z d q
      rw [q] at p1
      exact ⟨z, some v, rfl, rfl, k1, p1.fin r1 (.bl _)⟩
    | none =>
      rw [q] at p1
      exact ⟨z, none, rfl, rfl, h3 z q, p1.fin r1 (.bl _)⟩
  | _ => exact p1.elim
theorem qt_inK (h : KTab X.K X.w X.mg x tab) (ha : QB X T W e m) (hg : Gl X x := by rfl) (hdb : (x == ("__debug__" : Str)) = false := by decide) (hm : behindInMarks .In (.Name x p) = false := by rfl) : QT X T W (.Compare e [.In] [.Name x p] pos) (mTest (gInK tab m)) := by
  obtain ⟨a, es, n, h1, kd, h2, h3⟩ := h.ex
  exact PT.conv (pt_cmpR (op_in_kd kd) ha (pe_glob (v := .ref a) hg h1 rfl hdb) hm) fun σ H Q h => tTest_of (fun _ _ _ h => inK_of h2 h3 h) h
theorem qt_notInK (h : KTab X.K X.w X.mg x tab) (ha : QB X T W e m) (hg : Gl X x := by rfl) (hdb : (x == ("__debug__" : Str)) = false := by decide) (hm : behindInMarks .NotIn (.Name x p) = false := by rfl) : QT X T W (.Compare e [.NotIn] [.Name x p] pos) (mTest (gNotInK tab m)) := by
  obtain ⟨a, es, n, h1, kd, h2, h3⟩ := h.ex
  exact PT.conv (pt_cmpR (op_notIn_kd kd) ha (pe_glob (v := .ref a) hg h1 rfl hdb) hm) fun σ H Q h => tTest_of (fun _ _ _ h => notInK_of h2 h3 h) h
end
def lamDB (sc lam : Scope) (N : List Str) (a : Str) : Bool :=
  decide (lam.kind = .function) && (!lam.isCoroutine && (!lam.isGenerator && (decide (lam.names.lookup a = some .local) && lam.names.all fun y => !decide (y.2 = .cell) && ((!decide (y.2 = .local) || !decide (y.1 ∈ N)) && (!decide (y.2 = .free) || (decide (sc.names.lookup y.1 = some .cell) || decide (sc.names.lookup y.1 = some .free)))))))
theorem lamD_by {sc lam : Scope} {N : List Str} {a : Str} (h : lamDB sc lam N a = true) : LamD sc lam N a := by
  unfold lamDB at h
  simp only [Bool.and_eq_true, Bool.or_eq_true, Bool.not_eq_true', decide_eq_true_eq, decide_eq_false_iff_not, List.all_eq_true] at h
  obtain ⟨h1, h2, h3, h4, h5⟩ := h
  refine ⟨h1, h2, h3, fun y hy => (h5 y hy).1, h4, fun y hy e => ?_, fun y hy e => ?_⟩
  · rcases (h5 y hy).2.1 with z | z
    · exact absurd e z
    · exact z
  · rcases (h5 y hy).2.2 with z | z
    · exact absurd e z
    · exact z
end Tv

namespace K26
open PySem PySem.Spec PyProof.Rows L2 Tv
def top (i : Nat) : Stmt := PySem.Challenge.pw_tintbridge_k26_which_are_changes.main.body.getD i (.Pass ⟨0, 0, 0, 0⟩)
abbrev cs : List Nat := []
abbrev es : List Nat := [0, 1, 2, 3, 4, 5, 6, 7, 8, 9, 10, 11, 12, 13]
def nm : Nat → Str := fun c => match c with
  | 0 => "BadPart"
  | 1 => "BadNumber"
  | 2 => "Unknown"
  | 3 => "BadPoint"
  | 4 => "BadBytes"
  | 5 => "BadGroup"
  | 6 => "BadPicture"
  | 7 => "BadChange"
  | 8 => "TooMany"
  | 9 => "BadText"
  | 10 => "BadLine"
  | 11 => "NotTurned"
  | 12 => "BadClaim"
  | 13 => "NothingDone"
  | _ => ""
def d_FORMS : List (Str × D) := [("lamp", .tup [.str "name", .str "number", .str "number", .str "number"]), ("knot", .tup [.str "name", .str "number", .str "number"]), ("flat", .tup [.str "name", .str "number"]), ("levels", .tup [.str "name", .str "number"]), ("ink", .tup [.str "name", .str "number", .str "number", .str "number", .str "number", .str "number"]), ("target", .tup [.str "number", .str "number", .str "number"]), ("entry", .tup [.str "number", .str "number", .str "signed", .str "number"]), ("add", .tup [.str "number", .str "signed", .str "number"]), ("swap", .tup []), ("clip", .tup []), ("drop", .tup [.str "number"]), ("curves", .tup [.str "name"]), ("push", .tup [])]
def b__law_refusal : SM := (mSeq (mSet 1 (mLst (mCons (mC (.str "BadPart")) (mCons (mC (.str "BadNumber")) (mCons (mC (.str "Unknown")) (mCons (mC (.str "BadPoint")) (mCons (mC (.str "BadBytes")) (mCons (mC (.str "BadGroup")) (mCons (mC (.str "BadPicture")) (mCons (mC (.str "BadChange")) (mCons (mC (.str "TooMany")) (mCons (mC (.str "BadText")) (mCons (mC (.str "BadLine")) (mCons (mC (.str "NotTurned")) (mCons (mC (.str "BadClaim")) (mCons (mC (.str "NothingDone")) mNil))))))))))))))))
    (mSeq (mSet 2 (mLst (mCons (gIsX (kXc es 0) (mVar 0)) (mCons (gIsX (kXc es 1) (mVar 0)) (mCons (gIsX (kXc es 2) (mVar 0)) (mCons (gIsX (kXc es 3) (mVar 0)) (mCons (gIsX (kXc es 4) (mVar 0)) (mCons (gIsX (kXc es 5) (mVar 0)) (mCons (gIsX (kXc es 6) (mVar 0)) (mCons (gIsX (kXc es 7) (mVar 0)) (mCons (gIsX (kXc es 8) (mVar 0)) (mCons (gIsX (kXc es 9) (mVar 0)) (mCons (gIsX (kXc es 10) (mVar 0)) (mCons (gIsX (kXc es 11) (mVar 0)) (mCons (gIsX (kXc es 12) (mVar 0)) (mCons (gIsX (kXc es 13) (mVar 0)) mNil))))))))))))))))
    (mSeq (mIfS (mOr (mTest (mOp gNe (mBm "list" gCntB (mVar 2) (mCons (mC (.bl true)) mNil)) (mC (.int 1)))) (mNot (mTest (gIsX (kXv es) (mVar 0))))) (mRet (mTup (mCons (mC (.str "other")) mNil))) mNext)
    (mSeq (mSet 3 (mOp gIx (mVar 1) (mBm "list" gIndex (mVar 2) (mCons (mC (.bl true)) mNil))))
    (mSeq (mIfS (mTest (mOp gEq (mVar 3) (mC (.str "BadPart")))) (mRet (mTup (mCons (mVar 3) (mCons (mFldX [(0, 0)] (mVar 0)) (mCons (mFldX [(0, 1), (3, 0), (4, 0), (5, 0), (6, 0), (7, 0)] (mVar 0)) mNil))))) mNext)
    (mSeq (mIfS (mTest (mOp gEq (mVar 3) (mC (.str "BadNumber")))) (mRet (mTup (mCons (mVar 3) (mCons (mFldX [(1, 0)] (mVar 0)) mNil)))) mNext)
    (mSeq (mIfS (mTest (mOp gEq (mVar 3) (mC (.str "Unknown")))) (mRet (mTup (mCons (mVar 3) (mCons (mFldX [(2, 0)] (mVar 0)) mNil)))) mNext)
    (mSeq (mIfS (mTest (mOp gEq (mVar 3) (mC (.str "TooMany")))) (mRet (mTup (mCons (mVar 3) (mCons (mFldX [(8, 0)] (mVar 0)) mNil)))) mNext)
    (mSeq (mIfS (mTest (mOp gIn (mVar 3) (mTup (mCons (mC (.str "BadText")) (mCons (mC (.str "BadLine")) mNil))))) (mRet (mTup (mCons (mVar 3) (mCons (mFldX [(9, 0), (10, 0)] (mVar 0)) mNil)))) mNext)
    (mSeq (mIfS (mTest (mOp gIn (mVar 3) (mTup (mCons (mC (.str "NotTurned")) (mCons (mC (.str "BadClaim")) (mCons (mC (.str "NothingDone")) mNil)))))) (mRet (mTup (mCons (mVar 3) mNil))) mNext)
    (mRet (mTup (mCons (mVar 3) (mCons (mFldX [(0, 1), (3, 0), (4, 0), (5, 0), (6, 0), (7, 0)] (mVar 0)) mNil))))))))))))))
def F__law_refusal : FM := mFun 3 b__law_refusal
def t__law_alike_1 (F : FM) : TM := (mNot (mTest (mCallF F (mCons (mOp gIx (mVar 0) (mVar 2)) (mCons (mOp gIx (mVar 1) (mVar 2)) mNil)))))
def b__law_alike (F : FM) : SM := (mSeq (mIfS (mTest (gIsi (kTy2 cs "tuple" "list") (mVar 1))) (mSeq (mIfS (mOr (mNot (mTest (gIsi (kTy2 cs "tuple" "list") (mVar 0)))) (mTest (mOp gNe (gIsi (kTy cs "list") (mVar 0)) (gIsi (kTy cs "list") (mVar 1))))) (mRet (mC (.bl false))) mNext)
    (mSeq (mIfS (mTest (mOp gNe (mCall gLen (mCons (mVar 0) mNil)) (mCall gLen (mCons (mVar 1) mNil)))) (mRet (mC (.bl false))) mNext)
    (mRet (mOp gEq (mComp [2] (mRng1 (mCons (mCall gLen (mCons (mVar 1) mNil)) mNil)) (.nm 2) (t__law_alike_1 F) (mVar 2)) (mLst mNil))))) mNext)
    (mSeq (mIfS (mOr (mTest (mOp gIs (mVar 1) (mC .non))) (mTest (gIsi (kTy cs "str") (mVar 1)))) (mRet (mAndV (mOp gEq (mVar 0) (mVar 1)) (mOp gEq (gIsi (kTy cs "str") (mVar 0)) (gIsi (kTy cs "str") (mVar 1))))) mNext)
    (mRet (mAndV (gIsi (kTy cs "int") (mVar 0)) (mAndV (mOp gEq (gIsi (kTy cs "bool") (mVar 0)) (gIsi (kTy cs "bool") (mVar 1))) (mOp gEq (mVar 0) (mVar 1)))))))
def F__law_alike : Nat → FM
  | 0 => fun _ _ => .no
  | n + 1 => mFun 1 (b__law_alike (F__law_alike n))
def t__law_is_name_1 : TM := (mTest (mOp gNotInT (mVar 1) (mC (.str "abcdefghijklmnopqrstuvwxyz"))))
def b__law_is_name : SM := (mRet (mAndV (mChain gLe gLe (mC (.int 1)) (mCall gLen (mCons (mVar 0) mNil)) (mC (.int 8))) (mOp gEq (mComp [1] (mSeqI (mVar 0)) (.nm 1) t__law_is_name_1 (mVar 1)) (mLst mNil))))
def F__law_is_name : FM := mFun 1 b__law_is_name
def t__law_number_1 : TM := (mTest (mOp gNotInT (mVar 1) (mC (.str "0123456789"))))
def b__law_number : SM := (mRet (mAndV (mChain gLe gLe (mC (.int 1)) (mCall gLen (mCons (mVar 0) mNil)) (mC (.int 5))) (mAndV (mOp gEq (mComp [1] (mSeqI (mVar 0)) (.nm 1) t__law_number_1 (mVar 1)) (mLst mNil)) (mOrV (mOp gNe (mOp gIx (mVar 0) (mC (.int 0))) (mC (.str "0"))) (mOp gEq (mCall gLen (mCons (mVar 0) mNil)) (mC (.int 1)))))))
def F__law_number : FM := mFun 1 b__law_number
def b__law_signed : SM := (mRet (mOrV (mCallF F__law_number (mCons (mVar 0) mNil)) (mAndV (mOp gEq (mSlice gSliceA (mVar 0) mNoPart (mPart (mC (.int 1)))) (mC (.str "-"))) (mAndV (mCallF F__law_number (mCons (mSlice gSliceA (mVar 0) (mPart (mC (.int 1))) mNoPart) mNil)) (mOp gNe (mVar 0) (mC (.str "-0")))))))
def F__law_signed : FM := mFun 0 b__law_signed
def l__law_is_change_1 : SM := (mSeq (mSet 6 (mOp gIx (mVar 1) (mOp gAddA (mVar 5) (mC (.int 1)))))
    (mIfS (mNot (mIfT (mTest (mOp gEq (mOp gIx (mVar 4) (mVar 5)) (mC (.str "a")))) (mTest (mCallF F__law_is_name (mCons (mVar 6) mNil))) (mIfT (mTest (mOp gEq (mOp gIx (mVar 4) (mVar 5)) (mC (.str "n")))) (mTest (mCallF F__law_number (mCons (mVar 6) mNil))) (mTest (mCallF F__law_signed (mCons (mVar 6) mNil)))))) (mRet (mC (.bl false))) mNext))
def b__law_is_change : SM := (mSeq (mSet 1 (mBm "str" gSplit (mVar 0) (mCons (mC (.str " ")) mNil)))
    (mSeq (mSet 2 (mC (.dic [.inr "lamp", .inr "knot", .inr "flat", .inr "levels", .inr "ink", .inr "target", .inr "entry"] [.str "annn", .str "ann", .str "an", .str "an", .str "annnnn", .str "nnn", .str "nnsn"])))
    (mSeq (mSet 3 (mC (.dic [.inr "add", .inr "swap", .inr "clip", .inr "drop", .inr "curves", .inr "push"] [.str "nsn", .str "", .str "", .str "n", .str "a", .str ""])))
    (mSeq (mSet 4 (mIf (mTest (mOp gDIn (mOp gIx (mVar 1) (mC (.int 0))) (mVar 2))) (mOp gDGet (mVar 2) (mOp gIx (mVar 1) (mC (.int 0)))) (mIf (mTest (mOp gDIn (mOp gIx (mVar 1) (mC (.int 0))) (mVar 3))) (mOp gDGet (mVar 3) (mOp gIx (mVar 1) (mC (.int 0)))) (mC .non))))
    (mSeq (mIfS (mOr (mNot (mTest (mChain gLe gLe (mC (.int 1)) (mCall gLen (mCons (mVar 0) mNil)) (mC (.int 60))))) (mOr (mTest (mOp gIs (mVar 4) (mC .non))) (mTest (mOp gNe (mCall gLen (mCons (mVar 1) mNil)) (mOp gAddA (mCall gLen (mCons (mVar 4) mNil)) (mC (.int 1))))))) (mRet (mC (.bl false))) mNext)
    (mSeq (mFor (mRng1 (mCons (mCall gLen (mCons (mVar 4) mNil)) mNil)) (.nm 5) l__law_is_change_1)
    (mRet (mC (.bl true)))))))))
def F__law_is_change : FM := mFun 6 b__law_is_change
def b__law_taken : SM := (mSeq (mIfS (mTest (mOp gGt (mOp gIx (mVar 0) (mC (.int 3))) (mC (.int 0)))) (mSeq (mSet 2 (mOp gMod (mCall gInt (mCons (mOp gIx (mVar 0) (mC (.int 3))) mNil)) (mVar 1)))
    (mSeq (mSetIx 0 (mC (.int 3)) (mOp gDiv (mOp gIx (mVar 0) (mC (.int 3))) (mVar 1)))
    (mRet (mVar 2)))) mNext)
    (mSeq (mSetIx 0 (mC (.int 1)) (mOp gAddA (mOp gIx (mVar 0) (mC (.int 1))) (mC (.int 1))))
    (mSeq (mIfS (mTest (mOp gGt (mOp gIx (mVar 0) (mC (.int 1))) (mCall gLen (mCons (mOp gIx (mVar 0) (mC (.int 0))) mNil)))) (mSeq (mSetIx 0 (mC (.int 2)) (mOp gMod (mCall gInt (mCons (mOp gAddA (mOp gMul (mOp gIx (mVar 0) (mC (.int 2))) (mC (.int 48271))) (mC (.int 11))) mNil)) (mC (.int 2147483647))))
    (mRet (mOp gMod (mCall gInt (mCons (mOp gDiv (mOp gIx (mVar 0) (mC (.int 2))) (mC (.int 7))) mNil)) (mVar 1)))) mNext)
    (mSeq (mSet 3 (mOp gIx (mOp gIx (mVar 0) (mC (.int 0))) (mOp gSub (mOp gIx (mVar 0) (mC (.int 1))) (mC (.int 1)))))
    (mSeq (mSetIx 0 (mC (.int 2)) (mOp gMod (mCall gInt (mCons (mOp gAddA (mOp gAddA (mOp gMul (mOp gIx (mVar 0) (mC (.int 2))) (mC (.int 48271))) (mVar 3)) (mC (.int 11))) mNil)) (mC (.int 2147483647))))
    (mSeq (mIfS (mTest (mOp gGe (mVar 3) (mOp gPow (mC (.int 10)) (mC (.int 18))))) (mSeq (mSetIx 0 (mC (.int 3)) (mOp gDiv (mVar 3) (mVar 1)))
    (mRet (mOp gMod (mCall gInt (mCons (mVar 3) mNil)) (mVar 1)))) mNext)
    (mRet (mOp gMod (mCall gInt (mCons (mOp gAddA (mOp gMul (mOp gMod (mCall gInt (mCons (mVar 3) mNil)) (mC (.int 1000003))) (mC (.int 31))) (mOp gDiv (mOp gIx (mVar 0) (mC (.int 2))) (mC (.int 11)))) mNil)) (mVar 1)))))))))
def F__law_taken : FM := mFun 2 b__law_taken
def b__law_pick : SM := (mRet (mOp gIx (mVar 1) (mCallF F__law_taken (mCons (mVar 0) (mCons (mCall gLen (mCons (mVar 1) mNil)) mNil)))))
def F__law_pick : FM := mFun 0 b__law_pick
def b__law_odd : SM := (mSeq (mSet 1 (mLst (mCons (mC .non) (mCons (mC (.bl true)) (mCons (mC (.bl false)) (mCons (mUn gNeg (mC (.int 1))) (mCons (mOp gPow (mC (.int 10)) (mC (.int 30))) (mCons (mC (.str "")) (mCons (mC (.str "A")) (mCons (mC (.str "a1")) (mCons (mC (.str "abcdefghi")) (mCons (mLst mNil) (mCons (mLst (mCons (mC (.int 1)) mNil)) (mCons (mC (.dic [] [])) (mCons (mC (.dic [.inr "a"] [.int 1])) (mCons (mC (.str "a b")) (mCons (mC (.int 61)) (mCons (mC (.str "-")) mNil))))))))))))))))))
    (mRet (mCallF F__law_pick (mCons (mVar 0) (mCons (mVar 1) mNil)))))
def F__law_odd : FM := mFun 1 b__law_odd
def b__law_same : SM := (mRet (mOp gEq (mCall gRepr (mCons (mVar 0) mNil)) (mCall gRepr (mCons (mVar 1) mNil))))
def F__law_same : FM := mFun 0 b__law_same
def e_is_name_1 : EM := (mOp gInT (mVar 1) (mC (.str "abcdefghijklmnopqrstuvwxyz")))
def b_is_name : SM := (mSeq (mIfS (mOr (mNot (mTest (gIsi (kTy cs "str") (mVar 0)))) (mNot (mTest (mChain gLe gLe (mC (.int 1)) (mCall gLen (mCons (mVar 0) mNil)) (mC (.int 8)))))) (mRet (mC (.bl false))) mNext)
    (mRet (mCall gAll (mCons (mComp [1] (mSeqI (mVar 0)) (.nm 1) mYes e_is_name_1) mNil))))
def F_is_name : FM := mFun 1 b_is_name
def e_is_number_word_1 : EM := (mOp gInT (mVar 1) (mC (.str "0123456789")))
def b_is_number_word : SM := (mSeq (mIfS (mOr (mNot (mTest (mChain gLe gLe (mC (.int 1)) (mCall gLen (mCons (mVar 0) mNil)) (mC (.int 5))))) (mNot (mTest (mCall gAll (mCons (mComp [1] (mSeqI (mVar 0)) (.nm 1) mYes e_is_number_word_1) mNil))))) (mRet (mC (.bl false))) mNext)
    (mRet (mOrV (mOp gEq (mCall gLen (mCons (mVar 0) mNil)) (mC (.int 1))) (mOp gNe (mOp gIx (mVar 0) (mC (.int 0))) (mC (.str "0"))))))
def F_is_number_word : FM := mFun 1 b_is_number_word
def b_is_signed_word : SM := (mSeq (mIfS (mTest (mOp gEq (mSlice gSliceA (mVar 0) mNoPart (mPart (mC (.int 1)))) (mC (.str "-")))) (mRet (mAndV (mCallF F_is_number_word (mCons (mSlice gSliceA (mVar 0) (mPart (mC (.int 1))) mNoPart) mNil)) (mOp gNe (mVar 0) (mC (.str "-0"))))) mNext)
    (mRet (mCallF F_is_number_word (mCons (mVar 0) mNil))))
def F_is_signed_word : FM := mFun 0 b_is_signed_word
def b_is_word_of : SM := (mSeq (mIfS (mTest (mOp gEq (mVar 1) (mC (.str "name")))) (mRet (mCallF F_is_name (mCons (mVar 0) mNil))) mNext)
    (mRet (mIf (mTest (mOp gEq (mVar 1) (mC (.str "number")))) (mCallF F_is_number_word (mCons (mVar 0) mNil)) (mCallF F_is_signed_word (mCons (mVar 0) mNil)))))
def F_is_word_of : FM := mFun 0 b_is_word_of
def e_is_change_1 : EM := (mCallF F_is_word_of (mCons (mVar 3) (mCons (mVar 4) mNil)))
def b_is_change : SM := (mSeq (mIfS (mOr (mNot (mTest (gIsi (kTy cs "str") (mVar 0)))) (mNot (mTest (mChain gLe gLe (mC (.int 1)) (mCall gLen (mCons (mVar 0) mNil)) (mC (.int 60)))))) (mRet (mC (.bl false))) mNext)
    (mSeq (mSet 1 (mBm "str" gSplit (mVar 0) (mCons (mC (.str " ")) mNil)))
    (mSeq (mIfS (mTest (gNotInK d_FORMS (mOp gIx (mVar 1) (mC (.int 0))))) (mRet (mC (.bl false))) mNext)
    (mSeq (mSet 2 (gGetK d_FORMS (mOp gIx (mVar 1) (mC (.int 0)))))
    (mRet (mAndV (mOp gEq (mCall gLen (mCons (mVar 1) mNil)) (mOp gAddA (mCall gLen (mCons (mVar 2) mNil)) (mC (.int 1)))) (mCall gAll (mCons (mComp [3, 4] (mZipI (mCons (mSlice gSliceA (mVar 1) (mPart (mC (.int 1))) mNoPart) (mCons (mVar 2) mNil))) (.tp (.cons (.nm 3) (.cons (.nm 4) .nil))) mYes e_is_change_1) mNil))))))))
def F_is_change : FM := mFun 4 b_is_change
def e_told_in_1 : EM := (mIf (mTest (mOp gEq (mVar 4) (mC (.str "name")))) (mVar 3) (mCall gIntT (mCons (mVar 3) mNil)))
def b_told_in : SM := (mSeq (mSet 1 (mBm "str" gSplit (mVar 0) (mCons (mC (.str " ")) mNil)))
    (mSeq (mSet 2 (gGetK d_FORMS (mOp gIx (mVar 1) (mC (.int 0)))))
    (mRet (mTup (mCons (mOp gIx (mVar 1) (mC (.int 0))) (mCons (mCall gTuple (mCons (mComp [3, 4] (mZipI (mCons (mSlice gSliceA (mVar 1) (mPart (mC (.int 1))) mNoPart) (mCons (mVar 2) mNil))) (.tp (.cons (.nm 3) (.cons (.nm 4) .nil))) mYes e_told_in_1) mNil)) mNil))))))
def F_told_in : FM := mFun 4 b_told_in
def e_change_line_1 : EM := (mCall gStr (mCons (mVar 3) mNil))
def b_change_line : SM := (mSeq (mIfS (mOr (mNot (mTest (gIsi (kTy cs "str") (mVar 0)))) (mNot (mTest (gIsi (kTy cs "tuple") (mVar 1))))) (mRaise 7 (mCons (mC .non) mNil)) mNext)
    (mSeq (mSet 2 (mBm "str" gJoin (mC (.str " ")) (mCons (mOp gAddA (mLst (mCons (mVar 0) mNil)) (mComp [3] (mSeqI (mVar 1)) (.nm 3) mYes e_change_line_1)) mNil)))
    (mSeq (mIfS (mOr (mNot (mTest (mCallF F_is_change (mCons (mVar 2) mNil)))) (mTest (mOp gNe (mCallF F_told_in (mCons (mVar 2) mNil)) (mTup (mCons (mVar 0) (mCons (mVar 1) mNil)))))) (mRaise 7 (mCons (mC .non) mNil)) mNext)
    (mRet (mVar 2)))))
def F_change_line : FM := mFun 2 b_change_line
def l_law_1 : SM := (mMethS 4 oAppend (mCons (mCallF F__law_pick (mCons (mVar 1) (mCons (mLst (mCons (mC (.str "a")) (mCons (mC (.str "ann")) (mCons (mC (.str "abcdefghi")) (mCons (mC (.str "1")) (mCons (mC (.str "0")) (mCons (mC (.str "12")) (mCons (mC (.str "99999")) (mCons (mC (.str "100000")) (mCons (mC (.str "01")) (mCons (mC (.str "")) (mCons (mC (.str "A")) (mCons (mC (.str "-")) (mCons (mC (.str "-1")) (mCons (mC (.str "-0")) (mCons (mC (.str "-01")) (mCons (mC (.str "1")) (mCons (mC (.str "2")) mNil)))))))))))))))))) mNil))) mNil))
def e_law_1 : EM := (mIf (mTest (mCallF F__law_signed (mCons (mVar 11) mNil))) (mCall gIntT (mCons (mVar 11) mNil)) (mVar 11))
def e_law_2 : EM := (mCallF F_change_line (mCons (mOp gIx (mVarB 4) (mC (.int 0))) (mCons (mVar 8) mNil)))
def l_law_2 : SM := (mSeq (mSetO 4 (mLst (mCons (mCallF F__law_pick (mCons (mVar 1) (mCons (mVar 2) mNil))) mNil)))
    (mSeq (mFor (mRng1 (mCons (mCallF F__law_pick (mCons (mVar 1) (mCons (mLst (mCons (mC (.int 0)) (mCons (mC (.int 0)) (mCons (mC (.int 1)) (mCons (mC (.int 1)) (mCons (mC (.int 2)) (mCons (mC (.int 2)) (mCons (mC (.int 3)) (mCons (mC (.int 3)) (mCons (mC (.int 4)) (mCons (mC (.int 4)) (mCons (mC (.int 6)) mNil)))))))))))) mNil))) mNil)) (.nm 5) l_law_1)
    (mSeq (mSet 6 (mBm "str" gJoin (mC (.str " ")) (mCons (mVarB 4) mNil)))
    (mSeq (mSet 7 (mCallF F__law_is_change (mCons (mVar 6) mNil)))
    (mSeq (mIfS (mNot (mTest (mCallF (F__law_alike 5) (mCons (mCallF F_is_change (mCons (mVar 6) mNil)) (mCons (mVar 7) mNil))))) (mRet (mC (.bl false))) mNext)
    (mSeq (mSet 8 (mCall gTuple (mCons (mComp [11] (mSeqI (mSlice gSliceA (mVarB 4) (mPart (mC (.int 1))) mNoPart)) (.nm 11) mYes e_law_1) mNil)))
    (mIfS (mNot (mTest (mCallF F__law_same (mCons (mTold es nm 0 0 e_law_2) (mCons (mIf (mTest (mVar 7)) (mTup (mCons (mC (.str "told")) (mCons (mVar 6) mNil))) (mTup (mCons (mC (.str "BadChange")) (mCons (mC .non) mNil)))) mNil))))) (mRet (mC (.bl false))) mNext)))))))
def l_law_3 : SM := (mIfS (mTest (mCallF F_is_change (mCons (mVar 9) mNil))) (mRet (mC (.bl false))) mNext)
def e_law_3 : EM := (mCallF F_change_line (mCons (mC .non) (mCons (mTup mNil) mNil)))
def e_law_4 : EM := (mCallF F_change_line (mCons (mC (.str "drop")) (mCons (mLst (mCons (mC (.int 4)) mNil)) mNil)))
def e_law_5 : EM := (mCallF F_change_line (mCons (mC (.str "swap")) (mCons (mC .non) mNil)))
def b_law : SM := (mSeq (mCell 1 (mLst (mCons (mVar 0) (mCons (mC (.int 0)) (mCons (mC (.int 4261)) (mCons (mC (.int 0)) mNil))))))
    (mSeq (mSet 2 (mLst (mCons (mC (.str "lamp")) (mCons (mC (.str "knot")) (mCons (mC (.str "flat")) (mCons (mC (.str "levels")) (mCons (mC (.str "ink")) (mCons (mC (.str "target")) (mCons (mC (.str "entry")) (mCons (mC (.str "add")) (mCons (mC (.str "swap")) (mCons (mC (.str "clip")) (mCons (mC (.str "drop")) (mCons (mC (.str "curves")) (mCons (mC (.str "push")) (mCons (mC (.str "Swap")) (mCons (mC (.str "")) (mCons (mC (.str "undo")) mNil))))))))))))))))))
    (mSeq (mFor (mRng1 (mCons (mC (.int 40)) mNil)) (.nm 3) l_law_2)
    (mSeq (mFor (mSeqI (mLst (mCons (mC .non) (mCons (mC (.int 1)) (mCons (mLst (mCons (mC (.str "swap")) mNil)) (mCons (mTup (mCons (mC (.str "swap")) mNil)) (mCons (mC (.str "swap ")) (mCons (mC (.str " swap")) (mCons (mC (.str "target 00 1 1")) (mCons (mOp gAddA (mC (.str "curves ")) (mOp gRepS (mC (.str "a")) (mC (.int 60)))) (mCons (mCallF F__law_odd (mCons (mVar 1) mNil)) mNil))))))))))) (.nm 9) l_law_3)
    (mSeq (mSet 10 (mLst (mCons (mTold es nm 0 0 e_law_3) (mCons (mTold es nm 0 0 e_law_4) (mCons (mTold es nm 0 0 e_law_5) mNil)))))
    (mRet (mCallF F__law_same (mCons (mVar 10) (mCons (mOp gRep (mLst (mCons (mTup (mCons (mC (.str "BadChange")) (mCons (mC .non) mNil))) mNil)) (mC (.int 3))) mNil)))))))))
def F_law : FM := mFun 11 b_law
end K26

namespace K26
open PySem PySem.Spec PyProof.Rows L2 Tv
/-! ### the walk -/
def lamArgs (d : Arguments) (st : Stmt) : Arguments := match st with | .Assign _ (.Lambda p _ _ _) _ => p | _ => d
def lamBody (st : Stmt) : Expr := match st with | .Assign _ (.Lambda _ b _ _) _ => b | _ => .Constant .none 0 ⟨0, 0, 0, 0⟩
def lamScope (d : Scope) (st : Stmt) : Scope := match st with | .Assign _ (.Lambda _ _ s _) _ => s | _ => d
def tb (K : PySem.W.Frag) : Tb where
  cls := fun c => match c with
    | 0 => He.ga K "BadPart"
    | 1 => He.ga K "BadNumber"
    | 2 => He.ga K "Unknown"
    | 3 => He.ga K "BadPoint"
    | 4 => He.ga K "BadBytes"
    | 5 => He.ga K "BadGroup"
    | 6 => He.ga K "BadPicture"
    | 7 => He.ga K "BadChange"
    | 8 => He.ga K "TooMany"
    | 9 => He.ga K "BadText"
    | 10 => He.ga K "BadLine"
    | 11 => He.ga K "NotTurned"
    | 12 => He.ga K "BadClaim"
    | 13 => He.ga K "NothingDone"
    | _ => 0
  fn := fun c => match c with
    | _ => 0
  fl := fun c => match c with
    | 0 => ["part", "place"]
    | 1 => ["value"]
    | 2 => ["name"]
    | 3 => ["place"]
    | 4 => ["place"]
    | 5 => ["place"]
    | 6 => ["place"]
    | 7 => ["place"]
    | 8 => ["limit"]
    | 9 => ["line"]
    | 10 => ["line"]
    | 11 => []
    | 12 => []
    | 13 => []
    | _ => []
  tq := fun n => match n with
    | 0 => ("law" : Str) ++ ".<locals>." ++ "<lambda>"
    | _ => Str.empty
  ta := fun n => match n with
    | 0 => (He.cT K ("law", none)).2
    | _ => 0
theorem sc__law_refusal : FnScope ["e", "kinds", "marks", "name"] ["e"] (defScope (top 42)) := ⟨rfl, rfl, rfl, by decide +kernel, rfl, by decide +kernel, by decide +kernel⟩
theorem sc__law_alike : FnScope ["found", "due", "k"] ["found", "due"] (defScope (top 38)) := ⟨rfl, rfl, rfl, by decide +kernel, rfl, by decide +kernel, by decide +kernel⟩
theorem sc__law_is_name : FnScope ["word", "sign"] ["word"] (defScope (top 41)) := ⟨rfl, rfl, rfl, by decide +kernel, rfl, by decide +kernel, by decide +kernel⟩
theorem sc__law_number : FnScope ["word", "sign"] ["word"] (defScope (top 44)) := ⟨rfl, rfl, rfl, by decide +kernel, rfl, by decide +kernel, by decide +kernel⟩
theorem sc__law_signed : FnScope ["word"] ["word"] (defScope (top 45)) := ⟨rfl, rfl, rfl, by decide +kernel, rfl, by decide +kernel, by decide +kernel⟩
theorem sc__law_is_change : FnScope ["text", "words", "forms", "more", "form", "k", "word"] ["text"] (defScope (top 46)) := ⟨rfl, rfl, rfl, by decide +kernel, rfl, by decide +kernel, by decide +kernel⟩
theorem sc__law_taken : FnScope ["row", "many", "found", "cell"] ["row", "many"] (defScope (top 36)) := ⟨rfl, rfl, rfl, by decide +kernel, rfl, by decide +kernel, by decide +kernel⟩
theorem sc__law_pick : FnScope ["row", "things"] ["row", "things"] (defScope (top 37)) := ⟨rfl, rfl, rfl, by decide +kernel, rfl, by decide +kernel, by decide +kernel⟩
theorem sc__law_odd : FnScope ["row", "odd"] ["row"] (defScope (top 40)) := ⟨rfl, rfl, rfl, by decide +kernel, rfl, by decide +kernel, by decide +kernel⟩
theorem sc__law_same : FnScope ["found", "due"] ["found", "due"] (defScope (top 39)) := ⟨rfl, rfl, rfl, by decide +kernel, rfl, by decide +kernel, by decide +kernel⟩
theorem sc_is_name : FnScope ["value", "sign"] ["value"] (defScope (top 19)) := ⟨rfl, rfl, rfl, by decide +kernel, rfl, by decide +kernel, by decide +kernel⟩
theorem sc_is_number_word : FnScope ["word", "sign"] ["word"] (defScope (top 29)) := ⟨rfl, rfl, rfl, by decide +kernel, rfl, by decide +kernel, by decide +kernel⟩
theorem sc_is_signed_word : FnScope ["word"] ["word"] (defScope (top 30)) := ⟨rfl, rfl, rfl, by decide +kernel, rfl, by decide +kernel, by decide +kernel⟩
theorem sc_is_word_of : FnScope ["word", "kind"] ["word", "kind"] (defScope (top 31)) := ⟨rfl, rfl, rfl, by decide +kernel, rfl, by decide +kernel, by decide +kernel⟩
theorem sc_is_change : FnScope ["value", "words", "form", "word", "kind"] ["value"] (defScope (top 32)) := ⟨rfl, rfl, rfl, by decide +kernel, rfl, by decide +kernel, by decide +kernel⟩
theorem sc_told_in : FnScope ["change", "words", "form", "word", "kind"] ["change"] (defScope (top 33)) := ⟨rfl, rfl, rfl, by decide +kernel, rfl, by decide +kernel, by decide +kernel⟩
theorem sc_change_line : FnScope ["head", "told", "line", "one"] ["head", "told"] (defScope (top 34)) := ⟨rfl, rfl, rfl, by decide +kernel, rfl, by decide +kernel, by decide +kernel⟩
theorem sc_law : FnScope ["script", "row", "heads", "turn", "words", "k", "text", "due", "things", "odd", "told", "word"] ["script"] (defScope (top 47)) := ⟨rfl, rfl, rfl, by decide +kernel, rfl, by decide +kernel, by decide +kernel⟩
theorem sc__law_told : FnScope ["call", "e"] ["call"] (defScope (top 43)) := ⟨rfl, rfl, rfl, by decide +kernel, rfl, by decide +kernel, by decide +kernel⟩
structure Cn (P : Program) (w : World) (K : PySem.W.Frag) (mg : Str → Option Value) (base : Heap) : Prop where
  d__law_refusal : ∃ fd, FunD K "_law_refusal" "_law_refusal" (defArgs (top 42)) (defBody (top 42)) (defScope (top 42)) [] [] (He.ga K "_law_refusal") fd
  g__law_refusal : mg "_law_refusal" = some (.ref (He.ga K "_law_refusal"))
  d__law_alike : ∃ fd, FunD K "_law_alike" "_law_alike" (defArgs (top 38)) (defBody (top 38)) (defScope (top 38)) [] [] (He.ga K "_law_alike") fd
  g__law_alike : mg "_law_alike" = some (.ref (He.ga K "_law_alike"))
  d__law_is_name : ∃ fd, FunD K "_law_is_name" "_law_is_name" (defArgs (top 41)) (defBody (top 41)) (defScope (top 41)) [] [] (He.ga K "_law_is_name") fd
  g__law_is_name : mg "_law_is_name" = some (.ref (He.ga K "_law_is_name"))
  d__law_number : ∃ fd, FunD K "_law_number" "_law_number" (defArgs (top 44)) (defBody (top 44)) (defScope (top 44)) [] [] (He.ga K "_law_number") fd
  g__law_number : mg "_law_number" = some (.ref (He.ga K "_law_number"))
  d__law_signed : ∃ fd, FunD K "_law_signed" "_law_signed" (defArgs (top 45)) (defBody (top 45)) (defScope (top 45)) [] [] (He.ga K "_law_signed") fd
  g__law_signed : mg "_law_signed" = some (.ref (He.ga K "_law_signed"))
  d__law_is_change : ∃ fd, FunD K "_law_is_change" "_law_is_change" (defArgs (top 46)) (defBody (top 46)) (defScope (top 46)) [] [] (He.ga K "_law_is_change") fd
  g__law_is_change : mg "_law_is_change" = some (.ref (He.ga K "_law_is_change"))
  d__law_taken : ∃ fd, FunD K "_law_taken" "_law_taken" (defArgs (top 36)) (defBody (top 36)) (defScope (top 36)) [] [] (He.ga K "_law_taken") fd
  g__law_taken : mg "_law_taken" = some (.ref (He.ga K "_law_taken"))
  d__law_pick : ∃ fd, FunD K "_law_pick" "_law_pick" (defArgs (top 37)) (defBody (top 37)) (defScope (top 37)) [] [] (He.ga K "_law_pick") fd
  g__law_pick : mg "_law_pick" = some (.ref (He.ga K "_law_pick"))
  d__law_odd : ∃ fd, FunD K "_law_odd" "_law_odd" (defArgs (top 40)) (defBody (top 40)) (defScope (top 40)) [] [] (He.ga K "_law_odd") fd
  g__law_odd : mg "_law_odd" = some (.ref (He.ga K "_law_odd"))
  d__law_same : ∃ fd, FunD K "_law_same" "_law_same" (defArgs (top 39)) (defBody (top 39)) (defScope (top 39)) [] [] (He.ga K "_law_same") fd
  g__law_same : mg "_law_same" = some (.ref (He.ga K "_law_same"))
  d_is_name : ∃ fd, FunD K "is_name" "is_name" (defArgs (top 19)) (defBody (top 19)) (defScope (top 19)) [] [] (He.ga K "is_name") fd
  g_is_name : mg "is_name" = some (.ref (He.ga K "is_name"))
  d_is_number_word : ∃ fd, FunD K "is_number_word" "is_number_word" (defArgs (top 29)) (defBody (top 29)) (defScope (top 29)) [] [] (He.ga K "is_number_word") fd
  g_is_number_word : mg "is_number_word" = some (.ref (He.ga K "is_number_word"))
  d_is_signed_word : ∃ fd, FunD K "is_signed_word" "is_signed_word" (defArgs (top 30)) (defBody (top 30)) (defScope (top 30)) [] [] (He.ga K "is_signed_word") fd
  g_is_signed_word : mg "is_signed_word" = some (.ref (He.ga K "is_signed_word"))
  d_is_word_of : ∃ fd, FunD K "is_word_of" "is_word_of" (defArgs (top 31)) (defBody (top 31)) (defScope (top 31)) [] [] (He.ga K "is_word_of") fd
  g_is_word_of : mg "is_word_of" = some (.ref (He.ga K "is_word_of"))
  d_is_change : ∃ fd, FunD K "is_change" "is_change" (defArgs (top 32)) (defBody (top 32)) (defScope (top 32)) [] [] (He.ga K "is_change") fd
  g_is_change : mg "is_change" = some (.ref (He.ga K "is_change"))
  d_told_in : ∃ fd, FunD K "told_in" "told_in" (defArgs (top 33)) (defBody (top 33)) (defScope (top 33)) [] [] (He.ga K "told_in") fd
  g_told_in : mg "told_in" = some (.ref (He.ga K "told_in"))
  d_change_line : ∃ fd, FunD K "change_line" "change_line" (defArgs (top 34)) (defBody (top 34)) (defScope (top 34)) [] [] (He.ga K "change_line") fd
  g_change_line : mg "change_line" = some (.ref (He.ga K "change_line"))
  d_law : ∃ fd, FunD K "law" "law" (defArgs (top 47)) (defBody (top 47)) (defScope (top 47)) [] [] (He.ga K "law") fd
  g_law : mg "law" = some (.ref (He.ga K "law"))
  d__law_told : ∃ fd, FunD K "_law_told" "_law_told" (defArgs (top 43)) (defBody (top 43)) (defScope (top 43)) [] [] (He.ga K "_law_told") fd
  g__law_told : mg "_law_told" = some (.ref (He.ga K "_law_told"))
  n_str : mg "str" = none
  n_isinstance : mg "isinstance" = none
  n_len : mg "len" = none
  n_all : mg "all" = none
  n_zip : mg "zip" = none
  n_int : mg "int" = none
  n_tuple : mg "tuple" = none
  n_list : mg "list" = none
  n_range : mg "range" = none
  n_bool : mg "bool" = none
  n_repr : mg "repr" = none
  n_ValueError : mg "ValueError" = none
  n_super : mg "super" = none
  i_LONGEST : ∃ t, mg "LONGEST" = some (.int 8 t)
  i_MOST_DIGITS : ∃ t, mg "MOST_DIGITS" = some (.int 5 t)
  i_MOST_SIGNS : ∃ t, mg "MOST_SIGNS" = some (.int 60 t)
  s_LETTERS : ∃ t, mg "LETTERS" = some (.str "abcdefghijklmnopqrstuvwxyz" t)
  s_DIGITS : ∃ t, mg "DIGITS" = some (.str "0123456789" t)
  s_NAME : ∃ t, mg "NAME" = some (.str "name" t)
  s_NUMBER : ∃ t, mg "NUMBER" = some (.str "number" t)
  s_BLANK : ∃ t, mg "BLANK" = some (.str " " t)
  gk_FORMS : mg "FORMS" = some (.ref (He.ga K "FORMS"))
  d_FORMS_ : KTab K w mg "FORMS" d_FORMS
  gx_BadPart : mg "BadPart" = some (.ref (He.ga K "BadPart"))
  gx_BadNumber : mg "BadNumber" = some (.ref (He.ga K "BadNumber"))
  gx_Unknown : mg "Unknown" = some (.ref (He.ga K "Unknown"))
  gx_BadPoint : mg "BadPoint" = some (.ref (He.ga K "BadPoint"))
  gx_BadBytes : mg "BadBytes" = some (.ref (He.ga K "BadBytes"))
  gx_BadGroup : mg "BadGroup" = some (.ref (He.ga K "BadGroup"))
  gx_BadPicture : mg "BadPicture" = some (.ref (He.ga K "BadPicture"))
  gx_BadChange : mg "BadChange" = some (.ref (He.ga K "BadChange"))
  gx_TooMany : mg "TooMany" = some (.ref (He.ga K "TooMany"))
  gx_BadText : mg "BadText" = some (.ref (He.ga K "BadText"))
  gx_BadLine : mg "BadLine" = some (.ref (He.ga K "BadLine"))
  gx_NotTurned : mg "NotTurned" = some (.ref (He.ga K "NotTurned"))
  gx_BadClaim : mg "BadClaim" = some (.ref (He.ga K "BadClaim"))
  gx_NothingDone : mg "NothingDone" = some (.ref (He.ga K "NothingDone"))
  gx_TintError : mg "TintError" = some (.ref (He.ga K "TintError"))
  xm_BadPart : PySem.W.exmOne K (.ref (He.ga K "BadPart")) (.ref (He.ga K "TintError")) = some true
  xm_BadNumber : PySem.W.exmOne K (.ref (He.ga K "BadNumber")) (.ref (He.ga K "TintError")) = some true
  xm_Unknown : PySem.W.exmOne K (.ref (He.ga K "Unknown")) (.ref (He.ga K "TintError")) = some true
  xm_BadPoint : PySem.W.exmOne K (.ref (He.ga K "BadPoint")) (.ref (He.ga K "TintError")) = some true
  xm_BadBytes : PySem.W.exmOne K (.ref (He.ga K "BadBytes")) (.ref (He.ga K "TintError")) = some true
  xm_BadGroup : PySem.W.exmOne K (.ref (He.ga K "BadGroup")) (.ref (He.ga K "TintError")) = some true
  xm_BadPicture : PySem.W.exmOne K (.ref (He.ga K "BadPicture")) (.ref (He.ga K "TintError")) = some true
  xm_BadChange : PySem.W.exmOne K (.ref (He.ga K "BadChange")) (.ref (He.ga K "TintError")) = some true
  xm_TooMany : PySem.W.exmOne K (.ref (He.ga K "TooMany")) (.ref (He.ga K "TintError")) = some true
  xm_BadText : PySem.W.exmOne K (.ref (He.ga K "BadText")) (.ref (He.ga K "TintError")) = some true
  xm_BadLine : PySem.W.exmOne K (.ref (He.ga K "BadLine")) (.ref (He.ga K "TintError")) = some true
  xm_NotTurned : PySem.W.exmOne K (.ref (He.ga K "NotTurned")) (.ref (He.ga K "TintError")) = some true
  xm_BadClaim : PySem.W.exmOne K (.ref (He.ga K "BadClaim")) (.ref (He.ga K "TintError")) = some true
  xm_NothingDone : PySem.W.exmOne K (.ref (He.ga K "NothingDone")) (.ref (He.ga K "TintError")) = some true
  isc : IsC K (tb K) cs
  x_BadPart : Exc P K mg (tb K) 0 "BadPart" ["part", "place"]
  x_BadNumber : Exc P K mg (tb K) 1 "BadNumber" ["value"]
  x_Unknown : Exc P K mg (tb K) 2 "Unknown" ["name"]
  x_BadPoint : Exc P K mg (tb K) 3 "BadPoint" ["place"]
  x_BadBytes : Exc P K mg (tb K) 4 "BadBytes" ["place"]
  x_BadGroup : Exc P K mg (tb K) 5 "BadGroup" ["place"]
  x_BadPicture : Exc P K mg (tb K) 6 "BadPicture" ["place"]
  x_BadChange : Exc P K mg (tb K) 7 "BadChange" ["place"]
  x_TooMany : Exc P K mg (tb K) 8 "TooMany" ["limit"]
  x_BadText : Exc P K mg (tb K) 9 "BadText" ["line"]
  x_BadLine : Exc P K mg (tb K) 10 "BadLine" ["line"]
  x_NotTurned : Exc P K mg (tb K) 11 "NotTurned" []
  x_BadClaim : Exc P K mg (tb K) 12 "BadClaim" []
  x_NothingDone : Exc P K mg (tb K) 13 "NothingDone" []
  isx : IsX K (tb K) es
  t_law : LamX.TabB base mg (codeF K (He.ga K "law")) ((tb K).ta 0)
section
variable {P : Program} {w : World} {K : PySem.W.Frag} {mg : Str → Option Value} {base : Heap}
theorem bo__law_refusal (C : Cn P w K mg base) {cdv : Value} {A : Around} {outer : List Env} {s : Shared} {H : Hp} {a : Addr} {c : Nat} {d : Option Addr} {oe : Obj} {vs : Array Value} (hc : c ∈ es) (hz : Zc (.ref ((tb K).cls c)) d oe) (hd : oe.data = .fields vs) (hr : L2H.RoomH 0 (A.deeper (envOfC "_law_refusal" (defScope (top 42)) s.heap.objs.size (He.ga K "_law_refusal") cdv))) :
    QSs (L2H.cxH C8.CX0 P w K mg base ["e", "kinds", "marks", "name"] "_law_refusal" (defScope (top 42)) (He.ga K "_law_refusal") cdv A outer s H C8.E0 (a, oe)) ((tb K).x (some (a, c, d))) (fun _ _ _ _ => False) (defBody (top 42)) b__law_refusal := by
  have hh : Held (L2H.cxH C8.CX0 P w K mg base ["e", "kinds", "marks", "name"] "_law_refusal" (defScope (top 42)) (He.ga K "_law_refusal") cdv A outer s H C8.E0 (a, oe)) ((tb K).x (some (a, c, d))) es := ⟨a, c, d, oe, vs, rfl, hc, List.mem_cons_self, hz, hd⟩
  exact (qss_cons (q_set (i := 1) sc__law_refusal.nd (by rfl) (by first | exact Or.inl rfl | exact Or.inr rfl) (qf (q_lst (qs_cons q_str (qs_cons q_str (qs_cons q_str (qs_cons q_str (qs_cons q_str (qs_cons q_str (qs_cons q_str (qs_cons q_str (qs_cons q_str (qs_cons q_str (qs_cons q_str (qs_cons q_str (qs_cons q_str (qs_cons q_str qs_nil)))))))))))))))))
    (qss_cons (q_set (i := 2) sc__law_refusal.nd (by rfl) (by first | exact Or.inl rfl | exact Or.inr rfl) (qf (q_lst (qs_cons (q_isX (n := 0) hh C.isx.x C.x_BadPart.mg_ (by rfl) (by rfl) C.n_isinstance (qv 0)) (qs_cons (q_isX (n := 1) hh C.isx.x C.x_BadNumber.mg_ (by rfl) (by rfl) C.n_isinstance (qv 0)) (qs_cons (q_isX (n := 2) hh C.isx.x C.x_Unknown.mg_ (by rfl) (by rfl) C.n_isinstance (qv 0)) (qs_cons (q_isX (n := 3) hh C.isx.x C.x_BadPoint.mg_ (by rfl) (by rfl) C.n_isinstance (qv 0)) (qs_cons (q_isX (n := 4) hh C.isx.x C.x_BadBytes.mg_ (by rfl) (by rfl) C.n_isinstance (qv 0)) (qs_cons (q_isX (n := 5) hh C.isx.x C.x_BadGroup.mg_ (by rfl) (by rfl) C.n_isinstance (qv 0)) (qs_cons (q_isX (n := 6) hh C.isx.x C.x_BadPicture.mg_ (by rfl) (by rfl) C.n_isinstance (qv 0)) (qs_cons (q_isX (n := 7) hh C.isx.x C.x_BadChange.mg_ (by rfl) (by rfl) C.n_isinstance (qv 0)) (qs_cons (q_isX (n := 8) hh C.isx.x C.x_TooMany.mg_ (by rfl) (by rfl) C.n_isinstance (qv 0)) (qs_cons (q_isX (n := 9) hh C.isx.x C.x_BadText.mg_ (by rfl) (by rfl) C.n_isinstance (qv 0)) (qs_cons (q_isX (n := 10) hh C.isx.x C.x_BadLine.mg_ (by rfl) (by rfl) C.n_isinstance (qv 0)) (qs_cons (q_isX (n := 11) hh C.isx.x C.x_NotTurned.mg_ (by rfl) (by rfl) C.n_isinstance (qv 0)) (qs_cons (q_isX (n := 12) hh C.isx.x C.x_BadClaim.mg_ (by rfl) (by rfl) C.n_isinstance (qv 0)) (qs_cons (q_isX (n := 13) hh C.isx.x C.x_NothingDone.mg_ (by rfl) (by rfl) C.n_isinstance (qv 0)) qs_nil)))))))))))))))))
    (qss_cons (q_ifS (qw_pt (qw_or (qt_ne (hu64H hr) (qb (q_count (qb (qv 2)) (qb q_bl))) (qb q_int)) (qw_or1 (qt_not (qt_val (q_isXv hh C.isx.x C.n_ValueError (by rfl) (by rfl) C.n_isinstance (qv 0))))))) (qss_one (q_ret (q_tup (qs_cons q_str qs_nil)))) qss_nil)
    (qss_cons (q_set (i := 3) sc__law_refusal.nd (by rfl) (by first | exact Or.inl rfl | exact Or.inr rfl) (q_ix (qb (qv 1)) (qb (q_index (hu64H hr) (hu65H hr) (qb (qv 2)) (qb q_bl)))))
    (qss_cons (q_ifS (qt_eq (hu64H hr) (qb (qv 3)) (qb q_str)) (qss_one (q_ret (q_tup (qs_cons (qv 3) (qs_cons (q_fldX (ixs := [(0, 0)]) hh C.isx.x (qv 0)) (qs_cons (q_fldX (ixs := [(0, 1), (3, 0), (4, 0), (5, 0), (6, 0), (7, 0)]) hh C.isx.x (qv 0)) qs_nil)))))) qss_nil)
    (qss_cons (q_ifS (qt_eq (hu64H hr) (qb (qv 3)) (qb q_str)) (qss_one (q_ret (q_tup (qs_cons (qv 3) (qs_cons (q_fldX (ixs := [(1, 0)]) hh C.isx.x (qv 0)) qs_nil))))) qss_nil)
    (qss_cons (q_ifS (qt_eq (hu64H hr) (qb (qv 3)) (qb q_str)) (qss_one (q_ret (q_tup (qs_cons (qv 3) (qs_cons (q_fldX (ixs := [(2, 0)]) hh C.isx.x (qv 0)) qs_nil))))) qss_nil)
    (qss_cons (q_ifS (qt_eq (hu64H hr) (qb (qv 3)) (qb q_str)) (qss_one (q_ret (q_tup (qs_cons (qv 3) (qs_cons (q_fldX (ixs := [(8, 0)]) hh C.isx.x (qv 0)) qs_nil))))) qss_nil)
    (qss_cons (q_ifS (qt_in (hu65H hr) (qb (qv 3)) (qb (q_tup (qs_cons q_str (qs_cons q_str qs_nil))))) (qss_one (q_ret (q_tup (qs_cons (qv 3) (qs_cons (q_fldX (ixs := [(9, 0), (10, 0)]) hh C.isx.x (qv 0)) qs_nil))))) qss_nil)
    (qss_cons (q_ifS (qt_in (hu65H hr) (qb (qv 3)) (qb (q_tup (qs_cons q_str (qs_cons q_str (qs_cons q_str qs_nil)))))) (qss_one (q_ret (q_tup (qs_cons (qv 3) qs_nil)))) qss_nil)
    (qss_one (q_ret (q_tup (qs_cons (qv 3) (qs_cons (q_fldX (ixs := [(0, 1), (3, 0), (4, 0), (5, 0), (6, 0), (7, 0)]) hh C.isx.x (qv 0)) qs_nil)))))))))))))))
theorem bo__law_alike {F : FM} {j : Nat} (C : Cn P w K mg base) (hF : Fn P w K mg base (tb K) (0 + j) "_law_alike" 2 F) {cdv : Value} {A : Around} {outer : List Env} {s : Shared} {H : Hp} {E : XK} (hr : Room (0 + j) (A.deeper (envOfC "_law_alike" (defScope (top 38)) s.heap.objs.size (He.ga K "_law_alike") cdv))) :
    QSs (cxOf (L2.CX P w) P w K mg base ["found", "due", "k"] "_law_alike" (defScope (top 38)) (He.ga K "_law_alike") cdv A outer s H E) (tb K) (fun cls d _ H => E cls d H) (defBody (top 38)) (b__law_alike F) :=
  (qss_cons (q_ifS (qt_val (q_isTy2 C.isc (by rfl) C.n_tuple (by rfl) C.n_list (by rfl) C.n_isinstance (qb (qv 1)))) (qss_cons (q_ifS (qw_pt (qw_or (qt_not (qt_val (q_isTy2 C.isc (by rfl) C.n_tuple (by rfl) C.n_list (by rfl) C.n_isinstance (qb (qv 0))))) (qw_or1 (qt_ne (hu64 hr) (qb (q_isTy C.isc (by rfl) C.n_list (by rfl) C.n_isinstance (qb (qv 0)))) (qb (q_isTy C.isc (by rfl) C.n_list (by rfl) C.n_isinstance (qb (qv 1)))))))) (qss_one (q_ret q_bl)) qss_nil)
    (qss_cons (q_ifS (qt_ne (hu64 hr) (qb (q_len (by rfl) C.n_len (qb (qv 0)))) (qb (q_len (by rfl) C.n_len (qb (qv 1))))) (qss_one (q_ret q_bl)) qss_nil)
    (qss_one (q_ret (q_eq (hu64 hr) (qb (qf (q_comp (by rfl) sc__law_alike.nd (q_iRng1 (by rfl) C.n_range (qs_cons (q_len (by rfl) C.n_len (qb (qv 1))) qs_nil)) (blkOk_by (own := [("k", 2)]) (by kernel_rfl)) (fun _ _ _ _ _ => (qg_name (i := 2) sc__law_alike.nd)) (fun _ _ _ _ _ => (qts_one (qt_not (qt_val (q_call hF hr L2.takes0 (Nat.le_refl _) (by rfl) (qs_cons (q_ix (qb (qv 0)) (qb (qv 2))) (qs_cons (q_ix (qb (qv 1)) (qb (qv 2))) qs_nil))))))) (fun _ _ _ _ _ => (qv 2))))) (qb (qf (q_lst qs_nil)))))))) qss_nil)
    (qss_cons (q_ifS (qw_pt (qw_or (qt_is (qb (qv 1)) (qb q_non)) (qw_or1 (qt_val (q_isTy C.isc (by rfl) C.n_str (by rfl) C.n_isinstance (qb (qv 1))))))) (qss_one (q_ret (q_and (q_eq (hu64 hr) (qb (qv 0)) (qb (qv 1))) (q_one (q_eq (hu64 hr) (qb (q_isTy C.isc (by rfl) C.n_str (by rfl) C.n_isinstance (qb (qv 0)))) (qb (q_isTy C.isc (by rfl) C.n_str (by rfl) C.n_isinstance (qb (qv 1))))))))) qss_nil)
    (qss_one (q_ret (q_and (q_isTy C.isc (by rfl) C.n_int (by rfl) C.n_isinstance (qb (qv 0))) (q_and (q_eq (hu64 hr) (qb (q_isTy C.isc (by rfl) C.n_bool (by rfl) C.n_isinstance (qb (qv 0)))) (qb (q_isTy C.isc (by rfl) C.n_bool (by rfl) C.n_isinstance (qb (qv 1))))) (q_one (q_eq (hu64 hr) (qb (qv 0)) (qb (qv 1))))))))))
theorem ok__law_alike (C : Cn P w K mg base) : ∀ n : Nat, Fn P w K mg base (tb K) (0 + n) "_law_alike" 2 (F__law_alike n)
  | 0 => by
    obtain ⟨fd, F⟩ := C.d__law_alike
    exact Fn.mk_ (ps := ["found", "due"]) ⟨fun vs H Q E h => h.1, fun A outer s H args us vs Q E hr he hb hv h => by obtain ⟨_, _, _, _, _, _, _, z⟩ := h; exact z.elim⟩ C.g__law_alike F.kp (F.bindsN (ps := ["found", "due"]) fun _ _ _ _ _ _ us hl => match us, hl with | [_, _], _ => rfl)
  | n + 1 => by
    obtain ⟨fd, F⟩ := C.d__law_alike
    exact Fn.mk_ (fn_ok (N := ["found", "due", "k"]) (ps := ["found", "due"]) F sc__law_alike (by decide) fun cdv A outer s H E hr => bo__law_alike C (ok__law_alike C n) hr) C.g__law_alike F.kp (F.bindsN (ps := ["found", "due"]) fun _ _ _ _ _ _ us hl => match us, hl with | [_, _], _ => rfl)
theorem bo__law_is_name (C : Cn P w K mg base) {cdv : Value} {A : Around} {outer : List Env} {s : Shared} {H : Hp} {E : XK} (hr : Room 0 (A.deeper (envOfC "_law_is_name" (defScope (top 41)) s.heap.objs.size (He.ga K "_law_is_name") cdv))) :
    QSs (cxOf (L2.CX P w) P w K mg base ["word", "sign"] "_law_is_name" (defScope (top 41)) (He.ga K "_law_is_name") cdv A outer s H E) (tb K) (fun cls d _ H => E cls d H) (defBody (top 41)) b__law_is_name := by
  exact (qss_one (q_ret (q_and (q_chain op_le o2_le op_le o2_le (qb q_int) (qb (q_len (by rfl) C.n_len (qb (qv 0)))) (qb q_int)) (q_one (q_eq (hu64 hr) (qb (qf (q_comp (by rfl) sc__law_is_name.nd (q_iSeq (qv 0)) (blkOk_by (own := [("sign", 1)]) (by kernel_rfl)) (fun _ _ _ _ _ => (qg_name (i := 1) sc__law_is_name.nd)) (fun _ _ _ _ _ => (qts_one (qt_notInT (qb (qv 1)) (qb q_str)))) (fun _ _ _ _ _ => (qv 1))))) (qb (qf (q_lst qs_nil))))))))
theorem ok__law_is_name (C : Cn P w K mg base) : Fn P w K mg base (tb K) 1 "_law_is_name" 1 F__law_is_name := by
  obtain ⟨fd, F⟩ := C.d__law_is_name
  exact Fn.mk_ (fn_ok (N := ["word", "sign"]) (ps := ["word"]) F sc__law_is_name (by decide) fun cdv A outer s H E hr => bo__law_is_name C hr) C.g__law_is_name F.kp (F.bindsN (ps := ["word"]) fun _ _ _ _ _ _ us hl => match us, hl with | [_], _ => rfl)
theorem bo__law_number (C : Cn P w K mg base) {cdv : Value} {A : Around} {outer : List Env} {s : Shared} {H : Hp} {E : XK} (hr : Room 0 (A.deeper (envOfC "_law_number" (defScope (top 44)) s.heap.objs.size (He.ga K "_law_number") cdv))) :
    QSs (cxOf (L2.CX P w) P w K mg base ["word", "sign"] "_law_number" (defScope (top 44)) (He.ga K "_law_number") cdv A outer s H E) (tb K) (fun cls d _ H => E cls d H) (defBody (top 44)) b__law_number := by
  exact (qss_one (q_ret (q_and (q_chain op_le o2_le op_le o2_le (qb q_int) (qb (q_len (by rfl) C.n_len (qb (qv 0)))) (qb q_int)) (q_and (q_eq (hu64 hr) (qb (qf (q_comp (by rfl) sc__law_number.nd (q_iSeq (qv 0)) (blkOk_by (own := [("sign", 1)]) (by kernel_rfl)) (fun _ _ _ _ _ => (qg_name (i := 1) sc__law_number.nd)) (fun _ _ _ _ _ => (qts_one (qt_notInT (qb (qv 1)) (qb q_str)))) (fun _ _ _ _ _ => (qv 1))))) (qb (qf (q_lst qs_nil)))) (q_one (q_or (q_ne (hu64 hr) (qb (q_ix (qb (qv 0)) (qb q_int))) (qb q_str)) (q_one (q_eq (hu64 hr) (qb (q_len (by rfl) C.n_len (qb (qv 0)))) (qb q_int)))))))))
theorem ok__law_number (C : Cn P w K mg base) : Fn P w K mg base (tb K) 1 "_law_number" 1 F__law_number := by
  obtain ⟨fd, F⟩ := C.d__law_number
  exact Fn.mk_ (fn_ok (N := ["word", "sign"]) (ps := ["word"]) F sc__law_number (by decide) fun cdv A outer s H E hr => bo__law_number C hr) C.g__law_number F.kp (F.bindsN (ps := ["word"]) fun _ _ _ _ _ _ us hl => match us, hl with | [_], _ => rfl)
theorem bo__law_signed (C : Cn P w K mg base) {cdv : Value} {A : Around} {outer : List Env} {s : Shared} {H : Hp} {E : XK} (hr : Room 1 (A.deeper (envOfC "_law_signed" (defScope (top 45)) s.heap.objs.size (He.ga K "_law_signed") cdv))) :
    QSs (cxOf (L2.CX P w) P w K mg base ["word"] "_law_signed" (defScope (top 45)) (He.ga K "_law_signed") cdv A outer s H E) (tb K) (fun cls d _ H => E cls d H) (defBody (top 45)) b__law_signed := by
  exact (qss_one (q_ret (q_or (q_call (ok__law_number C) hr (takes_of (by rfl) (by rfl) (by rfl) (by rfl)) (by decide) (by rfl) (qs_cons (qv 0) qs_nil)) (q_one (q_and (q_eq (hu64 hr) (qb (q_sliceA (qb (qv 0)) qo_none (qo_some q_int))) (qb q_str)) (q_and (q_call (ok__law_number C) hr (takes_of (by rfl) (by rfl) (by rfl) (by rfl)) (by decide) (by rfl) (qs_cons (q_sliceA (qb (qv 0)) (qo_some q_int) qo_none) qs_nil)) (q_one (q_ne (hu64 hr) (qb (qv 0)) (qb q_str)))))))))
theorem ok__law_signed (C : Cn P w K mg base) : Fn P w K mg base (tb K) 2 "_law_signed" 1 F__law_signed := by
  obtain ⟨fd, F⟩ := C.d__law_signed
  exact Fn.mk_ (fn_ok (N := ["word"]) (ps := ["word"]) F sc__law_signed (by decide) fun cdv A outer s H E hr => bo__law_signed C hr) C.g__law_signed F.kp (F.bindsN (ps := ["word"]) fun _ _ _ _ _ _ us hl => match us, hl with | [_], _ => rfl)
theorem bo__law_is_change (C : Cn P w K mg base) {cdv : Value} {A : Around} {outer : List Env} {s : Shared} {H : Hp} {E : XK} (hr : Room 2 (A.deeper (envOfC "_law_is_change" (defScope (top 46)) s.heap.objs.size (He.ga K "_law_is_change") cdv))) :
    QSs (cxOf (L2.CX P w) P w K mg base ["text", "words", "forms", "more", "form", "k", "word"] "_law_is_change" (defScope (top 46)) (He.ga K "_law_is_change") cdv A outer s H E) (tb K) (fun cls d _ H => E cls d H) (defBody (top 46)) b__law_is_change := by
  exact (qss_cons (q_set (i := 1) sc__law_is_change.nd (by rfl) (by first | exact Or.inl rfl | exact Or.inr rfl) (qf (q_split (qb (qv 0)) (qb q_str))))
    (qss_cons (q_set (i := 2) sc__law_is_change.nd (by rfl) (by first | exact Or.inl rfl | exact Or.inr rfl) (q_disp (cp_cons (kk := .inr "lamp") pe_str pe_str (fun _ _ => .str _) (cp_cons (kk := .inr "knot") pe_str pe_str (fun _ _ => .str _) (cp_cons (kk := .inr "flat") pe_str pe_str (fun _ _ => .str _) (cp_cons (kk := .inr "levels") pe_str pe_str (fun _ _ => .str _) (cp_cons (kk := .inr "ink") pe_str pe_str (fun _ _ => .str _) (cp_cons (kk := .inr "target") pe_str pe_str (fun _ _ => .str _) (cp_cons (kk := .inr "entry") pe_str pe_str (fun _ _ => .str _) cp_nil)))))))))
    (qss_cons (q_set (i := 3) sc__law_is_change.nd (by rfl) (by first | exact Or.inl rfl | exact Or.inr rfl) (q_disp (cp_cons (kk := .inr "add") pe_str pe_str (fun _ _ => .str _) (cp_cons (kk := .inr "swap") pe_str pe_str (fun _ _ => .str _) (cp_cons (kk := .inr "clip") pe_str pe_str (fun _ _ => .str _) (cp_cons (kk := .inr "drop") pe_str pe_str (fun _ _ => .str _) (cp_cons (kk := .inr "curves") pe_str pe_str (fun _ _ => .str _) (cp_cons (kk := .inr "push") pe_str pe_str (fun _ _ => .str _) cp_nil))))))))
    (qss_cons (q_set (i := 4) sc__law_is_change.nd (by rfl) (by first | exact Or.inl rfl | exact Or.inr rfl) (q_if (qt_dIn (hu65 hr) (qb (q_ix (qb (qv 1)) (qb q_int))) (qb (qv 2))) (q_dGet (hu65 hr) (qb (qv 2)) (qb (q_ix (qb (qv 1)) (qb q_int)))) (q_if (qt_dIn (hu65 hr) (qb (q_ix (qb (qv 1)) (qb q_int))) (qb (qv 3))) (q_dGet (hu65 hr) (qb (qv 3)) (qb (q_ix (qb (qv 1)) (qb q_int)))) q_non)))
    (qss_cons (q_ifS (qw_pt (qw_or (qt_not (qt_chain op_le o2_le op_le o2_le (qb q_int) (qb (q_len (by rfl) C.n_len (qb (qv 0)))) (qb q_int))) (qw_or (qt_is (qb (qv 4)) (qb q_non)) (qw_or1 (qt_ne (hu64 hr) (qb (q_len (by rfl) C.n_len (qb (qv 1)))) (qb (q_addA (qb (q_len (by rfl) C.n_len (qb (qv 4)))) (qb q_int)))))))) (qss_one (q_ret q_bl)) qss_nil)
    (qss_cons (q_for (passes_of (by rfl)) (by rfl) (q_iRng1 (by rfl) C.n_range (qs_cons (q_len (by rfl) C.n_len (qb (qv 4))) qs_nil)) (qg_name (i := 5) sc__law_is_change.nd) (qss_cons (q_set (i := 6) sc__law_is_change.nd (by rfl) (by first | exact Or.inl rfl | exact Or.inr rfl) (q_ix (qb (qv 1)) (qb (q_addA (qb (qv 5)) (qb q_int)))))
    (qss_one (q_ifS (qt_not (qt_if (qt_eq (hu64 hr) (qb (q_ix (qb (qv 4)) (qb (qv 5)))) (qb q_str)) (qt_val (q_call (ok__law_is_name C) hr (takes_of (by rfl) (by rfl) (by rfl) (by rfl)) (by decide) (by rfl) (qs_cons (qv 6) qs_nil))) (qt_if (qt_eq (hu64 hr) (qb (q_ix (qb (qv 4)) (qb (qv 5)))) (qb q_str)) (qt_val (q_call (ok__law_number C) hr (takes_of (by rfl) (by rfl) (by rfl) (by rfl)) (by decide) (by rfl) (qs_cons (qv 6) qs_nil))) (qt_val (q_call (ok__law_signed C) hr (takes_of (by rfl) (by rfl) (by rfl) (by rfl)) (by decide) (by rfl) (qs_cons (qv 6) qs_nil)))))) (qss_one (q_ret q_bl)) qss_nil))))
    (qss_one (q_ret q_bl))))))))
theorem ok__law_is_change (C : Cn P w K mg base) : Fn P w K mg base (tb K) 3 "_law_is_change" 1 F__law_is_change := by
  obtain ⟨fd, F⟩ := C.d__law_is_change
  exact Fn.mk_ (fn_ok (N := ["text", "words", "forms", "more", "form", "k", "word"]) (ps := ["text"]) F sc__law_is_change (by decide) fun cdv A outer s H E hr => bo__law_is_change C hr) C.g__law_is_change F.kp (F.bindsN (ps := ["text"]) fun _ _ _ _ _ _ us hl => match us, hl with | [_], _ => rfl)
theorem bo__law_taken (C : Cn P w K mg base) {cdv : Value} {A : Around} {outer : List Env} {s : Shared} {H : Hp} {E : XK} (hr : Room 0 (A.deeper (envOfC "_law_taken" (defScope (top 36)) s.heap.objs.size (He.ga K "_law_taken") cdv))) :
    QSs (cxOf (L2.CX P w) P w K mg base ["row", "many", "found", "cell"] "_law_taken" (defScope (top 36)) (He.ga K "_law_taken") cdv A outer s H E) (tb K) (fun cls d _ H => E cls d H) (defBody (top 36)) b__law_taken := by
  exact (qss_cons (q_ifS (qt_gt (qb (q_ix (qb (qv 0)) (qb q_int))) (qb q_int)) (qss_cons (q_set (i := 2) sc__law_taken.nd (by rfl) (by first | exact Or.inl rfl | exact Or.inr rfl) (q_mod (qb (q_intOf (by rfl) C.n_int (qb (q_ix (qb (qv 0)) (qb q_int))))) (qb (qv 1))))
    (qss_cons (q_setIx (i := 0) (q_div (qb (q_ix (qb (qv 0)) (qb q_int))) (qb (qv 1))) q_int)
    (qss_one (q_ret (qv 2))))) qss_nil)
    (qss_cons (q_setIx (i := 0) (q_addA (qb (q_ix (qb (qv 0)) (qb q_int))) (qb q_int)) q_int)
    (qss_cons (q_ifS (qt_gt (qb (q_ix (qb (qv 0)) (qb q_int))) (qb (q_len (by rfl) C.n_len (qb (q_ix (qb (qv 0)) (qb q_int)))))) (qss_cons (q_setIx (i := 0) (q_mod (qb (q_intOf (by rfl) C.n_int (qb (q_addA (qb (q_mul (qb (q_ix (qb (qv 0)) (qb q_int))) (qb q_int))) (qb q_int))))) (qb q_int)) q_int)
    (qss_one (q_ret (q_mod (qb (q_intOf (by rfl) C.n_int (qb (q_div (qb (q_ix (qb (qv 0)) (qb q_int))) (qb q_int))))) (qb (qv 1)))))) qss_nil)
    (qss_cons (q_set (i := 3) sc__law_taken.nd (by rfl) (by first | exact Or.inl rfl | exact Or.inr rfl) (q_ix (qb (q_ix (qb (qv 0)) (qb q_int))) (qb (q_sub (qb (q_ix (qb (qv 0)) (qb q_int))) (qb q_int)))))
    (qss_cons (q_setIx (i := 0) (q_mod (qb (q_intOf (by rfl) C.n_int (qb (q_addA (qb (q_addA (qb (q_mul (qb (q_ix (qb (qv 0)) (qb q_int))) (qb q_int))) (qb (qv 3)))) (qb q_int))))) (qb q_int)) q_int)
    (qss_cons (q_ifS (qt_ge (qb (qv 3)) (qb (q_pow (qb q_int) (qb q_int)))) (qss_cons (q_setIx (i := 0) (q_div (qb (qv 3)) (qb (qv 1))) q_int)
    (qss_one (q_ret (q_mod (qb (q_intOf (by rfl) C.n_int (qb (qv 3)))) (qb (qv 1)))))) qss_nil)
    (qss_one (q_ret (q_mod (qb (q_intOf (by rfl) C.n_int (qb (q_addA (qb (q_mul (qb (q_mod (qb (q_intOf (by rfl) C.n_int (qb (qv 3)))) (qb q_int))) (qb q_int))) (qb (q_div (qb (q_ix (qb (qv 0)) (qb q_int))) (qb q_int))))))) (qb (qv 1)))))))))))
theorem ok__law_taken (C : Cn P w K mg base) : Fn P w K mg base (tb K) 1 "_law_taken" 2 F__law_taken := by
  obtain ⟨fd, F⟩ := C.d__law_taken
  exact Fn.mk_ (fn_ok (N := ["row", "many", "found", "cell"]) (ps := ["row", "many"]) F sc__law_taken (by decide) fun cdv A outer s H E hr => bo__law_taken C hr) C.g__law_taken F.kp (F.bindsN (ps := ["row", "many"]) fun _ _ _ _ _ _ us hl => match us, hl with | [_, _], _ => rfl)
theorem bo__law_pick (C : Cn P w K mg base) {cdv : Value} {A : Around} {outer : List Env} {s : Shared} {H : Hp} {E : XK} (hr : Room 1 (A.deeper (envOfC "_law_pick" (defScope (top 37)) s.heap.objs.size (He.ga K "_law_pick") cdv))) :
    QSs (cxOf (L2.CX P w) P w K mg base ["row", "things"] "_law_pick" (defScope (top 37)) (He.ga K "_law_pick") cdv A outer s H E) (tb K) (fun cls d _ H => E cls d H) (defBody (top 37)) b__law_pick := by
  exact (qss_one (q_ret (q_ix (qb (qv 1)) (qb (q_call (ok__law_taken C) hr (takes_of (by rfl) (by rfl) (by rfl) (by rfl)) (by decide) (by rfl) (qs_cons (qv 0) (qs_cons (q_len (by rfl) C.n_len (qb (qv 1))) qs_nil)))))))
theorem ok__law_pick (C : Cn P w K mg base) : Fn P w K mg base (tb K) 2 "_law_pick" 2 F__law_pick := by
  obtain ⟨fd, F⟩ := C.d__law_pick
  exact Fn.mk_ (fn_ok (N := ["row", "things"]) (ps := ["row", "things"]) F sc__law_pick (by decide) fun cdv A outer s H E hr => bo__law_pick C hr) C.g__law_pick F.kp (F.bindsN (ps := ["row", "things"]) fun _ _ _ _ _ _ us hl => match us, hl with | [_, _], _ => rfl)
theorem bo__law_odd (C : Cn P w K mg base) {cdv : Value} {A : Around} {outer : List Env} {s : Shared} {H : Hp} {E : XK} (hr : Room 2 (A.deeper (envOfC "_law_odd" (defScope (top 40)) s.heap.objs.size (He.ga K "_law_odd") cdv))) :
    QSs (cxOf (L2.CX P w) P w K mg base ["row", "odd"] "_law_odd" (defScope (top 40)) (He.ga K "_law_odd") cdv A outer s H E) (tb K) (fun cls d _ H => E cls d H) (defBody (top 40)) b__law_odd := by
  exact (qss_cons (q_set (i := 1) sc__law_odd.nd (by rfl) (by first | exact Or.inl rfl | exact Or.inr rfl) (qf (q_lst (qs_cons q_non (qs_cons q_bl (qs_cons q_bl (qs_cons (q_neg (qb q_int)) (qs_cons (q_pow (qb q_int) (qb q_int)) (qs_cons q_str (qs_cons q_str (qs_cons q_str (qs_cons q_str (qs_cons (qf (q_lst qs_nil)) (qs_cons (qf (q_lst (qs_cons q_int qs_nil))) (qs_cons q_disp0 (qs_cons (q_disp (cp_cons (kk := .inr "a") pe_str pe_int (fun _ _ => .int _) cp_nil)) (qs_cons q_str (qs_cons q_int (qs_cons q_str qs_nil)))))))))))))))))))
    (qss_one (q_ret (q_call (ok__law_pick C) hr (takes_of (by rfl) (by rfl) (by rfl) (by rfl)) (by decide) (by rfl) (qs_cons (qv 0) (qs_cons (qv 1) qs_nil))))))
theorem ok__law_odd (C : Cn P w K mg base) : Fn P w K mg base (tb K) 3 "_law_odd" 1 F__law_odd := by
  obtain ⟨fd, F⟩ := C.d__law_odd
  exact Fn.mk_ (fn_ok (N := ["row", "odd"]) (ps := ["row"]) F sc__law_odd (by decide) fun cdv A outer s H E hr => bo__law_odd C hr) C.g__law_odd F.kp (F.bindsN (ps := ["row"]) fun _ _ _ _ _ _ us hl => match us, hl with | [_], _ => rfl)
theorem bo__law_same (C : Cn P w K mg base) {cdv : Value} {A : Around} {outer : List Env} {s : Shared} {H : Hp} {E : XK} (hA : A.guards = some []) (hr : Room 0 (A.deeper (envOfC "_law_same" (defScope (top 39)) s.heap.objs.size (He.ga K "_law_same") cdv))) :
    QSs (cxOf (L2.CX P w) P w K mg base ["found", "due"] "_law_same" (defScope (top 39)) (He.ga K "_law_same") cdv A outer s H E) (tb K) (fun cls d _ H => E cls d H) (defBody (top 39)) b__law_same := by
  have hgu : (cxOf (L2.CX P w) P w K mg base ["found", "due"] "_law_same" (defScope (top 39)) (He.ga K "_law_same") cdv A outer s H E).A.guards = some [] := (deeper_guards _).trans hA
  exact (qss_one (q_ret (q_eq (hu64 hr) (qb (q_repr hgu (hu64 hr) (by rfl) C.n_repr (qb (qv 0)))) (qb (q_repr hgu (hu64 hr) (by rfl) C.n_repr (qb (qv 1)))))))
theorem ok__law_same (C : Cn P w K mg base) : FnG P w K mg base (tb K) 1 "_law_same" 2 F__law_same := by
  obtain ⟨fd, F⟩ := C.d__law_same
  exact fnG_ok (N := ["found", "due"]) (ps := ["found", "due"]) F sc__law_same (by decide) C.g__law_same (F.bindsN (ps := ["found", "due"]) fun _ _ _ _ _ _ us hl => match us, hl with | [_, _], _ => rfl) fun cdv A outer s H E hc hg hr => bo__law_same C hg hr
theorem bo_is_name (C : Cn P w K mg base) {cdv : Value} {A : Around} {outer : List Env} {s : Shared} {H : Hp} {E : XK} (hr : Room 0 (A.deeper (envOfC "is_name" (defScope (top 19)) s.heap.objs.size (He.ga K "is_name") cdv))) :
    QSs (cxOf (L2.CX P w) P w K mg base ["value", "sign"] "is_name" (defScope (top 19)) (He.ga K "is_name") cdv A outer s H E) (tb K) (fun cls d _ H => E cls d H) (defBody (top 19)) b_is_name := by
  exact (qss_cons (q_ifS (qw_pt (qw_or (qt_not (qt_val (q_isTy C.isc (by rfl) C.n_str (by rfl) C.n_isinstance (qb (qv 0))))) (qw_or1 (qt_not (qt_chain op_le o2_le op_le o2_le (qb q_int) (qb (q_len (by rfl) C.n_len (qb (qv 0)))) (qb (q_gintE C.i_LONGEST))))))) (qss_one (q_ret q_bl)) qss_nil)
    (qss_one (q_ret (q_all (by rfl) (by rfl) C.n_all (qb (qf (q_comp (by rfl) sc_is_name.nd (q_iSeq (qv 0)) (blkOk_by (own := [("sign", 1)]) (by kernel_rfl)) (fun _ _ _ _ _ => (qg_name (i := 1) sc_is_name.nd)) (fun _ _ _ _ _ => qts_nil) (fun _ _ _ _ _ => (q_inT (qb (qv 1)) (qb (q_gstrE C.s_LETTERS)))))))))))
theorem ok_is_name (C : Cn P w K mg base) : Fn P w K mg base (tb K) 1 "is_name" 1 F_is_name := by
  obtain ⟨fd, F⟩ := C.d_is_name
  exact Fn.mk_ (fn_ok (N := ["value", "sign"]) (ps := ["value"]) F sc_is_name (by decide) fun cdv A outer s H E hr => bo_is_name C hr) C.g_is_name F.kp (F.bindsN (ps := ["value"]) fun _ _ _ _ _ _ us hl => match us, hl with | [_], _ => rfl)
theorem bo_is_number_word (C : Cn P w K mg base) {cdv : Value} {A : Around} {outer : List Env} {s : Shared} {H : Hp} {E : XK} (hr : Room 0 (A.deeper (envOfC "is_number_word" (defScope (top 29)) s.heap.objs.size (He.ga K "is_number_word") cdv))) :
    QSs (cxOf (L2.CX P w) P w K mg base ["word", "sign"] "is_number_word" (defScope (top 29)) (He.ga K "is_number_word") cdv A outer s H E) (tb K) (fun cls d _ H => E cls d H) (defBody (top 29)) b_is_number_word := by
  exact (qss_cons (q_ifS (qw_pt (qw_or (qt_not (qt_chain op_le o2_le op_le o2_le (qb q_int) (qb (q_len (by rfl) C.n_len (qb (qv 0)))) (qb (q_gintE C.i_MOST_DIGITS)))) (qw_or1 (qt_not (qt_val (q_all (by rfl) (by rfl) C.n_all (qb (qf (q_comp (by rfl) sc_is_number_word.nd (q_iSeq (qv 0)) (blkOk_by (own := [("sign", 1)]) (by kernel_rfl)) (fun _ _ _ _ _ => (qg_name (i := 1) sc_is_number_word.nd)) (fun _ _ _ _ _ => qts_nil) (fun _ _ _ _ _ => (q_inT (qb (qv 1)) (qb (q_gstrE C.s_DIGITS))))))))))))) (qss_one (q_ret q_bl)) qss_nil)
    (qss_one (q_ret (q_or (q_eq (hu64 hr) (qb (q_len (by rfl) C.n_len (qb (qv 0)))) (qb q_int)) (q_one (q_ne (hu64 hr) (qb (q_ix (qb (qv 0)) (qb q_int))) (qb q_str)))))))
theorem ok_is_number_word (C : Cn P w K mg base) : Fn P w K mg base (tb K) 1 "is_number_word" 1 F_is_number_word := by
  obtain ⟨fd, F⟩ := C.d_is_number_word
  exact Fn.mk_ (fn_ok (N := ["word", "sign"]) (ps := ["word"]) F sc_is_number_word (by decide) fun cdv A outer s H E hr => bo_is_number_word C hr) C.g_is_number_word F.kp (F.bindsN (ps := ["word"]) fun _ _ _ _ _ _ us hl => match us, hl with | [_], _ => rfl)
theorem bo_is_signed_word (C : Cn P w K mg base) {cdv : Value} {A : Around} {outer : List Env} {s : Shared} {H : Hp} {E : XK} (hr : Room 1 (A.deeper (envOfC "is_signed_word" (defScope (top 30)) s.heap.objs.size (He.ga K "is_signed_word") cdv))) :
    QSs (cxOf (L2.CX P w) P w K mg base ["word"] "is_signed_word" (defScope (top 30)) (He.ga K "is_signed_word") cdv A outer s H E) (tb K) (fun cls d _ H => E cls d H) (defBody (top 30)) b_is_signed_word := by
  exact (qss_cons (q_ifS (qt_eq (hu64 hr) (qb (q_sliceA (qb (qv 0)) qo_none (qo_some q_int))) (qb q_str)) (qss_one (q_ret (q_and (q_call (ok_is_number_word C) hr (takes_of (by rfl) (by rfl) (by rfl) (by rfl)) (by decide) (by rfl) (qs_cons (q_sliceA (qb (qv 0)) (qo_some q_int) qo_none) qs_nil)) (q_one (q_ne (hu64 hr) (qb (qv 0)) (qb q_str)))))) qss_nil)
    (qss_one (q_ret (q_call (ok_is_number_word C) hr (takes_of (by rfl) (by rfl) (by rfl) (by rfl)) (by decide) (by rfl) (qs_cons (qv 0) qs_nil)))))
theorem ok_is_signed_word (C : Cn P w K mg base) : Fn P w K mg base (tb K) 2 "is_signed_word" 1 F_is_signed_word := by
  obtain ⟨fd, F⟩ := C.d_is_signed_word
  exact Fn.mk_ (fn_ok (N := ["word"]) (ps := ["word"]) F sc_is_signed_word (by decide) fun cdv A outer s H E hr => bo_is_signed_word C hr) C.g_is_signed_word F.kp (F.bindsN (ps := ["word"]) fun _ _ _ _ _ _ us hl => match us, hl with | [_], _ => rfl)
theorem bo_is_word_of (C : Cn P w K mg base) {cdv : Value} {A : Around} {outer : List Env} {s : Shared} {H : Hp} {E : XK} (hr : Room 2 (A.deeper (envOfC "is_word_of" (defScope (top 31)) s.heap.objs.size (He.ga K "is_word_of") cdv))) :
    QSs (cxOf (L2.CX P w) P w K mg base ["word", "kind"] "is_word_of" (defScope (top 31)) (He.ga K "is_word_of") cdv A outer s H E) (tb K) (fun cls d _ H => E cls d H) (defBody (top 31)) b_is_word_of := by
  exact (qss_cons (q_ifS (qt_eq (hu64 hr) (qb (qv 1)) (qb (q_gstrE C.s_NAME))) (qss_one (q_ret (q_call (ok_is_name C) hr (takes_of (by rfl) (by rfl) (by rfl) (by rfl)) (by decide) (by rfl) (qs_cons (qv 0) qs_nil)))) qss_nil)
    (qss_one (q_ret (q_if (qt_eq (hu64 hr) (qb (qv 1)) (qb (q_gstrE C.s_NUMBER))) (q_call (ok_is_number_word C) hr (takes_of (by rfl) (by rfl) (by rfl) (by rfl)) (by decide) (by rfl) (qs_cons (qv 0) qs_nil)) (q_call (ok_is_signed_word C) hr (takes_of (by rfl) (by rfl) (by rfl) (by rfl)) (by decide) (by rfl) (qs_cons (qv 0) qs_nil))))))
theorem ok_is_word_of (C : Cn P w K mg base) : Fn P w K mg base (tb K) 3 "is_word_of" 2 F_is_word_of := by
  obtain ⟨fd, F⟩ := C.d_is_word_of
  exact Fn.mk_ (fn_ok (N := ["word", "kind"]) (ps := ["word", "kind"]) F sc_is_word_of (by decide) fun cdv A outer s H E hr => bo_is_word_of C hr) C.g_is_word_of F.kp (F.bindsN (ps := ["word", "kind"]) fun _ _ _ _ _ _ us hl => match us, hl with | [_, _], _ => rfl)
theorem bo_is_change (C : Cn P w K mg base) {cdv : Value} {A : Around} {outer : List Env} {s : Shared} {H : Hp} {E : XK} (hr : Room 3 (A.deeper (envOfC "is_change" (defScope (top 32)) s.heap.objs.size (He.ga K "is_change") cdv))) :
    QSs (cxOf (L2.CX P w) P w K mg base ["value", "words", "form", "word", "kind"] "is_change" (defScope (top 32)) (He.ga K "is_change") cdv A outer s H E) (tb K) (fun cls d _ H => E cls d H) (defBody (top 32)) b_is_change := by
  exact (qss_cons (q_ifS (qw_pt (qw_or (qt_not (qt_val (q_isTy C.isc (by rfl) C.n_str (by rfl) C.n_isinstance (qb (qv 0))))) (qw_or1 (qt_not (qt_chain op_le o2_le op_le o2_le (qb q_int) (qb (q_len (by rfl) C.n_len (qb (qv 0)))) (qb (q_gintE C.i_MOST_SIGNS))))))) (qss_one (q_ret q_bl)) qss_nil)
    (qss_cons (q_set (i := 1) sc_is_change.nd (by rfl) (by first | exact Or.inl rfl | exact Or.inr rfl) (qf (q_split (qb (qv 0)) (qb (q_gstrE C.s_BLANK)))))
    (qss_cons (q_ifS (qt_notInK C.d_FORMS_ (qb (q_ix (qb (qv 1)) (qb q_int)))) (qss_one (q_ret q_bl)) qss_nil)
    (qss_cons (q_set (i := 2) sc_is_change.nd (by rfl) (by first | exact Or.inl rfl | exact Or.inr rfl) (q_getK C.d_FORMS_ (qb (q_ix (qb (qv 1)) (qb q_int)))))
    (qss_one (q_ret (q_and (q_eq (hu64 hr) (qb (q_len (by rfl) C.n_len (qb (qv 1)))) (qb (q_addA (qb (q_len (by rfl) C.n_len (qb (qv 2)))) (qb q_int)))) (q_one (q_all (by rfl) (by rfl) C.n_all (qb (qf (q_comp (by rfl) sc_is_change.nd (q_iZip (by rfl) C.n_zip (qs_cons (q_sliceA (qb (qv 1)) (qo_some q_int) qo_none) (qs_cons (qv 2) qs_nil))) (blkOk_by (own := [("word", 3), ("kind", 4)]) (by kernel_rfl)) (fun _ _ _ _ _ => (qg_tup (by rfl) (qgs_cons (qg_name (i := 3) sc_is_change.nd) (qgs_cons (qg_name (i := 4) sc_is_change.nd) qgs_nil)))) (fun _ _ _ _ _ => qts_nil) (fun _ _ _ _ _ => (q_call (ok_is_word_of C) hr L2.takes0 (by decide) (by rfl) (qs_cons (qv 3) (qs_cons (qv 4) qs_nil))))))))))))))))
theorem ok_is_change (C : Cn P w K mg base) : Fn P w K mg base (tb K) 4 "is_change" 1 F_is_change := by
  obtain ⟨fd, F⟩ := C.d_is_change
  exact Fn.mk_ (fn_ok (N := ["value", "words", "form", "word", "kind"]) (ps := ["value"]) F sc_is_change (by decide) fun cdv A outer s H E hr => bo_is_change C hr) C.g_is_change F.kp (F.bindsN (ps := ["value"]) fun _ _ _ _ _ _ us hl => match us, hl with | [_], _ => rfl)
theorem bo_told_in (C : Cn P w K mg base) {cdv : Value} {A : Around} {outer : List Env} {s : Shared} {H : Hp} {E : XK} (hr : Room 0 (A.deeper (envOfC "told_in" (defScope (top 33)) s.heap.objs.size (He.ga K "told_in") cdv))) :
    QSs (cxOf (L2.CX P w) P w K mg base ["change", "words", "form", "word", "kind"] "told_in" (defScope (top 33)) (He.ga K "told_in") cdv A outer s H E) (tb K) (fun cls d _ H => E cls d H) (defBody (top 33)) b_told_in := by
  exact (qss_cons (q_set (i := 1) sc_told_in.nd (by rfl) (by first | exact Or.inl rfl | exact Or.inr rfl) (qf (q_split (qb (qv 0)) (qb (q_gstrE C.s_BLANK)))))
    (qss_cons (q_set (i := 2) sc_told_in.nd (by rfl) (by first | exact Or.inl rfl | exact Or.inr rfl) (q_getK C.d_FORMS_ (qb (q_ix (qb (qv 1)) (qb q_int)))))
    (qss_one (q_ret (q_tup (qs_cons (q_ix (qb (qv 1)) (qb q_int)) (qs_cons (q_tupleOf (by rfl) C.n_tuple (qb (qf (q_comp (by rfl) sc_told_in.nd (q_iZip (by rfl) C.n_zip (qs_cons (q_sliceA (qb (qv 1)) (qo_some q_int) qo_none) (qs_cons (qv 2) qs_nil))) (blkOk_by (own := [("word", 3), ("kind", 4)]) (by kernel_rfl)) (fun _ _ _ _ _ => (qg_tup (by rfl) (qgs_cons (qg_name (i := 3) sc_told_in.nd) (qgs_cons (qg_name (i := 4) sc_told_in.nd) qgs_nil)))) (fun _ _ _ _ _ => qts_nil) (fun _ _ _ _ _ => (q_if (qt_eq (hu64 hr) (qb (qv 4)) (qb (q_gstrE C.s_NAME))) (qv 3) (q_intT (by rfl) C.n_int (qb (qv 3))))))))) qs_nil)))))))
theorem ok_told_in (C : Cn P w K mg base) : Fn P w K mg base (tb K) 1 "told_in" 1 F_told_in := by
  obtain ⟨fd, F⟩ := C.d_told_in
  exact Fn.mk_ (fn_ok (N := ["change", "words", "form", "word", "kind"]) (ps := ["change"]) F sc_told_in (by decide) fun cdv A outer s H E hr => bo_told_in C hr) C.g_told_in F.kp (F.bindsN (ps := ["change"]) fun _ _ _ _ _ _ us hl => match us, hl with | [_], _ => rfl)
theorem bo_change_line (C : Cn P w K mg base) {cdv : Value} {A : Around} {outer : List Env} {s : Shared} {H : Hp} {E : XK} (hr : Room 4 (A.deeper (envOfC "change_line" (defScope (top 34)) s.heap.objs.size (He.ga K "change_line") cdv))) :
    QSs (cxOf (L2.CX P w) P w K mg base ["head", "told", "line", "one"] "change_line" (defScope (top 34)) (He.ga K "change_line") cdv A outer s H E) (tb K) (fun cls d _ H => E cls d H) (defBody (top 34)) b_change_line := by
  exact (qss_cons (q_ifS (qw_pt (qw_or (qt_not (qt_val (q_isTy C.isc (by rfl) C.n_str (by rfl) C.n_isinstance (qb (qv 0))))) (qw_or1 (qt_not (qt_val (q_isTy C.isc (by rfl) C.n_tuple (by rfl) C.n_isinstance (qb (qv 1)))))))) (qss_one (q_raise C.x_BadChange (by rfl) hr (takes_of (by rfl) (by rfl) (by rfl) (by rfl)) (qs_cons q_non qs_nil))) qss_nil)
    (qss_cons (q_set (i := 2) sc_change_line.nd (by rfl) (by first | exact Or.inl rfl | exact Or.inr rfl) (q_join (qb (q_gstrE C.s_BLANK)) (qb (q_addA (qb (qf (q_lst (qs_cons (qv 0) qs_nil)))) (qb (qf (q_comp (by rfl) sc_change_line.nd (q_iSeq (qv 1)) (blkOk_by (own := [("one", 3)]) (by kernel_rfl)) (fun _ _ _ _ _ => (qg_name (i := 3) sc_change_line.nd)) (fun _ _ _ _ _ => qts_nil) (fun _ _ _ _ _ => (q_strOf (by rfl) C.n_str (qb (qv 3)))))))))))
    (qss_cons (q_ifS (qw_pt (qw_or (qt_not (qt_val (q_call (ok_is_change C) hr (takes_of (by rfl) (by rfl) (by rfl) (by rfl)) (by decide) (by rfl) (qs_cons (qv 2) qs_nil)))) (qw_or1 (qt_ne (hu64 hr) (qb (q_call (ok_told_in C) hr (takes_of (by rfl) (by rfl) (by rfl) (by rfl)) (by decide) (by rfl) (qs_cons (qv 2) qs_nil))) (qb (q_tup (qs_cons (qv 0) (qs_cons (qv 1) qs_nil)))))))) (qss_one (q_raise C.x_BadChange (by rfl) hr (takes_of (by rfl) (by rfl) (by rfl) (by rfl)) (qs_cons q_non qs_nil))) qss_nil)
    (qss_one (q_ret (qv 2))))))
theorem ok_change_line (C : Cn P w K mg base) : Fn P w K mg base (tb K) 5 "change_line" 2 F_change_line := by
  obtain ⟨fd, F⟩ := C.d_change_line
  exact Fn.mk_ (fn_ok (N := ["head", "told", "line", "one"]) (ps := ["head", "told"]) F sc_change_line (by decide) fun cdv A outer s H E hr => bo_change_line C hr) C.g_change_line F.kp (F.bindsN (ps := ["head", "told"]) fun _ _ _ _ _ _ us hl => match us, hl with | [_, _], _ => rfl)
theorem refuse_ok (c : Nat) (ds : List D) (s : S) (hc : c ∈ es) (hl : ds.length = ((tb K).fl c).length) : F__law_refusal [.exc c ds] s = .ok (.tup (.str (nm c) :: ds)) s := by
  have hc : c = 0 ∨ c = 1 ∨ c = 2 ∨ c = 3 ∨ c = 4 ∨ c = 5 ∨ c = 6 ∨ c = 7 ∨ c = 8 ∨ c = 9 ∨ c = 10 ∨ c = 11 ∨ c = 12 ∨ c = 13 := by simpa [es] using hc
  rcases hc with rfl | rfl | rfl | rfl | rfl | rfl | rfl | rfl | rfl | rfl | rfl | rfl | rfl | rfl
  · exact match ds, hl with | [_, _], _ => by kernel_rfl
  · exact match ds, hl with | [_], _ => by kernel_rfl
  · exact match ds, hl with | [_], _ => by kernel_rfl
  · exact match ds, hl with | [_], _ => by kernel_rfl
  · exact match ds, hl with | [_], _ => by kernel_rfl
  · exact match ds, hl with | [_], _ => by kernel_rfl
  · exact match ds, hl with | [_], _ => by kernel_rfl
  · exact match ds, hl with | [_], _ => by kernel_rfl
  · exact match ds, hl with | [_], _ => by kernel_rfl
  · exact match ds, hl with | [_], _ => by kernel_rfl
  · exact match ds, hl with | [_], _ => by kernel_rfl
  · exact match ds, hl with | [], _ => by kernel_rfl
  · exact match ds, hl with | [], _ => by kernel_rfl
  · exact match ds, hl with | [], _ => by kernel_rfl
theorem tell (C : Cn P w K mg base) : Tell P w K mg base (tb K) es nm 0 "_law_told" "call" "TintError" "_law_refusal" where
  ex := by
    obtain ⟨fd, F⟩ := C.d__law_told
    exact ⟨_, _, _, _, fd, _, _, _, _, _, _, _, _, _, _, _, _, _, _, C.g__law_told, F, sc__law_told, F.bindsN fun _ _ _ _ _ _ us hl => match us, hl with | [_], _ => rfl, rfl, rfl, rfl, rfl⟩
  hot := by
    obtain ⟨fd, F⟩ := C.d__law_refusal
    exact ⟨F__law_refusal, ⟨⟨_, _, "e", _, _, _, fd, ["e", "kinds", "marks", "name"], b__law_refusal, C.g__law_refusal, F, sc__law_refusal, by decide, F.bindsN fun _ _ _ _ _ _ us hl => match us, hl with | [_], _ => rfl, rfl, fun cdv A outer s H a c d oe vs hc hz hd hr => bo__law_refusal C hc hz hd hr⟩⟩, refuse_ok⟩
  bs := ⟨_, C.gx_TintError, fun c hc => by
    have hc : c = 0 ∨ c = 1 ∨ c = 2 ∨ c = 3 ∨ c = 4 ∨ c = 5 ∨ c = 6 ∨ c = 7 ∨ c = 8 ∨ c = 9 ∨ c = 10 ∨ c = 11 ∨ c = 12 ∨ c = 13 := by simpa [es] using hc
    rcases hc with rfl | rfl | rfl | rfl | rfl | rfl | rfl | rfl | rfl | rfl | rfl | rfl | rfl | rfl
    · exact C.xm_BadPart
    · exact C.xm_BadNumber
    · exact C.xm_Unknown
    · exact C.xm_BadPoint
    · exact C.xm_BadBytes
    · exact C.xm_BadGroup
    · exact C.xm_BadPicture
    · exact C.xm_BadChange
    · exact C.xm_TooMany
    · exact C.xm_BadText
    · exact C.xm_BadLine
    · exact C.xm_NotTurned
    · exact C.xm_BadClaim
    · exact C.xm_NothingDone⟩
  dt := by decide
  ct := by decide
  de := by decide
  dr := by decide
theorem bo_law (C : Cn P w K mg base) {cdv : Value} {A : Around} {outer : List Env} {s : Shared} {H : Hp} {E : XK} (hA : A.guards = some []) (hcd : cdv = .ref (codeF K (He.ga K "law"))) (hr : Room 7 (A.deeper (envOfC "law" (defScope (top 47)) s.heap.objs.size (He.ga K "law") cdv))) :
    QSs (cxOf (L2.CX P w) P w K mg base ["script", "row", "heads", "turn", "words", "k", "text", "due", "things", "odd", "told", "word"] "law" (defScope (top 47)) (He.ga K "law") cdv A outer s H E) (tb K) (fun cls d _ H => E cls d H) (defBody (top 47)) b_law := by
  have hgu : (cxOf (L2.CX P w) P w K mg base ["script", "row", "heads", "turn", "words", "k", "text", "due", "things", "odd", "told", "word"] "law" (defScope (top 47)) (He.ga K "law") cdv A outer s H E).A.guards = some [] := (deeper_guards _).trans hA
  exact (qss_cons (q_cell (i := 1) sc_law.nd (by rfl) (by first | exact Or.inl rfl | exact Or.inr rfl) (q_lst (qs_cons (qv 0) (qs_cons q_int (qs_cons q_int (qs_cons q_int qs_nil))))))
    (qss_cons (q_set (i := 2) sc_law.nd (by rfl) (by first | exact Or.inl rfl | exact Or.inr rfl) (qf (q_lst (qs_cons q_str (qs_cons q_str (qs_cons q_str (qs_cons q_str (qs_cons q_str (qs_cons q_str (qs_cons q_str (qs_cons q_str (qs_cons q_str (qs_cons q_str (qs_cons q_str (qs_cons q_str (qs_cons q_str (qs_cons q_str (qs_cons q_str (qs_cons q_str qs_nil)))))))))))))))))))
    (qss_cons (q_for (passes_of (by rfl)) (by rfl) (q_iRng1 (by rfl) C.n_range (qs_cons q_int qs_nil)) (qg_name (i := 3) sc_law.nd) (qss_cons (q_setO (i := 4) sc_law.nd (by rfl) (by first | exact Or.inl rfl | exact Or.inr rfl) (q_lst (qs_cons (q_call (ok__law_pick C) hr (takes_of (by rfl) (by rfl) (by rfl) (by rfl)) (by decide) (by rfl) (qs_cons (qv 1) (qs_cons (qv 2) qs_nil))) qs_nil)))
    (qss_cons (q_for (passes_of (by rfl)) (by rfl) (q_iRng1 (by rfl) C.n_range (qs_cons (q_call (ok__law_pick C) hr (takes_of (by rfl) (by rfl) (by rfl) (by rfl)) (by decide) (by rfl) (qs_cons (qv 1) (qs_cons (qf (q_lst (qs_cons q_int (qs_cons q_int (qs_cons q_int (qs_cons q_int (qs_cons q_int (qs_cons q_int (qs_cons q_int (qs_cons q_int (qs_cons q_int (qs_cons q_int (qs_cons q_int qs_nil))))))))))))) qs_nil))) qs_nil)) (qg_name (i := 5) sc_law.nd) (qss_one (q_meth (i := 4) PySem.F.plainAttrs_list PySem.F.slot_list_append PySem.F.type_list_append mt_append om_append (by rfl) (by first | exact Or.inl rfl | exact Or.inr (Or.inl rfl)) (qs_cons (q_call (ok__law_pick C) hr (takes_of (by rfl) (by rfl) (by rfl) (by rfl)) (by decide) (by rfl) (qs_cons (qv 1) (qs_cons (qf (q_lst (qs_cons q_str (qs_cons q_str (qs_cons q_str (qs_cons q_str (qs_cons q_str (qs_cons q_str (qs_cons q_str (qs_cons q_str (qs_cons q_str (qs_cons q_str (qs_cons q_str (qs_cons q_str (qs_cons q_str (qs_cons q_str (qs_cons q_str (qs_cons q_str (qs_cons q_str qs_nil))))))))))))))))))) qs_nil))) qs_nil))))
    (qss_cons (q_set (i := 6) sc_law.nd (by rfl) (by first | exact Or.inl rfl | exact Or.inr rfl) (q_join (qb q_str) (qvB 4)))
    (qss_cons (q_set (i := 7) sc_law.nd (by rfl) (by first | exact Or.inl rfl | exact Or.inr rfl) (q_call (ok__law_is_change C) hr (takes_of (by rfl) (by rfl) (by rfl) (by rfl)) (by decide) (by rfl) (qs_cons (qv 6) qs_nil)))
    (qss_cons (q_ifS (qt_not (qt_val (q_call (ok__law_alike C 5) hr (takes_of (by rfl) (by rfl) (by rfl) (by rfl)) (by decide) (by rfl) (qs_cons (q_call (ok_is_change C) hr (takes_of (by rfl) (by rfl) (by rfl) (by rfl)) (by decide) (by rfl) (qs_cons (qv 6) qs_nil)) (qs_cons (qv 7) qs_nil))))) (qss_one (q_ret q_bl)) qss_nil)
    (qss_cons (q_set (i := 8) sc_law.nd (by rfl) (by first | exact Or.inl rfl | exact Or.inr rfl) (q_tupleOf (by rfl) C.n_tuple (qb (qf (q_comp (by rfl) sc_law.nd (q_iSeq (q_sliceA (qvB 4) (qo_some q_int) qo_none)) (blkOk_by (own := [("word", 11)]) (by kernel_rfl)) (fun _ _ _ _ _ => (qg_name (i := 11) sc_law.nd)) (fun _ _ _ _ _ => qts_nil) (fun _ _ _ _ _ => (q_if (qt_val (q_call (ok__law_signed C) hr L2.takes0 (by decide) (by rfl) (qs_cons (qv 11) qs_nil))) (q_intT (by rfl) C.n_int (qb (qv 11))) (qv 11))))))))
    (qss_one (q_ifS (qt_not (qt_val (q_callG (ok__law_same C) hgu hr (takes_of (by rfl) (by rfl) (by rfl) (by rfl)) (by decide) (by rfl) (qs_cons (q_told (kk := 0) (n := 0) (tell C) rfl (C.t_law) hcd rfl hr (by decide) (LamX.lamS_by (by rfl)) (by rfl) (fun _ _ _ _ _ => rfl) fun A outer s H E f c' hr => (q_call (ok_change_line C) hr (takes_of (by rfl) (by rfl) (by rfl) (by rfl)) (by decide) (by rfl) (qs_cons (q_ix (qvB 4) (qb q_int)) (qs_cons (qv 8) qs_nil)))) (qs_cons (q_if (qt_val (qv 7)) (q_tup (qs_cons q_str (qs_cons (qv 6) qs_nil))) (q_tup (qs_cons q_str (qs_cons q_non qs_nil)))) qs_nil))))) (qss_one (q_ret q_bl)) qss_nil)))))))))
    (qss_cons (q_for (passes_of (by rfl)) (by rfl) (q_iSeq (qf (q_lst (qs_cons q_non (qs_cons q_int (qs_cons (qf (q_lst (qs_cons q_str qs_nil))) (qs_cons (q_tup (qs_cons q_str qs_nil)) (qs_cons q_str (qs_cons q_str (qs_cons q_str (qs_cons (q_addA (qb q_str) (qb (q_repS (qb q_str) (qb q_int)))) (qs_cons (q_call (ok__law_odd C) hr (takes_of (by rfl) (by rfl) (by rfl) (by rfl)) (by decide) (by rfl) (qs_cons (qv 1) qs_nil)) qs_nil)))))))))))) (qg_name (i := 9) sc_law.nd) (qss_one (q_ifS (qt_val (q_call (ok_is_change C) hr (takes_of (by rfl) (by rfl) (by rfl) (by rfl)) (by decide) (by rfl) (qs_cons (qv 9) qs_nil))) (qss_one (q_ret q_bl)) qss_nil)))
    (qss_cons (q_set (i := 10) sc_law.nd (by rfl) (by first | exact Or.inl rfl | exact Or.inr rfl) (qf (q_lst (qs_cons (q_told (kk := 0) (n := 0) (tell C) rfl (C.t_law) hcd rfl hr (by decide) (LamX.lamS_by (by rfl)) (by rfl) (fun _ _ _ _ _ => rfl) fun A outer s H E f c' hr => (q_call (ok_change_line C) hr (takes_of (by rfl) (by rfl) (by rfl) (by rfl)) (by decide) (by rfl) (qs_cons q_non (qs_cons (q_tup qs_nil) qs_nil)))) (qs_cons (q_toldD (kk := 0) (n := 0) (a0 := "a") (tell C) rfl (C.t_law) hcd rfl hr (by decide) (lamD_by (by rfl)) rfl rfl (fun _ _ _ _ _ _ => ⟨_, rfl, rfl⟩) fun A outer s H E f c' hr => (q_call (ok_change_line C) hr (takes_of (by rfl) (by rfl) (by rfl) (by rfl)) (by decide) (by rfl) (qs_cons q_str (qs_cons (qf (q_lst (qs_cons q_int qs_nil))) qs_nil)))) (qs_cons (q_toldD (kk := 0) (n := 0) (a0 := "b") (tell C) rfl (C.t_law) hcd rfl hr (by decide) (lamD_by (by rfl)) rfl rfl (fun _ _ _ _ _ _ => ⟨_, rfl, rfl⟩) fun A outer s H E f c' hr => (q_call (ok_change_line C) hr (takes_of (by rfl) (by rfl) (by rfl) (by rfl)) (by decide) (by rfl) (qs_cons q_str (qs_cons q_non qs_nil)))) qs_nil))))))
    (qss_one (q_ret (q_callG (ok__law_same C) hgu hr (takes_of (by rfl) (by rfl) (by rfl) (by rfl)) (by decide) (by rfl) (qs_cons (qv 10) (qs_cons (qf (q_rep (qb (qf (q_lst (qs_cons (q_tup (qs_cons q_str (qs_cons q_non qs_nil))) qs_nil)))) (qb q_int))) qs_nil))))))))))
end
end K26

namespace K26
open PySem PySem.Spec L2 Tv
local macro_rules | `(tactic| get_elem_tactic_extensible) => `(tactic| simp only [v_var, v_varB, v_c, v_op, v_un, v_nil, v_cons, v_tup, v_lst, v_test, v_and, v_or, v_not, v_if, v_andV, v_orV, v_notV, v_chain, v_call, v_callF, v_callV, v_isi, v_slice, v_comp, unowned, List.all_cons, List.all_nil, wipeR, and_true, true_and, and_false, false_and, Int.cast_ofNat_Int, v_part, v_noPart, v_fld, v_yes, v_seqI, v_rng1, v_rng2, v_enumI, v_zipI, v_next, v_seq, v_set, v_setO, v_drop, v_ret, v_retN, v_brk, v_cnt, v_ifS, v_frz, v_while, v_for, v_meth, v_setIx, v_cell, v_aug, v_pt, v_par, v_setF, v_fun, v_raise, v_told, v_lamV, v_callL, v_newC, v_setIxE, w_setCell, w_tupC, w_isNotB, w_ix30, w_ix31, w_ix32, w_ixL30, w_ixL31, w_ixL32, w_ixL20, w_ixL21, v_ne_ok, v_loopF_nil, v_compF_nil,
  w_add, Tv.w_sub, w_lt, w_le, w_gt, w_ge, w_neg, w_eqI, w_neI, w_eqB, w_neB, w_is, w_isNot, w_ix20, w_ix21, w_lenT, w_lenL, w_lenZ, w_abs, w_int, w_min, w_max, w_tupT, w_tupL, w_tupZ, kT_int, kT_bl, kT_non, kT_str, kT_tup, kT_lst, k2, Tv.isNon, Pt.run, Pts.run, setM, ownL, baseOk, seqV,
  List.map_cons, List.map_nil, List.cons_append, List.nil_append, List.append_nil, List.replicate_zero, List.replicate_succ, List.length_cons, List.length_nil, List.getElem?_cons_zero, List.getElem?_cons_succ, List.getElem?_nil, List.set_cons_zero, List.set_cons_succ, List.set_nil, Option.some.injEq, ↓reduceIte, reduceCtorEq, decide_true, decide_false, decide_eq_true_eq, Bool.not_true, Bool.not_false, Bool.false_eq_true, Bool.and_true, Bool.true_and, Bool.or_false, Bool.false_or, Bool.or_true, Bool.true_or, Bool.and_false, Bool.false_and, if_true, if_false, String.reduceEq, or_false, or_true, false_or, true_or, Int.reduceLE, Int.reduceLT, Int.reduceNeg, Int.reduceToNat, Int.reduceAdd, Nat.reduceAdd, Nat.reduceLT, Int.reduceSub, Int.reduceMul, Int.reduceEq, Nat.reduceEqDiff, Int.zero_sub, BEq.rfl])
local macro_rules | `(tactic| decreasing_trivial) => `(tactic| simp only [v_var, v_varB, v_c, v_op, v_un, v_nil, v_cons, v_tup, v_lst, v_test, v_and, v_or, v_not, v_if, v_andV, v_orV, v_notV, v_chain, v_call, v_callF, v_callV, v_isi, v_slice, v_comp, unowned, List.all_cons, List.all_nil, wipeR, and_true, true_and, and_false, false_and, Int.cast_ofNat_Int, v_part, v_noPart, v_fld, v_yes, v_seqI, v_rng1, v_rng2, v_enumI, v_zipI, v_next, v_seq, v_set, v_setO, v_drop, v_ret, v_retN, v_brk, v_cnt, v_ifS, v_frz, v_while, v_for, v_meth, v_setIx, v_cell, v_aug, v_pt, v_par, v_setF, v_fun, v_raise, v_told, v_lamV, v_callL, v_newC, v_setIxE, w_setCell, w_tupC, w_isNotB, w_ix30, w_ix31, w_ix32, w_ixL30, w_ixL31, w_ixL32, w_ixL20, w_ixL21, v_ne_ok, v_loopF_nil, v_compF_nil,
  w_add, Tv.w_sub, w_lt, w_le, w_gt, w_ge, w_neg, w_eqI, w_neI, w_eqB, w_neB, w_is, w_isNot, w_ix20, w_ix21, w_lenT, w_lenL, w_lenZ, w_abs, w_int, w_min, w_max, w_tupT, w_tupL, w_tupZ, kT_int, kT_bl, kT_non, kT_str, kT_tup, kT_lst, k2, Tv.isNon, Pt.run, Pts.run, setM, ownL, baseOk, seqV,
  List.map_cons, List.map_nil, List.cons_append, List.nil_append, List.append_nil, List.replicate_zero, List.replicate_succ, List.length_cons, List.length_nil, List.getElem?_cons_zero, List.getElem?_cons_succ, List.getElem?_nil, List.set_cons_zero, List.set_cons_succ, List.set_nil, Option.some.injEq, ↓reduceIte, reduceCtorEq, decide_true, decide_false, decide_eq_true_eq, Bool.not_true, Bool.not_false, Bool.false_eq_true, Bool.and_true, Bool.true_and, Bool.or_false, Bool.false_or, Bool.or_true, Bool.true_or, Bool.and_false, Bool.false_and, if_true, if_false, String.reduceEq, or_false, or_true, false_or, true_or, Int.reduceLE, Int.reduceLT, Int.reduceNeg, Int.reduceToNat, Int.reduceAdd, Nat.reduceAdd, Nat.reduceLT, Int.reduceSub, Int.reduceMul, Int.reduceEq, Nat.reduceEqDiff, Int.zero_sub, BEq.rfl, *])

/-! ### sizes -/
def bd (n : Nat) (i : Int) : Prop := i.natAbs < 2 ^ n
theorem log_lt {m n : Nat} (h : m < 2 ^ n) (hn : 0 < n) : m.log2 < n := by
  by_cases h0 : m = 0
  · subst h0; simpa [Nat.log2_zero] using hn
  · exact (Nat.log2_lt h0).mpr h
theorem mulI {i j : Int} {a b : Nat} {s : S} (hi : bd a i) (hj : bd b j) (h : a + b ≤ 900000 := by omega) : gMul (.int i) (.int j) s = .ok (.int (i * j)) s := by
  have h1 : i.natAbs.log2 < a + 1 := log_lt (Nat.lt_of_lt_of_le hi (Nat.pow_le_pow_right (by omega) (by omega))) (by omega)
  have h2 : j.natAbs.log2 < b + 1 := log_lt (Nat.lt_of_lt_of_le hj (Nat.pow_le_pow_right (by omega) (by omega))) (by omega)
  show (if i.natAbs.log2 + j.natAbs.log2 < 1000000 then _ else _) = _
  rw [if_pos (by omega)]
theorem divI {i j : Int} {a : Nat} {s : S} (hj : bd a j) (h : 0 < j) (ha : a ≤ 8000 := by omega) : gDiv (.int i) (.int j) s = .ok (.int (i / j)) s := by
  have h2 : j.natAbs.log2 < a + 1 := log_lt (Nat.lt_of_lt_of_le hj (Nat.pow_le_pow_right (by omega) (by omega))) (by omega)
  show (if 0 < j ∧ j.natAbs.log2 < 9000 then _ else _) = _
  rw [if_pos ⟨h, by omega⟩]
theorem modI {i j : Int} {s : S} (h : 0 < j) : gMod (.int i) (.int j) s = .ok (.int (i % j)) s := by
  show (if 0 < j then _ else _) = _
  rw [if_pos h]
theorem bd_mul {i j : Int} {a b : Nat} (hi : bd a i) (hj : bd b j) : bd (a + b) (i * j) := by
  unfold bd at *
  rw [Int.natAbs_mul, Nat.pow_add]
  exact Nat.mul_lt_mul'' hi hj
theorem bd_add {i j : Int} {a : Nat} (hi : bd a i) (hj : bd a j) : bd (a + 1) (i + j) := by
  unfold bd at *
  have := Int.natAbs_add_le i j
  rw [Nat.pow_succ]
  omega
theorem bd_sub {i j : Int} {a : Nat} (hi : bd a i) (hj : bd a j) : bd (a + 1) (i - j) := by
  unfold bd at *
  have := Int.natAbs_sub_le i j
  rw [Nat.pow_succ]
  omega
theorem bd_neg {i : Int} {a : Nat} (hi : bd a i) : bd a (-i) := by
  unfold bd at *
  rw [Int.natAbs_neg]
  exact hi
theorem bd_mono {i : Int} {a b : Nat} (hi : bd a i) (h : a ≤ b := by omega) : bd b i := Nat.lt_of_lt_of_le hi (Nat.pow_le_pow_right (by omega) h)
theorem bd_small {i : Int} (h : i.natAbs < 1024 := by omega) : bd 10 i := h

/-! ### draws -/
abbrev rowD (ns : List Int) (i : Nat) (a b : Int) : D := .lst [scr ns, .int i, .int a, .int b]
abbrev stD (ns : List Int) (i : Nat) (a b : Int) (r : S) : S := .tab 0 :: rowD ns i a b :: r
/-- the store while the law draws -/
def Rw (ns : List Int) (s : S) : Prop := ∃ (i : Nat) (a b : Int) (r : S), s = stD ns i a b r ∧ bd 40 a
theorem ixF {ns : List Int} {i : Int} {z : Int} {s : S} (h : atI (ns.map D.int) i = some (.int z)) : gIx (scr ns) (.int i) s = .ok (.int z) s := by
  show (match atI (ns.map D.int) i with | some d => R.ok d s | none => R.no) = _
  rw [h]
theorem t_taken {ns : List Int} {s : S} {m : Int} {k : Nat} (h : Rw ns s) (hm : 0 < m) (hb : bd k m) (hk : k ≤ 8000 := by omega) : ∃ (v : Int) (s' : S), F__law_taken [.cell 1, .int m] s = .ok (.int v) s' ∧ 0 ≤ v ∧ v < m ∧ Rw ns s' := by
  obtain ⟨i, a, b, r, rfl, ha⟩ := h
  have g0 : ∀ (i a b : Int), gIx (.cell 1) (.int 0) (.tab 0 :: .lst [scr ns, .int i, .int a, .int b] :: r) = .ok (scr ns) (.tab 0 :: .lst [scr ns, .int i, .int a, .int b] :: r) := fun _ _ _ => rfl
  have g1 : ∀ (i a b : Int), gIx (.cell 1) (.int 1) (.tab 0 :: .lst [scr ns, .int i, .int a, .int b] :: r) = .ok (.int i) (.tab 0 :: .lst [scr ns, .int i, .int a, .int b] :: r) := fun _ _ _ => rfl
  have g2 : ∀ (i a b : Int), gIx (.cell 1) (.int 2) (.tab 0 :: .lst [scr ns, .int i, .int a, .int b] :: r) = .ok (.int a) (.tab 0 :: .lst [scr ns, .int i, .int a, .int b] :: r) := fun _ _ _ => rfl
  have g3 : ∀ (i a b : Int), gIx (.cell 1) (.int 3) (.tab 0 :: .lst [scr ns, .int i, .int a, .int b] :: r) = .ok (.int b) (.tab 0 :: .lst [scr ns, .int i, .int a, .int b] :: r) := fun _ _ _ => rfl
  have p1 : ∀ (x y i a b : Int) (t u : SD), setIx 0 1 (.int x) [.v (.cell 1), .v (.int y), t, u] (.tab 0 :: .lst [scr ns, .int i, .int a, .int b] :: r) = .nx [.v (.cell 1), .v (.int y), t, u] (.tab 0 :: .lst [scr ns, .int x, .int a, .int b] :: r) := fun _ _ _ _ _ _ _ => rfl
  have p2 : ∀ (x y i a b : Int) (t u : SD), setIx 0 2 (.int x) [.v (.cell 1), .v (.int y), t, u] (.tab 0 :: .lst [scr ns, .int i, .int a, .int b] :: r) = .nx [.v (.cell 1), .v (.int y), t, u] (.tab 0 :: .lst [scr ns, .int i, .int x, .int b] :: r) := fun _ _ _ _ _ _ _ => rfl
  have p3 : ∀ (x y i a b : Int) (t u : SD), setIx 0 3 (.int x) [.v (.cell 1), .v (.int y), t, u] (.tab 0 :: .lst [scr ns, .int i, .int a, .int b] :: r) = .nx [.v (.cell 1), .v (.int y), t, u] (.tab 0 :: .lst [scr ns, .int i, .int a, .int x] :: r) := fun _ _ _ _ _ _ _ => rfl
  have dv : ∀ (x : Int) (s : S), gDiv (.int x) (.int m) s = .ok (.int (x / m)) s := fun x s => divI hb hm
  have md : ∀ (x : Int) (s : S), gMod (.int x) (.int m) s = .ok (.int (x % m)) s := fun x s => w_mod hm
  have mM : ∀ (x : Int) (s : S), gMod (.int x) (.int 2147483647) s = .ok (.int (x % 2147483647)) s := fun x s => w_mod (by omega)
  have mT : ∀ (x : Int) (s : S), gMod (.int x) (.int 1000003) s = .ok (.int (x % 1000003)) s := fun x s => w_mod (by omega)
  have d7 : ∀ (x : Int) (s : S), gDiv (.int x) (.int 7) s = .ok (.int (x / 7)) s := fun x s => divI (a := 10) bd_small (by omega)
  have d11 : ∀ (x : Int) (s : S), gDiv (.int x) (.int 11) s = .ok (.int (x / 11)) s := fun x s => divI (a := 10) bd_small (by omega)
  have lo : ∀ x : Int, 0 ≤ x % m := fun x => Int.emod_nonneg x (by omega)
  have hi : ∀ x : Int, x % m < m := fun x => Int.emod_lt_of_pos x hm
  have mu : ∀ s : S, gMul (.int a) (.int 48271) s = .ok (.int (a * 48271)) s := fun s => mulI ha (b := 20) (show (48271 : Int).natAbs < 2 ^ 20 by decide)
  have m31 : ∀ (x : Int) (s : S), gMul (.int (x % 1000003)) (.int 31) s = .ok (.int (x % 1000003 * 31)) s := fun x s => mulI (a := 20) (b := 10) (by
    have h1 : 0 ≤ x % 1000003 := Int.emod_nonneg x (by omega)
    have h2 : x % 1000003 < 1000003 := Int.emod_lt_of_pos x (by omega)
    show (x % 1000003).natAbs < 2 ^ 20
    have e : (2 : Nat) ^ 20 = 1048576 := by decide
    omega) bd_small
  have pw : ∀ s : S, gPow (.int 10) (.int 18) s = .ok (.int 1000000000000000000) s := fun s => by
    show (if (0 : Int) ≤ 18 ∧ (18 : Int) ≤ 1000000 ∧ (10 : Int).natAbs < 2 ^ 64 then R.ok (D.int (10 ^ (18 : Int).toNat)) s else R.no) = _
    rw [if_pos (by decide)]
    rfl
  have newa : ∀ x : Int, bd 40 (x % 2147483647) := fun x => by
    have h1 : 0 ≤ x % 2147483647 := Int.emod_nonneg x (by omega)
    have h2 : x % 2147483647 < 2147483647 := Int.emod_lt_of_pos x (by omega)
    show (x % 2147483647).natAbs < 2 ^ 40
    have e : (2 : Nat) ^ 40 = 1099511627776 := by decide
    omega
  have fl : gLen [scr ns] = fun s => .ok (.int (ns.length : Nat)) s := by
    funext s
    show R.ok (D.int ((ns.map D.int).length : Nat)) s = _
    rw [List.length_map]
  have fl' : ∀ s : S, gLen [scr ns] s = .ok (.int (ns.length : Nat)) s := fun s => by rw [fl]
  clear fl
  by_cases h3 : 0 < b
  · refine ⟨b % m, (.tab 0 :: .lst [scr ns, .int i, .int a, .int (b / m)] :: r), ?_, lo _, hi _, i, a, b / m, r, rfl, ha⟩
    unfold F__law_taken b__law_taken
    clear newa lo hi
    decreasing_trivial
  · by_cases h4 : (ns.length : Int) < (i : Int) + 1
    · refine ⟨(a * 48271 + 11) % 2147483647 / 7 % m, (.tab 0 :: .lst [scr ns, .int (i + 1 : Nat), .int ((a * 48271 + 11) % 2147483647), .int b] :: r), ?_, lo _, hi _, i + 1, _, b, r, rfl, newa _⟩
      unfold F__law_taken b__law_taken
      clear newa lo hi
      decreasing_trivial
      rfl
    · have hlt : i < ns.length := by omega
      have hz : atI (ns.map D.int) ((i : Int) + 1 - 1) = some (.int ns[i]) := by
        have e : (i : Int) + 1 - 1 = (i : Int) := by omega
        rw [e, Tv.atI_nat, List.getElem?_map, List.getElem?_eq_getElem hlt]
        rfl
      have gz : ∀ s : S, gIx (scr ns) (.int ((i : Int) + 1 - 1)) s = .ok (.int ns[i]) s := fun s => ixF hz
      generalize ns[i] = z at *
      by_cases h5 : (1000000000000000000 : Int) ≤ z
      · refine ⟨z % m, (.tab 0 :: .lst [scr ns, .int (i + 1 : Nat), .int ((a * 48271 + z + 11) % 2147483647), .int (z / m)] :: r), ?_, lo _, hi _, i + 1, _, _, r, rfl, newa _⟩
        unfold F__law_taken b__law_taken
        clear newa lo hi hz
        decreasing_trivial
        rfl
      · refine ⟨(z % 1000003 * 31 + (a * 48271 + z + 11) % 2147483647 / 11) % m, (.tab 0 :: .lst [scr ns, .int (i + 1 : Nat), .int ((a * 48271 + z + 11) % 2147483647), .int b] :: r), ?_, lo _, hi _, i + 1, _, b, r, rfl, newa _⟩
        unfold F__law_taken b__law_taken
        clear newa lo hi hz
        decreasing_trivial
        rfl
theorem t_pick {ns : List Int} {s : S} {ds : List D} (h : Rw ns s) (h0 : ds ≠ []) (hl : ds.length ≤ 1000) : ∃ (d : D) (s' : S), F__law_pick [.cell 1, .lst ds] s = .ok d s' ∧ d ∈ ds ∧ Rw ns s' := by
  have hp : 0 < ds.length := List.length_pos_iff.mpr h0
  obtain ⟨v, s', e, v0, v1, r⟩ := t_taken (m := (ds.length : Nat)) (k := 10) h (by omega) (by show ((ds.length : Nat) : Int).natAbs < 2 ^ 10; rw [Int.natAbs_natCast]; omega)
  obtain ⟨j, rfl⟩ : ∃ j : Nat, v = (j : Int) := ⟨v.toNat, by omega⟩
  have hj : j < ds.length := by omega
  refine ⟨ds[j], s', ?_, List.getElem_mem hj, r⟩
  have gz : ∀ s : S, gIx (.lst ds) (.int (j : Int)) s = .ok ds[j] s := fun s => ixL (by rw [Tv.atI_nat, List.getElem?_eq_getElem hj])
  unfold F__law_pick b__law_pick
  clear h v0 v1 r hp hl
  decreasing_trivial
end K26

namespace K26
open PySem PySem.Spec L2 Tv TL
local macro_rules | `(tactic| get_elem_tactic_extensible) => `(tactic| simp only [v_var, v_varB, v_c, v_op, v_un, v_nil, v_cons, v_tup, v_lst, v_test, v_and, v_or, v_not, v_if, v_andV, v_orV, v_notV, v_chain, v_call, v_callF, v_callV, v_isi, v_slice, v_comp, unowned, List.all_cons, List.all_nil, wipeR, and_true, true_and, and_false, false_and, Int.cast_ofNat_Int, v_part, v_noPart, v_fld, v_yes, v_seqI, v_rng1, v_rng2, v_enumI, v_zipI, v_next, v_seq, v_set, v_setO, v_drop, v_ret, v_retN, v_brk, v_cnt, v_ifS, v_frz, v_while, v_for, v_meth, v_setIx, v_cell, v_aug, v_pt, v_par, v_setF, v_fun, v_raise, v_told, v_lamV, v_callL, v_newC, v_setIxE, w_setCell, w_tupC, w_isNotB, w_ix30, w_ix31, w_ix32, w_ixL30, w_ixL31, w_ixL32, w_ixL20, w_ixL21, v_ne_ok, v_loopF_nil, v_compF_nil,
  w_add, Tv.w_sub, w_lt, w_le, w_gt, w_ge, w_neg, w_eqI, w_neI, w_eqB, w_neB, w_is, w_isNot, w_ix20, w_ix21, w_lenT, w_lenL, w_lenZ, w_abs, w_int, w_min, w_max, w_tupT, w_tupL, w_tupZ, kT_int, kT_bl, kT_non, kT_str, kT_tup, kT_lst, k2, Tv.isNon, Pt.run, Pts.run, setM, ownL, baseOk, seqV,
  List.map_cons, List.map_nil, List.cons_append, List.nil_append, List.append_nil, List.replicate_zero, List.replicate_succ, List.length_cons, List.length_nil, List.getElem?_cons_zero, List.getElem?_cons_succ, List.getElem?_nil, List.set_cons_zero, List.set_cons_succ, List.set_nil, Option.some.injEq, ↓reduceIte, reduceCtorEq, decide_true, decide_false, decide_eq_true_eq, Bool.not_true, Bool.not_false, Bool.false_eq_true, Bool.and_true, Bool.true_and, Bool.or_false, Bool.false_or, Bool.or_true, Bool.true_or, Bool.and_false, Bool.false_and, if_true, if_false, String.reduceEq, or_false, or_true, false_or, true_or, Int.reduceLE, Int.reduceLT, Int.reduceNeg, Int.reduceToNat, Int.reduceAdd, Nat.reduceAdd, Nat.reduceLT, Int.reduceSub, Int.reduceMul, Int.reduceEq, Nat.reduceEqDiff, Int.zero_sub, BEq.rfl])
local macro_rules | `(tactic| decreasing_trivial) => `(tactic| simp only [v_var, v_varB, v_c, v_op, v_un, v_nil, v_cons, v_tup, v_lst, v_test, v_and, v_or, v_not, v_if, v_andV, v_orV, v_notV, v_chain, v_call, v_callF, v_callV, v_isi, v_slice, v_comp, unowned, List.all_cons, List.all_nil, wipeR, and_true, true_and, and_false, false_and, Int.cast_ofNat_Int, v_part, v_noPart, v_fld, v_yes, v_seqI, v_rng1, v_rng2, v_enumI, v_zipI, v_next, v_seq, v_set, v_setO, v_drop, v_ret, v_retN, v_brk, v_cnt, v_ifS, v_frz, v_while, v_for, v_meth, v_setIx, v_cell, v_aug, v_pt, v_par, v_setF, v_fun, v_raise, v_told, v_lamV, v_callL, v_newC, v_setIxE, w_setCell, w_tupC, w_isNotB, w_ix30, w_ix31, w_ix32, w_ixL30, w_ixL31, w_ixL32, w_ixL20, w_ixL21, v_ne_ok, v_loopF_nil, v_compF_nil,
  w_add, Tv.w_sub, w_lt, w_le, w_gt, w_ge, w_neg, w_eqI, w_neI, w_eqB, w_neB, w_is, w_isNot, w_ix20, w_ix21, w_lenT, w_lenL, w_lenZ, w_abs, w_int, w_min, w_max, w_tupT, w_tupL, w_tupZ, kT_int, kT_bl, kT_non, kT_str, kT_tup, kT_lst, k2, Tv.isNon, Pt.run, Pts.run, setM, ownL, baseOk, seqV,
  List.map_cons, List.map_nil, List.cons_append, List.nil_append, List.append_nil, List.replicate_zero, List.replicate_succ, List.length_cons, List.length_nil, List.getElem?_cons_zero, List.getElem?_cons_succ, List.getElem?_nil, List.set_cons_zero, List.set_cons_succ, List.set_nil, Option.some.injEq, ↓reduceIte, reduceCtorEq, decide_true, decide_false, decide_eq_true_eq, Bool.not_true, Bool.not_false, Bool.false_eq_true, Bool.and_true, Bool.true_and, Bool.or_false, Bool.false_or, Bool.or_true, Bool.true_or, Bool.and_false, Bool.false_and, if_true, if_false, String.reduceEq, or_false, or_true, false_or, true_or, Int.reduceLE, Int.reduceLT, Int.reduceNeg, Int.reduceToNat, Int.reduceAdd, Nat.reduceAdd, Nat.reduceLT, Int.reduceSub, Int.reduceMul, Int.reduceEq, Nat.reduceEqDiff, Int.zero_sub, BEq.rfl, *])

/-! ### the words that are drawn -/
def WS : List Str := ["a", "ann", "abcdefghi", "1", "0", "12", "99999", "100000", "01", "", "A", "-", "-1", "-0", "-01", "2"]
def HS : List Str := ["lamp", "knot", "flat", "levels", "ink", "target", "entry", "add", "swap", "clip", "drop", "curves", "push", "Swap", "", "undo"]
def nmB (w : Str) : Bool := w == "a" || w == "ann"
def nuB (w : Str) : Bool := w == "1" || (w == "0" || (w == "12" || (w == "99999" || w == "2")))
def siB (w : Str) : Bool := nuB w || w == "-1"
def vlI (w : Str) : Int := if w = "1" then 1 else if w = "12" then 12 else if w = "99999" then 99999 else if w = "-1" then -1 else if w = "2" then 2 else 0
theorem wsC {P : Str → Prop} (h1 : P "a") (h2 : P "ann") (h3 : P "abcdefghi") (h4 : P "1") (h5 : P "0") (h6 : P "12") (h7 : P "99999") (h8 : P "100000") (h9 : P "01") (h10 : P "") (h11 : P "A") (h12 : P "-") (h13 : P "-1") (h14 : P "-0") (h15 : P "-01") (h16 : P "2") : ∀ w ∈ WS, P w := by
  intro w hw
  simp only [WS, List.mem_cons, List.not_mem_nil, or_false] at hw
  rcases hw with rfl | rfl | rfl | rfl | rfl | rfl | rfl | rfl | rfl | rfl | rfl | rfl | rfl | rfl | rfl | rfl <;> assumption
theorem t_lname : ∀ w ∈ WS, ∀ s, F__law_is_name [.str w] s = .ok (.bl (nmB w)) s := by
  apply wsC <;> (intro s; kernel_rfl)
theorem t_lnum : ∀ w ∈ WS, ∀ s, F__law_number [.str w] s = .ok (.bl (nuB w)) s := by
  apply wsC <;> (intro s; kernel_rfl)
theorem t_lsig : ∀ w ∈ WS, ∀ s, F__law_signed [.str w] s = .ok (.bl (siB w)) s := by
  apply wsC <;> (intro s; kernel_rfl)
theorem t_name : ∀ w ∈ WS, ∀ s, F_is_name [.str w] s = .ok (.bl (nmB w)) s := by
  apply wsC <;> (intro s; kernel_rfl)
theorem t_num : ∀ w ∈ WS, ∀ s, F_is_number_word [.str w] s = .ok (.bl (nuB w)) s := by
  apply wsC <;> (intro s; kernel_rfl)
theorem t_sig : ∀ w ∈ WS, ∀ s, F_is_signed_word [.str w] s = .ok (.bl (siB w)) s := by
  apply wsC <;> (intro s; kernel_rfl)
theorem t_int : ∀ w ∈ WS, siB w = true → ∀ s, gIntT [.str w] s = .ok (.int (vlI w)) s := by
  apply wsC <;> (intro h s; first | (exact absurd h (by decide)) | kernel_rfl)
theorem t_str : ∀ w ∈ WS, siB w = true → ∀ s, gStr [.int (vlI w)] s = .ok (.str w) s := by
  apply wsC <;> (intro h s; first | (exact absurd h (by decide)) | kernel_rfl)
theorem nm_si : ∀ w ∈ WS, nmB w = true → siB w = false := by
  apply wsC <;> decide
theorem nu_si {w : Str} (h : nuB w = true) : siB w = true := by
  unfold siB
  rw [h]
  rfl
theorem ws_len : ∀ w ∈ WS, w.length ≤ 9 := by apply wsC <;> decide
theorem ws_free : ∀ w ∈ WS, 32 ∉ tl w := by apply wsC <;> decide
theorem hsC {P : Str → Prop} (h1 : P "lamp") (h2 : P "knot") (h3 : P "flat") (h4 : P "levels") (h5 : P "ink") (h6 : P "target") (h7 : P "entry") (h8 : P "add") (h9 : P "swap") (h10 : P "clip") (h11 : P "drop") (h12 : P "curves") (h13 : P "push") (h14 : P "Swap") (h15 : P "") (h16 : P "undo") : ∀ w ∈ HS, P w := by
  intro w hw
  simp only [HS, List.mem_cons, List.not_mem_nil, or_false] at hw
  rcases hw with rfl | rfl | rfl | rfl | rfl | rfl | rfl | rfl | rfl | rfl | rfl | rfl | rfl | rfl | rfl | rfl <;> assumption
theorem hs_len : ∀ w ∈ HS, w.length ≤ 9 := by apply hsC <;> decide
theorem hs_free : ∀ w ∈ HS, 32 ∉ tl w := by apply hsC <;> decide
/-! ### the text of a turn -/
def txt (h : Str) (ws : List Str) : Str := Txt.join " " (h :: ws)
theorem joinL_len : ∀ (ps : List (List Nat)), (∀ p ∈ ps, p.length ≤ 9) → (joinL [32] ps).length ≤ 10 * ps.length
  | [], _ => by simp [joinL]
  | [p], h => by
    have := h p List.mem_cons_self
    show p.length ≤ 10 * 1
    omega
  | p :: q :: r, h => by
    have h1 := h p List.mem_cons_self
    have h2 := joinL_len (q :: r) fun z hz => h z (List.mem_cons_of_mem _ hz)
    show (p ++ ([32] ++ joinL [32] (q :: r))).length ≤ 10 * ((q :: r).length + 1)
    rw [List.length_append, List.length_append]
    simp only [List.length_cons, List.length_nil] at *
    omega
theorem txt_len {h : Str} {ws : List Str} (h1 : h ∈ HS) (h2 : ∀ w ∈ ws, w ∈ WS) : (txt h ws).length ≤ 10 * (ws.length + 1) := by
  unfold txt
  rw [join_eq, len_tl, tl_join]
  have := joinL_len ((h :: ws).map tl) fun p hp => by
    obtain ⟨w, hw, rfl⟩ := List.mem_map.mp hp
    rw [← len_tl]
    rcases List.mem_cons.mp hw with rfl | hw
    · exact hs_len _ h1
    · exact ws_len _ (h2 _ hw)
  rw [List.length_map, List.length_cons] at this
  exact this
theorem txt_split {h : Str} {ws : List Str} (h1 : h ∈ HS) (h2 : ∀ w ∈ ws, w ∈ WS) : Txt.split (txt h ws) " " = h :: ws :=
  split_join (s := 32) (S := []) rfl (by decide +kernel) (by simp) fun p hp => by
    rcases List.mem_cons.mp hp with rfl | hw
    · exact hs_free _ h1
    · exact ws_free _ (h2 _ hw)
theorem allS_map : ∀ (l : List Str), allS (l.map D.str) = some l
  | [] => rfl
  | x :: l => by
    show (allS (l.map D.str)).map (fun l => x :: l) = _
    rw [allS_map l]
    rfl
theorem sum_len {ws : List Str} (h2 : ∀ w ∈ ws, w ∈ WS) : (ws.map fun (y : Str) => y.length).sum ≤ 9 * ws.length := by
  induction ws with
  | nil => simp
  | cons w ws ih =>
    have h1 := ws_len _ (h2 w List.mem_cons_self)
    have h3 := ih fun z hz => h2 z (List.mem_cons_of_mem _ hz)
    simp only [List.map_cons, List.sum_cons, List.length_cons]
    omega
theorem g_join {h : Str} {ws : List Str} {s : S} (h1 : h ∈ HS) (h2 : ∀ w ∈ ws, w ∈ WS) (hl : ws.length ≤ 6) : gJoin (.str " ") [.lst (.str h :: ws.map D.str)] s = .ok (.str (txt h ws)) s := by
  show (match allS ((h :: ws).map D.str) with
    | some ys => if (ys.map fun (y : Str) => y.length).sum + ys.length * (" " : Str).length ≤ 16777216 then R.ok (D.str (Txt.join " " ys)) s else .no
    | none => .no) = _
  rw [allS_map]
  have e1 : (" " : Str).length = 1 := by decide
  have := sum_len h2
  have := hs_len _ h1
  dsimp only
  rw [e1, if_pos (by simp only [List.map_cons, List.sum_cons, List.length_cons]; omega)]
  rfl
theorem g_split {h : Str} {ws : List Str} {s : S} (h1 : h ∈ HS) (h2 : ∀ w ∈ ws, w ∈ WS) (hl : ws.length ≤ 6) : gSplit (.str (txt h ws)) [.str " "] s = .ok (.lst (.str h :: ws.map D.str)) s := by
  have e1 : (" " : Str).length = 1 := by decide
  have := txt_len h1 h2
  show (if ((" " : Str).length == 0) = false ∧ (txt h ws).length + 2 ≤ sizeLine then _ else _) = _
  rw [e1, sizeLine_eq, if_pos ⟨rfl, by omega⟩, txt_split h1 h2]
  rfl
end K26

namespace K26
open PySem PySem.Spec L2 Tv TL
local macro_rules | `(tactic| get_elem_tactic_extensible) => `(tactic| simp only [v_var, v_varB, v_c, v_op, v_un, v_nil, v_cons, v_tup, v_lst, v_test, v_and, v_or, v_not, v_if, v_andV, v_orV, v_notV, v_chain, v_call, v_callF, v_callV, v_isi, v_slice, v_comp, unowned, List.all_cons, List.all_nil, wipeR, and_true, true_and, and_false, false_and, Int.cast_ofNat_Int, v_part, v_noPart, v_fld, v_yes, v_seqI, v_rng1, v_rng2, v_enumI, v_zipI, v_next, v_seq, v_set, v_setO, v_drop, v_ret, v_retN, v_brk, v_cnt, v_ifS, v_frz, v_while, v_for, v_meth, v_setIx, v_cell, v_aug, v_pt, v_par, v_setF, v_fun, v_raise, v_told, v_lamV, v_callL, v_newC, v_setIxE, w_setCell, w_tupC, w_isNotB, w_ix30, w_ix31, w_ix32, w_ixL30, w_ixL31, w_ixL32, w_ixL20, w_ixL21, v_ne_ok, v_loopF_nil, v_compF_nil,
  w_add, Tv.w_sub, w_lt, w_le, w_gt, w_ge, w_neg, w_eqI, w_neI, w_eqB, w_neB, w_is, w_isNot, w_ix20, w_ix21, w_lenT, w_lenL, w_lenZ, w_abs, w_int, w_min, w_max, w_tupT, w_tupL, w_tupZ, kT_int, kT_bl, kT_non, kT_str, kT_tup, kT_lst, k2, Tv.isNon, Pt.run, Pts.run, setM, ownL, baseOk, seqV,
  List.map_cons, List.map_nil, List.cons_append, List.nil_append, List.append_nil, List.replicate_zero, List.replicate_succ, List.length_cons, List.length_nil, List.getElem?_cons_zero, List.getElem?_cons_succ, List.getElem?_nil, List.set_cons_zero, List.set_cons_succ, List.set_nil, Option.some.injEq, ↓reduceIte, reduceCtorEq, decide_true, decide_false, decide_eq_true_eq, Bool.not_true, Bool.not_false, Bool.false_eq_true, Bool.and_true, Bool.true_and, Bool.or_false, Bool.false_or, Bool.or_true, Bool.true_or, Bool.and_false, Bool.false_and, if_true, if_false, String.reduceEq, or_false, or_true, false_or, true_or, Int.reduceLE, Int.reduceLT, Int.reduceNeg, Int.reduceToNat, Int.reduceAdd, Nat.reduceAdd, Nat.reduceLT, Int.reduceSub, Int.reduceMul, Int.reduceEq, Nat.reduceEqDiff, Int.zero_sub, BEq.rfl])
local macro_rules | `(tactic| decreasing_trivial) => `(tactic| simp only [v_var, v_varB, v_c, v_op, v_un, v_nil, v_cons, v_tup, v_lst, v_test, v_and, v_or, v_not, v_if, v_andV, v_orV, v_notV, v_chain, v_call, v_callF, v_callV, v_isi, v_slice, v_comp, unowned, List.all_cons, List.all_nil, wipeR, and_true, true_and, and_false, false_and, Int.cast_ofNat_Int, v_part, v_noPart, v_fld, v_yes, v_seqI, v_rng1, v_rng2, v_enumI, v_zipI, v_next, v_seq, v_set, v_setO, v_drop, v_ret, v_retN, v_brk, v_cnt, v_ifS, v_frz, v_while, v_for, v_meth, v_setIx, v_cell, v_aug, v_pt, v_par, v_setF, v_fun, v_raise, v_told, v_lamV, v_callL, v_newC, v_setIxE, w_setCell, w_tupC, w_isNotB, w_ix30, w_ix31, w_ix32, w_ixL30, w_ixL31, w_ixL32, w_ixL20, w_ixL21, v_ne_ok, v_loopF_nil, v_compF_nil,
  w_add, Tv.w_sub, w_lt, w_le, w_gt, w_ge, w_neg, w_eqI, w_neI, w_eqB, w_neB, w_is, w_isNot, w_ix20, w_ix21, w_lenT, w_lenL, w_lenZ, w_abs, w_int, w_min, w_max, w_tupT, w_tupL, w_tupZ, kT_int, kT_bl, kT_non, kT_str, kT_tup, kT_lst, k2, Tv.isNon, Pt.run, Pts.run, setM, ownL, baseOk, seqV,
  List.map_cons, List.map_nil, List.cons_append, List.nil_append, List.append_nil, List.replicate_zero, List.replicate_succ, List.length_cons, List.length_nil, List.getElem?_cons_zero, List.getElem?_cons_succ, List.getElem?_nil, List.set_cons_zero, List.set_cons_succ, List.set_nil, Option.some.injEq, ↓reduceIte, reduceCtorEq, decide_true, decide_false, decide_eq_true_eq, Bool.not_true, Bool.not_false, Bool.false_eq_true, Bool.and_true, Bool.true_and, Bool.or_false, Bool.false_or, Bool.or_true, Bool.true_or, Bool.and_false, Bool.false_and, if_true, if_false, String.reduceEq, or_false, or_true, false_or, true_or, Int.reduceLE, Int.reduceLT, Int.reduceNeg, Int.reduceToNat, Int.reduceAdd, Nat.reduceAdd, Nat.reduceLT, Int.reduceSub, Int.reduceMul, Int.reduceEq, Nat.reduceEqDiff, Int.zero_sub, BEq.rfl, *])

/-! ### the forms -/
theorem v_ifT {a b c : TM} {ρ : List SD} {s : S} : mIfT c a b ρ s = match c ρ s with
  | .ok x s1 => (match x with | true => a ρ s1 | false => b ρ s1)
  | .er c ds s => .er c ds s
  | .no => .no := by
  unfold mIfT
  cases c ρ s with
  | ok x s1 => cases x <;> rfl
  | er => rfl
  | no => rfl
def lc (k : Str) : Nat := if k = "name" then 97 else if k = "number" then 110 else 115
def KS : List Str := ["name", "number", "signed"]
def frm (h : Str) : Option (Str × List Str) :=
  if h = "lamp" then some ("annn", ["name", "number", "number", "number"]) else
  if h = "knot" then some ("ann", ["name", "number", "number"]) else
  if h = "flat" then some ("an", ["name", "number"]) else
  if h = "levels" then some ("an", ["name", "number"]) else
  if h = "ink" then some ("annnnn", ["name", "number", "number", "number", "number", "number"]) else
  if h = "target" then some ("nnn", ["number", "number", "number"]) else
  if h = "entry" then some ("nnsn", ["number", "number", "signed", "number"]) else
  if h = "add" then some ("nsn", ["number", "signed", "number"]) else
  if h = "swap" then some ("", []) else
  if h = "clip" then some ("", []) else
  if h = "drop" then some ("n", ["number"]) else
  if h = "curves" then some ("a", ["name"]) else
  if h = "push" then some ("", []) else none
def Fm (q : Str × List Str) : Prop := tl q.1 = q.2.map lc ∧ q.2.length ≤ 6 ∧ ∀ k ∈ q.2, k ∈ KS
instance (q : Str × List Str) : Decidable (Fm q) := by unfold Fm; infer_instance
theorem frm_ok : ∀ h ∈ HS, ∀ q, frm h = some q → Fm q := by
  apply hsC <;> (intro q e; first | (cases (Option.some.inj e); decide +kernel) | (exact nomatch (show (none : Option (Str × List Str)) = some q from e)))
def lfD (h : Str) : D := match frm h with
  | some q => .str q.1
  | none => .non
def dic1 : D := .dic [.inr "lamp", .inr "knot", .inr "flat", .inr "levels", .inr "ink", .inr "target", .inr "entry"] [.str "annn", .str "ann", .str "an", .str "an", .str "annnnn", .str "nnn", .str "nnsn"]
def dic2 : D := .dic [.inr "add", .inr "swap", .inr "clip", .inr "drop", .inr "curves", .inr "push"] [.str "nsn", .str "", .str "", .str "n", .str "a", .str ""]
theorem ix0 {d : D} {l : List D} {s : S} : gIx (.lst (d :: l)) (.int 0) s = .ok d s := ixL (by
  have := Tv.atI_nat (d :: l) 0
  simpa using this)
theorem e_form : ∀ h ∈ HS, ∀ (l : List D) (T a b : SD) (s : S), mIf (mTest (mOp gDIn (mOp gIx (mVar 1) (mC (.int 0))) (mVar 2))) (mOp gDGet (mVar 2) (mOp gIx (mVar 1) (mC (.int 0)))) (mIf (mTest (mOp gDIn (mOp gIx (mVar 1) (mC (.int 0))) (mVar 3))) (mOp gDGet (mVar 3) (mOp gIx (mVar 1) (mC (.int 0)))) (mC .non)) [T, .v (.lst (.str h :: l)), .v dic1, .v dic2, .un, a, b] s = .ok (lfD h) s := by
  intro h hh l T a b s
  simp only [v_if, v_test, v_op, v_var, v_c, List.getElem?_cons_zero, List.getElem?_cons_succ, ix0]
  revert h
  apply hsC <;> kernel_rfl
def okw (k w : Str) : Bool := if k = "name" then nmB w else if k = "number" then nuB w else siB w
def okA : List Str → List Str → Bool
  | [], [] => true
  | k :: ks, w :: ws => okw k w && okA ks ws
  | _, _ => false
theorem okA_len : ∀ {ks ws : List Str}, okA ks ws = true → ks.length = ws.length
  | [], [], _ => rfl
  | k :: ks, w :: ws, h => by
    have h2 : okA ks ws = true := (Bool.and_eq_true_iff.mp h).2
    rw [List.length_cons, List.length_cons, okA_len h2]
  | [], _ :: _, h => by cases h
  | _ :: _, [], h => by cases h
theorem okA_ne {ks ws : List Str} (h : ks.length ≠ ws.length) : okA ks ws = false := by
  cases q : okA ks ws with
  | false => rfl
  | true => exact absurd (okA_len q) h
theorem ixS {f : Str} {ks : List Str} (hf : tl f = ks.map lc) (hl : ks.length ≤ 6) {j : Nat} {k : Str} (h : ks[j]? = some k) {s : S} : gIx (.str f) (.int (j : Int)) s = .ok (.str ⟨#[lc k]⟩) s := by
  have e1 : f.length ≤ sizeLine := by
    rw [len_tl, hf, List.length_map, sizeLine_eq]
    omega
  show (if f.length ≤ sizeLine then (match atI f.cps.toList (j : Int) with | some c => R.ok (D.str ⟨#[c]⟩) s | none => R.no) else R.no) = _
  have e2 : f.cps.toList = ks.map lc := hf
  rw [if_pos e1, e2, Tv.atI_nat, List.getElem?_map, h]
  rfl
theorem ksC {P : Str → Prop} (h1 : P "name") (h2 : P "number") (h3 : P "signed") : ∀ w ∈ KS, P w := by
  intro w hw
  simp only [KS, List.mem_cons, List.not_mem_nil, or_false] at hw
  rcases hw with rfl | rfl | rfl <;> assumption
theorem eqA : ∀ k ∈ KS, ∀ s : S, gEq (.str ⟨#[lc k]⟩) (.str "a") s = .ok (.bl (decide (k = "name"))) s := by
  apply ksC <;> (intro s; kernel_rfl)
theorem eqN : ∀ k ∈ KS, ∀ s : S, gEq (.str ⟨#[lc k]⟩) (.str "n") s = .ok (.bl (decide (k = "number"))) s := by
  apply ksC <;> (intro s; kernel_rfl)
theorem l_step {f h : Str} {ks ws : List Str} (hf : tl f = ks.map lc) (hl : ks.length ≤ 6) (hw : ∀ w ∈ ws, w ∈ WS) {j : Nat} {k w : Str} (h1 : ks[j]? = some k) (h2 : ws[j]? = some w) (hk : k ∈ KS) {t d1 d2 x6 : SD} {s : S} :
    l__law_is_change_1 [t, .v (.lst (.str h :: ws.map D.str)), d1, d2, .v (.str f), .v (.int (j : Int)), x6] s = if okw k w then .nx [t, .v (.lst (.str h :: ws.map D.str)), d1, d2, .v (.str f), .v (.int (j : Int)), .v (.str w)] s else .rt (.bl false) s := by
  have g1 : ∀ s, gIx (.lst (.str h :: ws.map D.str)) (.int ((j : Int) + 1)) s = .ok (.str w) s := fun s => ixL (by
    have := Tv.atI_nat (D.str h :: ws.map D.str) (j + 1)
    rw [List.getElem?_cons_succ, List.getElem?_map, h2] at this
    exact this)
  have g2 : ∀ s, gIx (.str f) (.int (j : Int)) s = .ok (.str ⟨#[lc k]⟩) s := fun s => ixS hf hl h1
  have hm : w ∈ WS := hw w (List.mem_of_getElem? h2)
  have a1 := eqA k hk
  have a2 := eqN k hk
  have f1 := t_lname w hm
  have f2 := t_lnum w hm
  have f3 := t_lsig w hm
  clear h1 h2 hw hm hf hl
  unfold l__law_is_change_1
  by_cases e1 : k = "name"
  · have o1 : okw k w = nmB w := by unfold okw; rw [if_pos e1]
    have e1' : (k = "name") = True := eq_true e1
    simp only [v_seq, v_set, v_op, v_var, v_c, v_ifS, v_not, v_ifT, v_test, v_callF, v_cons, v_nil, setM, List.getElem?_cons_zero, List.getElem?_cons_succ, List.set_cons_zero, List.set_cons_succ, w_add, g1, g2, a1, a2, f1, f2, f3, e1', decide_true, o1, v_ret, v_next]
    cases nmB w <;> rfl
  · by_cases e2 : k = "number"
    · have o1 : okw k w = nuB w := by unfold okw; rw [if_neg e1, if_pos e2]
      have e1' : (k = "name") = False := eq_false e1
      have e2' : (k = "number") = True := eq_true e2
      simp only [v_seq, v_set, v_op, v_var, v_c, v_ifS, v_not, v_ifT, v_test, v_callF, v_cons, v_nil, setM, List.getElem?_cons_zero, List.getElem?_cons_succ, List.set_cons_zero, List.set_cons_succ, w_add, g1, g2, a1, a2, f1, f2, f3, e1', e2', decide_true, decide_false, o1, v_ret, v_next]
      cases nuB w <;> rfl
    · have o1 : okw k w = siB w := by unfold okw; rw [if_neg e1, if_neg e2]
      have e1' : (k = "name") = False := eq_false e1
      have e2' : (k = "number") = False := eq_false e2
      simp only [v_seq, v_set, v_op, v_var, v_c, v_ifS, v_not, v_ifT, v_test, v_callF, v_cons, v_nil, setM, List.getElem?_cons_zero, List.getElem?_cons_succ, List.set_cons_zero, List.set_cons_succ, w_add, g1, g2, a1, a2, f1, f2, f3, e1', e2', decide_true, decide_false, o1, v_ret, v_next]
      cases siB w <;> rfl
def from_ : Nat → Nat → List D
  | _, 0 => []
  | k, m + 1 => .int (k : Int) :: from_ (k + 1) m
theorem from_eq : ∀ (m k : Nat), from_ k m = (List.range' k m).map fun (i : Nat) => D.int (i : Int)
  | 0, _ => rfl
  | m + 1, k => by
    rw [List.range'_succ, List.map_cons, ← from_eq m (k + 1)]
    rfl
theorem rng_from (n : Nat) : rngD 0 n = from_ 0 n := by
  unfold rngD
  rw [from_eq, List.range_eq_range']
  refine List.map_congr_left fun (i : Nat) _ => ?_
  rw [Int.zero_add]
theorem l_loop {f h : Str} {ks ws : List Str} (hf : tl f = ks.map lc) (hl : ks.length ≤ 6) (hw : ∀ w ∈ ws, w ∈ WS) (hk : ∀ k ∈ ks, k ∈ KS) (he : ks.length = ws.length) {t d1 d2 : SD} {s : S} : ∀ (m j : Nat) (x5 x6 : SD), j + m = ks.length →
    (okA (ks.drop j) (ws.drop j) = true → ∃ y5 y6, loopF (.nm 5) l__law_is_change_1 (from_ j m) [t, .v (.lst (.str h :: ws.map D.str)), d1, d2, .v (.str f), x5, x6] s = .nx [t, .v (.lst (.str h :: ws.map D.str)), d1, d2, .v (.str f), y5, y6] s) ∧
    (okA (ks.drop j) (ws.drop j) = false → loopF (.nm 5) l__law_is_change_1 (from_ j m) [t, .v (.lst (.str h :: ws.map D.str)), d1, d2, .v (.str f), x5, x6] s = .rt (.bl false) s)
  | 0, j, x5, x6, e => by
    have e1 : ks.drop j = [] := List.drop_eq_nil_of_le (by omega)
    have e2 : ws.drop j = [] := List.drop_eq_nil_of_le (by omega)
    rw [e1, e2]
    exact ⟨fun _ => ⟨x5, x6, rfl⟩, fun h => (nomatch h)⟩
  | m + 1, j, x5, x6, e => by
    have hj : j < ks.length := by omega
    have hj2 : j < ws.length := by omega
    have st := l_step (h := h) (t := t) (d1 := d1) (d2 := d2) (x6 := x6) (s := s) hf hl hw (List.getElem?_eq_getElem hj) (List.getElem?_eq_getElem hj2) (hk _ (List.getElem_mem hj))
    have run : loopF (.nm 5) l__law_is_change_1 (from_ j (m + 1)) [t, .v (.lst (.str h :: ws.map D.str)), d1, d2, .v (.str f), x5, x6] s = match l__law_is_change_1 [t, .v (.lst (.str h :: ws.map D.str)), d1, d2, .v (.str f), .v (.int (j : Int)), x6] s with
      | .nx ρ' s' => loopF (.nm 5) l__law_is_change_1 (from_ (j + 1) m) ρ' s'
      | .ct ρ' s' => loopF (.nm 5) l__law_is_change_1 (from_ (j + 1) m) ρ' s'
      | .bk ρ' s' => .nx ρ' s'
      | .rt d s' => .rt d s'
      | .er k e ρ' s' => .er k e ρ' s'
      | .no => .no := rfl
    rw [List.drop_eq_getElem_cons hj, List.drop_eq_getElem_cons hj2, run, st]
    obtain ⟨i1, i2⟩ := l_loop (h := h) (t := t) (d1 := d1) (d2 := d2) (s := s) hf hl hw hk he m (j + 1) (.v (.int (j : Int))) (.v (.str ws[j])) (by omega)
    cases q : okw ks[j] ws[j] with
    | true =>
      have e3 : okA (ks[j] :: ks.drop (j + 1)) (ws[j] :: ws.drop (j + 1)) = okA (ks.drop (j + 1)) (ws.drop (j + 1)) := by
        show (okw ks[j] ws[j] && _) = _
        rw [q, Bool.true_and]
      rw [e3]
      exact ⟨i1, i2⟩
    | false =>
      have e3 : okA (ks[j] :: ks.drop (j + 1)) (ws[j] :: ws.drop (j + 1)) = false := by
        show (okw ks[j] ws[j] && _) = _
        rw [q, Bool.false_and]
      rw [e3]
      exact ⟨fun h => (nomatch h), fun _ => rfl⟩
end K26

namespace K26
open PySem PySem.Spec L2 Tv TL
local macro_rules | `(tactic| get_elem_tactic_extensible) => `(tactic| simp only [v_var, v_varB, v_c, v_op, v_un, v_nil, v_cons, v_tup, v_lst, v_test, v_and, v_or, v_not, v_if, v_andV, v_orV, v_notV, v_chain, v_call, v_callF, v_callV, v_isi, v_slice, v_comp, unowned, List.all_cons, List.all_nil, wipeR, and_true, true_and, and_false, false_and, Int.cast_ofNat_Int, v_part, v_noPart, v_fld, v_yes, v_seqI, v_rng1, v_rng2, v_enumI, v_zipI, v_next, v_seq, v_set, v_setO, v_drop, v_ret, v_retN, v_brk, v_cnt, v_ifS, v_frz, v_while, v_for, v_meth, v_setIx, v_cell, v_aug, v_pt, v_par, v_setF, v_fun, v_raise, v_told, v_lamV, v_callL, v_newC, v_setIxE, w_setCell, w_tupC, w_isNotB, w_ix30, w_ix31, w_ix32, w_ixL30, w_ixL31, w_ixL32, w_ixL20, w_ixL21, v_ne_ok, v_loopF_nil, v_compF_nil,
  w_add, Tv.w_sub, w_lt, w_le, w_gt, w_ge, w_neg, w_eqI, w_neI, w_eqB, w_neB, w_is, w_isNot, w_ix20, w_ix21, w_lenT, w_lenL, w_lenZ, w_abs, w_int, w_min, w_max, w_tupT, w_tupL, w_tupZ, kT_int, kT_bl, kT_non, kT_str, kT_tup, kT_lst, k2, Tv.isNon, Pt.run, Pts.run, setM, ownL, baseOk, seqV,
  List.map_cons, List.map_nil, List.cons_append, List.nil_append, List.append_nil, List.replicate_zero, List.replicate_succ, List.length_cons, List.length_nil, List.getElem?_cons_zero, List.getElem?_cons_succ, List.getElem?_nil, List.set_cons_zero, List.set_cons_succ, List.set_nil, Option.some.injEq, ↓reduceIte, reduceCtorEq, decide_true, decide_false, decide_eq_true_eq, Bool.not_true, Bool.not_false, Bool.false_eq_true, Bool.and_true, Bool.true_and, Bool.or_false, Bool.false_or, Bool.or_true, Bool.true_or, Bool.and_false, Bool.false_and, if_true, if_false, String.reduceEq, or_false, or_true, false_or, true_or, Int.reduceLE, Int.reduceLT, Int.reduceNeg, Int.reduceToNat, Int.reduceAdd, Nat.reduceAdd, Nat.reduceLT, Int.reduceSub, Int.reduceMul, Int.reduceEq, Nat.reduceEqDiff, Int.zero_sub, BEq.rfl])
local macro_rules | `(tactic| decreasing_trivial) => `(tactic| simp only [v_var, v_varB, v_c, v_op, v_un, v_nil, v_cons, v_tup, v_lst, v_test, v_and, v_or, v_not, v_if, v_andV, v_orV, v_notV, v_chain, v_call, v_callF, v_callV, v_isi, v_slice, v_comp, unowned, List.all_cons, List.all_nil, wipeR, and_true, true_and, and_false, false_and, Int.cast_ofNat_Int, v_part, v_noPart, v_fld, v_yes, v_seqI, v_rng1, v_rng2, v_enumI, v_zipI, v_next, v_seq, v_set, v_setO, v_drop, v_ret, v_retN, v_brk, v_cnt, v_ifS, v_frz, v_while, v_for, v_meth, v_setIx, v_cell, v_aug, v_pt, v_par, v_setF, v_fun, v_raise, v_told, v_lamV, v_callL, v_newC, v_setIxE, w_setCell, w_tupC, w_isNotB, w_ix30, w_ix31, w_ix32, w_ixL30, w_ixL31, w_ixL32, w_ixL20, w_ixL21, v_ne_ok, v_loopF_nil, v_compF_nil,
  w_add, Tv.w_sub, w_lt, w_le, w_gt, w_ge, w_neg, w_eqI, w_neI, w_eqB, w_neB, w_is, w_isNot, w_ix20, w_ix21, w_lenT, w_lenL, w_lenZ, w_abs, w_int, w_min, w_max, w_tupT, w_tupL, w_tupZ, kT_int, kT_bl, kT_non, kT_str, kT_tup, kT_lst, k2, Tv.isNon, Pt.run, Pts.run, setM, ownL, baseOk, seqV,
  List.map_cons, List.map_nil, List.cons_append, List.nil_append, List.append_nil, List.replicate_zero, List.replicate_succ, List.length_cons, List.length_nil, List.getElem?_cons_zero, List.getElem?_cons_succ, List.getElem?_nil, List.set_cons_zero, List.set_cons_succ, List.set_nil, Option.some.injEq, ↓reduceIte, reduceCtorEq, decide_true, decide_false, decide_eq_true_eq, Bool.not_true, Bool.not_false, Bool.false_eq_true, Bool.and_true, Bool.true_and, Bool.or_false, Bool.false_or, Bool.or_true, Bool.true_or, Bool.and_false, Bool.false_and, if_true, if_false, String.reduceEq, or_false, or_true, false_or, true_or, Int.reduceLE, Int.reduceLT, Int.reduceNeg, Int.reduceToNat, Int.reduceAdd, Nat.reduceAdd, Nat.reduceLT, Int.reduceSub, Int.reduceMul, Int.reduceEq, Nat.reduceEqDiff, Int.zero_sub, BEq.rfl, *])

/-! ### is a text a change -/
theorem v_bm {T : String} {g : D → List D → S → R D} {o : EM} {lm : LM} {ρ : List SD} {s : S} : mBm T g o lm ρ s = match o ρ s with
  | .ok x s1 => (match tyB T x with
    | true => (match lm ρ s1 with
      | .ok ds s2 => g x ds s2
      | .er c ds s => .er c ds s
      | .no => .no)
    | false => .no)
  | .er c ds s => .er c ds s
  | .no => .no := by
  unfold mBm
  cases o ρ s with
  | ok x s1 =>
    show (if tyB T x = true then _ else _) = (match tyB T x with | true => _ | false => _)
    generalize tyB T x = b
    cases b with
    | true =>
      rw [if_pos rfl]
      dsimp only
      cases lm ρ s1 <;> rfl
    | false => rfl
  | er => rfl
  | no => rfl
theorem ty_str {x : Str} : tyB "str" (.str x) = true := rfl
theorem seq_nx {sa sb : SM} {ρ ρ' : List SD} {s s' : S} (h : sa ρ s = .nx ρ' s') : mSeq sa sb ρ s = sb ρ' s' := by
  rw [v_seq, h]
theorem seq_rt {sa sb : SM} {ρ : List SD} {s s' : S} {d : D} (h : sa ρ s = .rt d s') : mSeq sa sb ρ s = .rt d s' := by
  rw [v_seq, h]
def chB (h : Str) (ws : List Str) : Bool := (decide (1 ≤ (txt h ws).length) && decide ((txt h ws).length ≤ 60)) && match frm h with
  | none => false
  | some q => okA q.2 ws
theorem lenS {z : Str} {s : S} (h : z.length ≤ 1000) : gLen [.str z] s = .ok (.int (z.length : Nat)) s := by
  show (if z.length ≤ sizeLine then R.ok (D.int (z.length : Nat)) s else R.no) = _
  rw [if_pos (by rw [sizeLine_eq]; omega)]
theorem fm_len {q : Str × List Str} (h : Fm q) : q.1.length = q.2.length := by
  rw [len_tl, h.1, List.length_map]
theorem t_lchg {h : Str} {ws : List Str} {s : S} (h1 : h ∈ HS) (h2 : ∀ w ∈ ws, w ∈ WS) (hl : ws.length ≤ 6) : F__law_is_change [.str (txt h ws)] s = .ok (.bl (chB h ws)) s := by
  have g1 : ∀ s, gSplit (.str (txt h ws)) [.str " "] s = .ok (.lst (.str h :: ws.map D.str)) s := fun s => g_split h1 h2 hl
  have hb := txt_len h1 h2
  have g2 : ∀ s, gLen [.str (txt h ws)] s = .ok (.int ((txt h ws).length : Nat)) s := fun s => lenS (by omega)
  have ef := e_form h h1 (ws.map D.str)
  have hf := frm_ok h h1
  unfold chB
  generalize txt h ws = T at *
  have el : ∀ s, gLen [.lst (.str h :: ws.map D.str)] s = .ok (.int ((ws.length : Int) + 1)) s := fun s => by
    show R.ok (D.int (((D.str h :: ws.map D.str).length : Nat) : Int)) s = _
    rw [List.length_cons, List.length_map]
    rfl
  unfold F__law_is_change b__law_is_change
  rw [v_fun]
  simp only [List.map_cons, List.map_nil, List.cons_append, List.nil_append, List.replicate_succ, List.replicate_zero]
  rw [seq_nx (show mSet 1 (mBm "str" gSplit (mVar 0) (mCons (mC (.str " ")) mNil)) [.v (.str T), .un, .un, .un, .un, .un, .un] s = .nx [.v (.str T), .v (.lst (.str h :: ws.map D.str)), .un, .un, .un, .un, .un] s by
    simp only [v_set, v_bm, v_var, v_c, v_cons, v_nil, setM, List.getElem?_cons_zero, List.getElem?_cons_succ, List.set_cons_zero, List.set_cons_succ, ty_str, g1])]
  rw [seq_nx (show mSet 2 _ [.v (.str T), .v (.lst (.str h :: ws.map D.str)), .un, .un, .un, .un, .un] s = .nx [.v (.str T), .v (.lst (.str h :: ws.map D.str)), .v dic1, .un, .un, .un, .un] s from rfl)]
  rw [seq_nx (show mSet 3 _ [.v (.str T), .v (.lst (.str h :: ws.map D.str)), .v dic1, .un, .un, .un, .un] s = .nx [.v (.str T), .v (.lst (.str h :: ws.map D.str)), .v dic1, .v dic2, .un, .un, .un] s from rfl)]
  rw [seq_nx (show mSet 4 _ [.v (.str T), .v (.lst (.str h :: ws.map D.str)), .v dic1, .v dic2, .un, .un, .un] s = .nx [.v (.str T), .v (.lst (.str h :: ws.map D.str)), .v dic1, .v dic2, .v (lfD h), .un, .un] s by
    rw [v_set, ef]
    rfl)]
  have c1 : ∀ (x : SD) (s : S), mChain gLe gLe (mC (.int 1)) (mCall gLen (mCons (mVar 0) mNil)) (mC (.int 60)) [.v (.str T), .v (.lst (.str h :: ws.map D.str)), .v dic1, .v dic2, x, .un, .un] s = .ok (.bl (decide (1 ≤ T.length) && decide (T.length ≤ 60))) s := fun x s => by
    simp only [v_chain, v_c, v_call, v_cons, v_nil, v_var, List.getElem?_cons_zero, g2, w_le]
    by_cases a : 1 ≤ T.length
    · have a' : (1 : Int) ≤ (T.length : Nat) := by omega
      have e : decide ((T.length : Int) ≤ 60) = decide (T.length ≤ 60) := by
        by_cases b : T.length ≤ 60
        · rw [decide_eq_true b, decide_eq_true (by omega)]
        · rw [decide_eq_false b, decide_eq_false (by omega)]
      rw [decide_eq_true a, decide_eq_true a', Bool.true_and, ← e]
    · have a' : ¬ (1 : Int) ≤ (T.length : Nat) := by omega
      rw [decide_eq_false a, decide_eq_false a', Bool.false_and]
  have rf : ∀ (ρ : List SD) (s : S), mRet (mC (.bl false)) ρ s = .rt (.bl false) s := fun ρ s => by rw [v_ret, v_c]
  cases hq : frm h with
  | none =>
    have el2 : lfD h = .non := by unfold lfD; rw [hq]
    rw [el2]
    dsimp only
    rw [Bool.and_false]
    rw [seq_rt (d := .bl false) (s' := s)]
    rw [v_ifS]
    simp only [v_or, v_not, v_test, c1]
    cases decide (1 ≤ T.length) && decide (T.length ≤ 60) with
    | false => exact rf _ _
    | true =>
      simp only [v_op, v_var, v_c, List.getElem?_cons_zero, List.getElem?_cons_succ, w_is, Tv.isNon, Bool.not_true]
      exact rf _ _
  | some q =>
    have fq := hf q hq
    have el2 : lfD h = .str q.1 := by unfold lfD; rw [hq]
    rw [el2]
    dsimp only
    have e6 := fq.2.1
    have lq := fm_len fq
    have g3 : ∀ s, gLen [.str q.1] s = .ok (.int (q.2.length : Nat)) s := fun s => by
      rw [lenS (by omega), lq]
    cases hc : decide (1 ≤ T.length) && decide (T.length ≤ 60) with
    | false =>
      rw [Bool.false_and]
      rw [seq_rt (d := .bl false) (s' := s)]
      rw [v_ifS]
      simp only [v_or, v_not, v_test, c1, hc]
      exact rf _ _
    | true =>
      rw [Bool.true_and]
      by_cases hn : q.2.length = ws.length
      · rw [seq_nx (s' := s) (ρ' := [.v (.str T), .v (.lst (.str h :: ws.map D.str)), .v dic1, .v dic2, .v (.str q.1), .un, .un])]
        · obtain ⟨i1, i2⟩ := l_loop (h := h) (t := .v (.str T)) (d1 := .v dic1) (d2 := .v dic2) (s := s) fq.1 fq.2.1 h2 fq.2.2 hn q.2.length 0 .un .un (by omega)
          rw [List.drop_zero, List.drop_zero] at i1 i2
          have r1 : mRng1 (mCons (mCall gLen (mCons (mVar 4) mNil)) mNil) [.v (.str T), .v (.lst (.str h :: ws.map D.str)), .v dic1, .v dic2, .v (.str q.1), .un, .un] s = .ok (from_ 0 q.2.length) s := by
            simp only [v_rng1, v_cons, v_nil, v_call, v_var, List.getElem?_cons_zero, List.getElem?_cons_succ, g3]
            rw [if_pos (by unfold rngOk; rw [decide_eq_true]; omega), ← rng_from]
            rfl
          cases ho : okA q.2 ws with
          | true =>
            obtain ⟨y5, y6, e⟩ := i1 ho
            rw [seq_nx (s' := s) (ρ' := [.v (.str T), .v (.lst (.str h :: ws.map D.str)), .v dic1, .v dic2, .v (.str q.1), y5, y6])]
            · rw [v_ret, v_c]
            · rw [v_for, r1]
              exact e
          | false =>
            rw [seq_rt (d := .bl false) (s' := s)]
            rw [v_for, r1]
            exact i2 ho
        · have hn' : (ws.length : Int) + 1 = (q.2.length : Int) + 1 := by omega
          rw [v_ifS]
          simp only [v_or, v_not, v_test, c1, hc, v_op, v_var, v_c, v_call, v_cons, v_nil, List.getElem?_cons_zero, List.getElem?_cons_succ, w_is, Tv.isNon, el, g3, w_add, w_neI, hn', decide_true, Bool.not_true, v_next]
      · have hn' : ¬ (ws.length : Int) + 1 = (q.2.length : Int) + 1 := by omega
        rw [okA_ne hn, seq_rt (d := .bl false) (s' := s)]
        rw [v_ifS]
        simp only [v_or, v_not, v_test, c1, hc, v_op, v_var, v_c, v_call, v_cons, v_nil, List.getElem?_cons_zero, List.getElem?_cons_succ, w_is, Tv.isNon, el, g3, w_add, w_neI, decide_eq_false hn', Bool.not_true, Bool.not_false]
        exact rf _ _
end K26

namespace K26
open PySem PySem.Spec L2 Tv TL
local macro_rules | `(tactic| get_elem_tactic_extensible) => `(tactic| simp only [v_var, v_varB, v_c, v_op, v_un, v_nil, v_cons, v_tup, v_lst, v_test, v_and, v_or, v_not, v_if, v_andV, v_orV, v_notV, v_chain, v_call, v_callF, v_callV, v_isi, v_slice, v_comp, unowned, List.all_cons, List.all_nil, wipeR, and_true, true_and, and_false, false_and, Int.cast_ofNat_Int, v_part, v_noPart, v_fld, v_yes, v_seqI, v_rng1, v_rng2, v_enumI, v_zipI, v_next, v_seq, v_set, v_setO, v_drop, v_ret, v_retN, v_brk, v_cnt, v_ifS, v_frz, v_while, v_for, v_meth, v_setIx, v_cell, v_aug, v_pt, v_par, v_setF, v_fun, v_raise, v_told, v_lamV, v_callL, v_newC, v_setIxE, w_setCell, w_tupC, w_isNotB, w_ix30, w_ix31, w_ix32, w_ixL30, w_ixL31, w_ixL32, w_ixL20, w_ixL21, v_ne_ok, v_loopF_nil, v_compF_nil,
  w_add, Tv.w_sub, w_lt, w_le, w_gt, w_ge, w_neg, w_eqI, w_neI, w_eqB, w_neB, w_is, w_isNot, w_ix20, w_ix21, w_lenT, w_lenL, w_lenZ, w_abs, w_int, w_min, w_max, w_tupT, w_tupL, w_tupZ, kT_int, kT_bl, kT_non, kT_str, kT_tup, kT_lst, k2, Tv.isNon, Pt.run, Pts.run, setM, ownL, baseOk, seqV,
  List.map_cons, List.map_nil, List.cons_append, List.nil_append, List.append_nil, List.replicate_zero, List.replicate_succ, List.length_cons, List.length_nil, List.getElem?_cons_zero, List.getElem?_cons_succ, List.getElem?_nil, List.set_cons_zero, List.set_cons_succ, List.set_nil, Option.some.injEq, ↓reduceIte, reduceCtorEq, decide_true, decide_false, decide_eq_true_eq, Bool.not_true, Bool.not_false, Bool.false_eq_true, Bool.and_true, Bool.true_and, Bool.or_false, Bool.false_or, Bool.or_true, Bool.true_or, Bool.and_false, Bool.false_and, if_true, if_false, String.reduceEq, or_false, or_true, false_or, true_or, Int.reduceLE, Int.reduceLT, Int.reduceNeg, Int.reduceToNat, Int.reduceAdd, Nat.reduceAdd, Nat.reduceLT, Int.reduceSub, Int.reduceMul, Int.reduceEq, Nat.reduceEqDiff, Int.zero_sub, BEq.rfl])
local macro_rules | `(tactic| decreasing_trivial) => `(tactic| simp only [v_var, v_varB, v_c, v_op, v_un, v_nil, v_cons, v_tup, v_lst, v_test, v_and, v_or, v_not, v_if, v_andV, v_orV, v_notV, v_chain, v_call, v_callF, v_callV, v_isi, v_slice, v_comp, unowned, List.all_cons, List.all_nil, wipeR, and_true, true_and, and_false, false_and, Int.cast_ofNat_Int, v_part, v_noPart, v_fld, v_yes, v_seqI, v_rng1, v_rng2, v_enumI, v_zipI, v_next, v_seq, v_set, v_setO, v_drop, v_ret, v_retN, v_brk, v_cnt, v_ifS, v_frz, v_while, v_for, v_meth, v_setIx, v_cell, v_aug, v_pt, v_par, v_setF, v_fun, v_raise, v_told, v_lamV, v_callL, v_newC, v_setIxE, w_setCell, w_tupC, w_isNotB, w_ix30, w_ix31, w_ix32, w_ixL30, w_ixL31, w_ixL32, w_ixL20, w_ixL21, v_ne_ok, v_loopF_nil, v_compF_nil,
  w_add, Tv.w_sub, w_lt, w_le, w_gt, w_ge, w_neg, w_eqI, w_neI, w_eqB, w_neB, w_is, w_isNot, w_ix20, w_ix21, w_lenT, w_lenL, w_lenZ, w_abs, w_int, w_min, w_max, w_tupT, w_tupL, w_tupZ, kT_int, kT_bl, kT_non, kT_str, kT_tup, kT_lst, k2, Tv.isNon, Pt.run, Pts.run, setM, ownL, baseOk, seqV,
  List.map_cons, List.map_nil, List.cons_append, List.nil_append, List.append_nil, List.replicate_zero, List.replicate_succ, List.length_cons, List.length_nil, List.getElem?_cons_zero, List.getElem?_cons_succ, List.getElem?_nil, List.set_cons_zero, List.set_cons_succ, List.set_nil, Option.some.injEq, ↓reduceIte, reduceCtorEq, decide_true, decide_false, decide_eq_true_eq, Bool.not_true, Bool.not_false, Bool.false_eq_true, Bool.and_true, Bool.true_and, Bool.or_false, Bool.false_or, Bool.or_true, Bool.true_or, Bool.and_false, Bool.false_and, if_true, if_false, String.reduceEq, or_false, or_true, false_or, true_or, Int.reduceLE, Int.reduceLT, Int.reduceNeg, Int.reduceToNat, Int.reduceAdd, Nat.reduceAdd, Nat.reduceLT, Int.reduceSub, Int.reduceMul, Int.reduceEq, Nat.reduceEqDiff, Int.zero_sub, BEq.rfl, *])

theorem cut1 (d : D) (l : List D) : cutD (d :: l) (some 1) none = l := by
  unfold cutD HT.sIx
  simp
theorem g_cut {d : D} {l : List D} {s : S} : gSliceA (.lst (d :: l)) (some 1) none s = .ok (.lst l) s := by
  show R.ok (D.lst (cutD (d :: l) (some 1) none)) s = _
  rw [cut1]
theorem lk : ∀ h ∈ HS, d_FORMS.lookup h = (frm h).map fun q => D.tup (q.2.map D.str) := by
  apply hsC <;> kernel_rfl
theorem t_wordof : ∀ w ∈ WS, ∀ k ∈ KS, ∀ s, F_is_word_of [.str w, .str k] s = .ok (.bl (okw k w)) s := by
  intro w hw
  have f1 := t_name w hw
  have f2 := t_num w hw
  have f3 := t_sig w hw
  have e1 : ∀ s : S, gEq (.str "name") (.str "name") s = .ok (.bl true) s := fun s => by kernel_rfl
  have e2 : ∀ s : S, gEq (.str "number") (.str "name") s = .ok (.bl false) s := fun s => by kernel_rfl
  have e3 : ∀ s : S, gEq (.str "signed") (.str "name") s = .ok (.bl false) s := fun s => by kernel_rfl
  have e4 : ∀ s : S, gEq (.str "number") (.str "number") s = .ok (.bl true) s := fun s => by kernel_rfl
  have e5 : ∀ s : S, gEq (.str "signed") (.str "number") s = .ok (.bl false) s := fun s => by kernel_rfl
  apply ksC
  · intro s
    unfold F_is_word_of b_is_word_of
    simp only [v_fun, List.map_cons, List.map_nil, List.replicate_zero, List.append_nil, v_seq, v_ifS, v_test, v_op, v_var, v_c, List.getElem?_cons_zero, List.getElem?_cons_succ, e1, v_ret, v_callF, v_cons, v_nil, f1]
    rfl
  · intro s
    unfold F_is_word_of b_is_word_of
    simp only [v_fun, List.map_cons, List.map_nil, List.replicate_zero, List.append_nil, v_seq, v_ifS, v_test, v_op, v_var, v_c, List.getElem?_cons_zero, List.getElem?_cons_succ, e2, e4, v_ret, v_if, v_next, v_callF, v_cons, v_nil, f2]
    rfl
  · intro s
    unfold F_is_word_of b_is_word_of
    simp only [v_fun, List.map_cons, List.map_nil, List.replicate_zero, List.append_nil, v_seq, v_ifS, v_test, v_op, v_var, v_c, List.getElem?_cons_zero, List.getElem?_cons_succ, e3, e5, v_ret, v_if, v_next, v_callF, v_cons, v_nil, f3]
    rfl
theorem zip_map (ws ks : List Str) : zipD (ws.map D.str) (ks.map D.str) = List.zipWith (fun w k => D.tup [.str w, .str k]) ws ks := by
  unfold zipD
  rw [List.zipWith_map]
theorem comp_zip {te : EM} {f : Str → Str → D} {a0 a1 a2 : SD} : ∀ {ws ks : List Str} {s : S}, (∀ w ∈ ws, ∀ k ∈ ks, ∀ s, te [a0, a1, a2, .v (.str w), .v (.str k)] s = .ok (f w k) s) → compF (.tp (.cons (.nm 3) (.cons (.nm 4) .nil))) mYes te [a0, a1, a2, .un, .un] (List.zipWith (fun w k => D.tup [.str w, .str k]) ws ks) s = .ok (List.zipWith f ws ks) s
  | [], _, _, _ => by
    rw [List.zipWith_nil_left, List.zipWith_nil_left]
    rfl
  | _ :: _, [], _, _ => rfl
  | w :: ws, k :: ks, s, h => by
    rw [List.zipWith_cons_cons, List.zipWith_cons_cons]
    have r := comp_zip (te := te) (f := f) (a0 := a0) (a1 := a1) (a2 := a2) (ws := ws) (ks := ks) (s := s) fun w hw k hk => h w (List.mem_cons_of_mem _ hw) k (List.mem_cons_of_mem _ hk)
    have e := h w List.mem_cons_self k List.mem_cons_self s
    rw [v_compF]
    have pr : Pt.run (.tp (.cons (.nm 3) (.cons (.nm 4) .nil))) (D.tup [.str w, .str k]) [a0, a1, a2, .un, .un] = some [a0, a1, a2, .v (.str w), .v (.str k)] := rfl
    rw [pr]
    dsimp only
    rw [v_yes]
    dsimp only
    rw [e]
    dsimp only
    rw [r]
theorem bls_zip : ∀ (ws ks : List Str), bls (List.zipWith (fun w k => D.bl (okw k w)) ws ks) = some (List.zipWith (fun w k => okw k w) ws ks)
  | [], _ => by rw [List.zipWith_nil_left, List.zipWith_nil_left]; rfl
  | _ :: _, [] => rfl
  | w :: ws, k :: ks => by
    rw [List.zipWith_cons_cons, List.zipWith_cons_cons]
    show (bls (List.zipWith (fun w k => D.bl (okw k w)) ws ks)).map _ = _
    rw [bls_zip ws ks]
    rfl
theorem all_zip : ∀ (ws ks : List Str), ks.length = ws.length → (List.zipWith (fun w k => okw k w) ws ks).all id = okA ks ws
  | [], [], _ => rfl
  | w :: ws, k :: ks, h => by
    rw [List.zipWith_cons_cons, List.all_cons, all_zip ws ks (by simpa using h)]
    rfl
  | [], _ :: _, h => by cases h
  | _ :: _, [], h => by cases h
theorem t_chg {h : Str} {ws : List Str} {s : S} (h1 : h ∈ HS) (h2 : ∀ w ∈ ws, w ∈ WS) (hl : ws.length ≤ 6) : F_is_change [.str (txt h ws)] s = .ok (.bl (chB h ws)) s := by
  have g1 : ∀ s, gSplit (.str (txt h ws)) [.str " "] s = .ok (.lst (.str h :: ws.map D.str)) s := fun s => g_split h1 h2 hl
  have hb := txt_len h1 h2
  have g2 : ∀ s, gLen [.str (txt h ws)] s = .ok (.int ((txt h ws).length : Nat)) s := fun s => lenS (by omega)
  have hf := frm_ok h h1
  have hlk := lk h h1
  unfold chB
  generalize txt h ws = T at *
  have el : ∀ s, gLen [.lst (.str h :: ws.map D.str)] s = .ok (.int ((ws.length : Int) + 1)) s := fun s => by
    show R.ok (D.int (((D.str h :: ws.map D.str).length : Nat) : Int)) s = _
    rw [List.length_cons, List.length_map]
    rfl
  unfold F_is_change b_is_change
  rw [v_fun]
  simp only [List.map_cons, List.map_nil, List.cons_append, List.nil_append, List.replicate_succ, List.replicate_zero]
  have c1 : ∀ s, mChain gLe gLe (mC (.int 1)) (mCall gLen (mCons (mVar 0) mNil)) (mC (.int 60)) [.v (.str T), .un, .un, .un, .un] s = .ok (.bl (decide (1 ≤ T.length) && decide (T.length ≤ 60))) s := fun s => by
    simp only [v_chain, v_c, v_call, v_cons, v_nil, v_var, List.getElem?_cons_zero, g2, w_le]
    by_cases a : 1 ≤ T.length
    · have a' : (1 : Int) ≤ (T.length : Nat) := by omega
      have e : decide ((T.length : Int) ≤ 60) = decide (T.length ≤ 60) := by
        by_cases b : T.length ≤ 60
        · rw [decide_eq_true b, decide_eq_true (by omega)]
        · rw [decide_eq_false b, decide_eq_false (by omega)]
      rw [decide_eq_true a, decide_eq_true a', Bool.true_and, ← e]
    · have a' : ¬ (1 : Int) ≤ (T.length : Nat) := by omega
      rw [decide_eq_false a, decide_eq_false a', Bool.false_and]
  have rf : ∀ (ρ : List SD) (s : S), mRet (mC (.bl false)) ρ s = .rt (.bl false) s := fun ρ s => by rw [v_ret, v_c]
  have i1 : ∀ s, gIsi (kTy cs "str") (mVar 0) [.v (.str T), .un, .un, .un, .un] s = .ok (.bl true) s := fun s => by
    simp only [v_isi, v_var, List.getElem?_cons_zero, kT_str, decide_true]
  cases hc : decide (1 ≤ T.length) && decide (T.length ≤ 60) with
  | false =>
    rw [Bool.false_and, seq_rt (d := .bl false) (s' := s)]
    rw [v_ifS]
    simp only [v_or, v_not, v_test, i1, c1, hc, Bool.not_true, Bool.not_false]
    exact rf _ _
  | true =>
    rw [Bool.true_and, seq_nx (s' := s) (ρ' := [.v (.str T), .un, .un, .un, .un])]
    · rw [seq_nx (s' := s) (ρ' := [.v (.str T), .v (.lst (.str h :: ws.map D.str)), .un, .un, .un])]
      · have w0 : ∀ (x y z : SD) (s : S), mOp gIx (mVar 1) (mC (.int 0)) [.v (.str T), .v (.lst (.str h :: ws.map D.str)), x, y, z] s = .ok (.str h) s := fun x y z s => by
          simp only [v_op, v_var, v_c, List.getElem?_cons_zero, List.getElem?_cons_succ, ix0]
        cases hq : frm h with
        | none =>
          rw [hq] at hlk
          rw [seq_rt (d := .bl false) (s' := s)]
          rw [v_ifS, v_test]
          have e : gNotInK d_FORMS (mOp gIx (mVar 1) (mC (.int 0))) [.v (.str T), .v (.lst (.str h :: ws.map D.str)), .un, .un, .un] s = .ok (.bl true) s := by
            unfold gNotInK
            rw [w0]
            show R.ok (D.bl (!(d_FORMS.lookup h).isSome)) s = _
            rw [hlk]
            rfl
          rw [e]
          exact rf _ _
        | some q =>
          rw [hq] at hlk
          have fq := hf q hq
          have e6 := fq.2.1
          rw [seq_nx (s' := s) (ρ' := [.v (.str T), .v (.lst (.str h :: ws.map D.str)), .un, .un, .un])]
          · rw [seq_nx (s' := s) (ρ' := [.v (.str T), .v (.lst (.str h :: ws.map D.str)), .v (.tup (q.2.map D.str)), .un, .un])]
            · rw [v_ret, v_andV]
              simp only [v_op, v_var, v_c, v_call, v_cons, v_nil, List.getElem?_cons_zero, List.getElem?_cons_succ, el, w_lenT, List.length_map, w_add, w_eqI]
              by_cases hn : q.2.length = ws.length
              · have hn' : (ws.length : Int) + 1 = (q.2.length : Int) + 1 := by omega
                have zi : ∀ s, mZipI (mCons (mSlice gSliceA (mVar 1) (mPart (mC (.int 1))) mNoPart) (mCons (mVar 2) mNil)) [.v (.str T), .v (.lst (.str h :: ws.map D.str)), .v (.tup (q.2.map D.str)), .un, .un] s = .ok (List.zipWith (fun w k => D.tup [.str w, .str k]) ws q.2) s := fun s => by
                  simp only [v_zipI, v_cons, v_nil, v_slice, v_part, v_noPart, v_var, v_c, List.getElem?_cons_zero, List.getElem?_cons_succ, g_cut, seqV, zip_map]
                have cz := comp_zip (te := e_is_change_1) (f := fun w k => .bl (okw k w)) (a0 := .v (.str T)) (a1 := .v (.lst (.str h :: ws.map D.str))) (a2 := .v (.tup (q.2.map D.str))) (ws := ws) (ks := q.2) (s := s) fun w hw k hk s => by
                  unfold e_is_change_1
                  simp only [v_callF, v_cons, v_nil, v_var, List.getElem?_cons_zero, List.getElem?_cons_succ]
                  exact t_wordof w (h2 w hw) k (fq.2.2 k hk) s
                rw [decide_eq_true hn']
                simp only [v_comp, zi]
                rw [if_pos ⟨rfl, by
                  rw [List.length_zipWith, sizeLine_eq]
                  omega⟩]
                have ew : wipeR [.v (.str T), .v (.lst (.str h :: ws.map D.str)), .v (.tup (q.2.map D.str)), .un, .un] [3, 4] = [.v (.str T), .v (.lst (.str h :: ws.map D.str)), .v (.tup (q.2.map D.str)), .un, .un] := rfl
                rw [ew, cz]
                show (match (match (match bls (List.zipWith (fun w k => D.bl (okw k w)) ws q.2) with | some bs => R.ok (D.bl (bs.all id)) s | none => R.no) with | .ok d s' => SR.rt d s' | .er c ds s' => _ | .no => _) with | .nx ρ s' => _ | .rt d s' => R.ok d s' | .er c es ρ s' => _ | .bk ρ s => _ | .ct ρ s => _ | .no => _) = _
                rw [bls_zip]
                dsimp only
                rw [all_zip _ _ hn]
              · have hn' : ¬ (ws.length : Int) + 1 = (q.2.length : Int) + 1 := by omega
                rw [decide_eq_false hn', okA_ne hn]
            · rw [v_set]
              have e : gGetK d_FORMS (mOp gIx (mVar 1) (mC (.int 0))) [.v (.str T), .v (.lst (.str h :: ws.map D.str)), .un, .un, .un] s = .ok (.tup (q.2.map D.str)) s := by
                unfold gGetK
                rw [w0]
                show (match d_FORMS.lookup h with | some d => R.ok d s | none => R.no) = _
                rw [hlk]
                rfl
              rw [e]
              rfl
          · rw [v_ifS, v_test]
            have e : gNotInK d_FORMS (mOp gIx (mVar 1) (mC (.int 0))) [.v (.str T), .v (.lst (.str h :: ws.map D.str)), .un, .un, .un] s = .ok (.bl false) s := by
              unfold gNotInK
              rw [w0]
              show R.ok (D.bl (!(d_FORMS.lookup h).isSome)) s = _
              rw [hlk]
              rfl
            rw [e]
            rfl
      · simp only [v_set, v_bm, v_var, v_c, v_cons, v_nil, setM, List.getElem?_cons_zero, List.getElem?_cons_succ, List.set_cons_zero, List.set_cons_succ, ty_str, g1]
    · rw [v_ifS]
      simp only [v_or, v_not, v_test, i1, c1, hc, Bool.not_true, v_next]
end K26

namespace K26
open PySem PySem.Spec L2 Tv TL
local macro_rules | `(tactic| get_elem_tactic_extensible) => `(tactic| simp only [v_var, v_varB, v_c, v_op, v_un, v_nil, v_cons, v_tup, v_lst, v_test, v_and, v_or, v_not, v_if, v_andV, v_orV, v_notV, v_chain, v_call, v_callF, v_callV, v_isi, v_slice, v_comp, unowned, List.all_cons, List.all_nil, wipeR, and_true, true_and, and_false, false_and, Int.cast_ofNat_Int, v_part, v_noPart, v_fld, v_yes, v_seqI, v_rng1, v_rng2, v_enumI, v_zipI, v_next, v_seq, v_set, v_setO, v_drop, v_ret, v_retN, v_brk, v_cnt, v_ifS, v_frz, v_while, v_for, v_meth, v_setIx, v_cell, v_aug, v_pt, v_par, v_setF, v_fun, v_raise, v_told, v_lamV, v_callL, v_newC, v_setIxE, w_setCell, w_tupC, w_isNotB, w_ix30, w_ix31, w_ix32, w_ixL30, w_ixL31, w_ixL32, w_ixL20, w_ixL21, v_ne_ok, v_loopF_nil, v_compF_nil,
  w_add, Tv.w_sub, w_lt, w_le, w_gt, w_ge, w_neg, w_eqI, w_neI, w_eqB, w_neB, w_is, w_isNot, w_ix20, w_ix21, w_lenT, w_lenL, w_lenZ, w_abs, w_int, w_min, w_max, w_tupT, w_tupL, w_tupZ, kT_int, kT_bl, kT_non, kT_str, kT_tup, kT_lst, k2, Tv.isNon, Pt.run, Pts.run, setM, ownL, baseOk, seqV,
  List.map_cons, List.map_nil, List.cons_append, List.nil_append, List.append_nil, List.replicate_zero, List.replicate_succ, List.length_cons, List.length_nil, List.getElem?_cons_zero, List.getElem?_cons_succ, List.getElem?_nil, List.set_cons_zero, List.set_cons_succ, List.set_nil, Option.some.injEq, ↓reduceIte, reduceCtorEq, decide_true, decide_false, decide_eq_true_eq, Bool.not_true, Bool.not_false, Bool.false_eq_true, Bool.and_true, Bool.true_and, Bool.or_false, Bool.false_or, Bool.or_true, Bool.true_or, Bool.and_false, Bool.false_and, if_true, if_false, String.reduceEq, or_false, or_true, false_or, true_or, Int.reduceLE, Int.reduceLT, Int.reduceNeg, Int.reduceToNat, Int.reduceAdd, Nat.reduceAdd, Nat.reduceLT, Int.reduceSub, Int.reduceMul, Int.reduceEq, Nat.reduceEqDiff, Int.zero_sub, BEq.rfl])
local macro_rules | `(tactic| decreasing_trivial) => `(tactic| simp only [v_var, v_varB, v_c, v_op, v_un, v_nil, v_cons, v_tup, v_lst, v_test, v_and, v_or, v_not, v_if, v_andV, v_orV, v_notV, v_chain, v_call, v_callF, v_callV, v_isi, v_slice, v_comp, unowned, List.all_cons, List.all_nil, wipeR, and_true, true_and, and_false, false_and, Int.cast_ofNat_Int, v_part, v_noPart, v_fld, v_yes, v_seqI, v_rng1, v_rng2, v_enumI, v_zipI, v_next, v_seq, v_set, v_setO, v_drop, v_ret, v_retN, v_brk, v_cnt, v_ifS, v_frz, v_while, v_for, v_meth, v_setIx, v_cell, v_aug, v_pt, v_par, v_setF, v_fun, v_raise, v_told, v_lamV, v_callL, v_newC, v_setIxE, w_setCell, w_tupC, w_isNotB, w_ix30, w_ix31, w_ix32, w_ixL30, w_ixL31, w_ixL32, w_ixL20, w_ixL21, v_ne_ok, v_loopF_nil, v_compF_nil,
  w_add, Tv.w_sub, w_lt, w_le, w_gt, w_ge, w_neg, w_eqI, w_neI, w_eqB, w_neB, w_is, w_isNot, w_ix20, w_ix21, w_lenT, w_lenL, w_lenZ, w_abs, w_int, w_min, w_max, w_tupT, w_tupL, w_tupZ, kT_int, kT_bl, kT_non, kT_str, kT_tup, kT_lst, k2, Tv.isNon, Pt.run, Pts.run, setM, ownL, baseOk, seqV,
  List.map_cons, List.map_nil, List.cons_append, List.nil_append, List.append_nil, List.replicate_zero, List.replicate_succ, List.length_cons, List.length_nil, List.getElem?_cons_zero, List.getElem?_cons_succ, List.getElem?_nil, List.set_cons_zero, List.set_cons_succ, List.set_nil, Option.some.injEq, ↓reduceIte, reduceCtorEq, decide_true, decide_false, decide_eq_true_eq, Bool.not_true, Bool.not_false, Bool.false_eq_true, Bool.and_true, Bool.true_and, Bool.or_false, Bool.false_or, Bool.or_true, Bool.true_or, Bool.and_false, Bool.false_and, if_true, if_false, String.reduceEq, or_false, or_true, false_or, true_or, Int.reduceLE, Int.reduceLT, Int.reduceNeg, Int.reduceToNat, Int.reduceAdd, Nat.reduceAdd, Nat.reduceLT, Int.reduceSub, Int.reduceMul, Int.reduceEq, Nat.reduceEqDiff, Int.zero_sub, BEq.rfl, *])

/-! ### texts of few signs, shown -/
def asc (x : Str) : Prop := ∀ d ∈ tl x, d < 128
theorem asc_app {x y : Str} (hx : asc x) (hy : asc y) : asc (x ++ y) := fun d hd => by
  rw [tl_append] at hd
  rcases List.mem_append.mp hd with h | h
  · exact hx d h
  · exact hy d h
theorem asc_join {y : Str} (hy : asc y) : ∀ {ps : List Str}, (∀ p ∈ ps, asc p) → asc (Str.join y ps)
  | [], _ => fun d hd => by cases hd
  | [p], h => h p List.mem_cons_self
  | p :: q :: r, h => asc_app (asc_app (h p List.mem_cons_self) hy) (asc_join hy fun z hz => h z (List.mem_cons_of_mem _ hz))
theorem ws_asc : ∀ w ∈ WS, asc w := by apply wsC <;> (unfold asc; decide +kernel)
theorem hs_asc : ∀ w ∈ HS, asc w := by apply hsC <;> (unfold asc; decide +kernel)
theorem txt_asc {h : Str} {ws : List Str} (h1 : h ∈ HS) (h2 : ∀ w ∈ ws, w ∈ WS) : asc (txt h ws) := by
  unfold txt
  rw [join_eq]
  refine asc_join (by unfold asc; decide +kernel) fun p hp => ?_
  rcases List.mem_cons.mp hp with rfl | hp
  · exact hs_asc _ h1
  · exact ws_asc _ (h2 _ hp)
theorem shaped_str {x : Str} (h : asc x) : SeqAt.shaped (.str x) = true := by
  have : PyData.strOk x = true := by
    unfold PyData.strOk
    rw [← Array.all_toList, List.all_eq_true]
    intro d hd
    have := h d hd
    rw [decide_eq_true_eq]
    omega
  show (PyData.strOk x && decide (0 ≤ 64)) = true
  rw [this]
  rfl
theorem char_asc : ∀ q ∈ [34, 39], ∀ c < 128, ∀ d ∈ Builtin.Str.reprChar q c, d < 128 := by decide +kernel
theorem fold_asc {q : Nat} (hq : q ∈ [34, 39]) : ∀ (l : List Nat) (acc : Array Nat), (∀ c ∈ l, c < 128) → (∀ c ∈ acc.toList, c < 128) → ∀ d ∈ (l.foldl (fun out c => out ++ (Builtin.Str.reprChar q c).toArray) acc).toList, d < 128
  | [], acc, _, ha, d, hd => ha d hd
  | c :: l, acc, hl, ha, d, hd => by
    rw [List.foldl_cons] at hd
    refine fold_asc hq l _ (fun z hz => hl z (List.mem_cons_of_mem _ hz)) (fun z hz => ?_) d hd
    rw [Array.toList_append] at hz
    rcases List.mem_append.mp hz with h | h
    · exact ha z h
    · exact char_asc q hq c (hl c List.mem_cons_self) z h
theorem repr_asc {x : Str} (h : asc x) : asc (reprText x) := by
  unfold reprText
  intro d hd
  have hq : reprQuote x ∈ [34, 39] := by
    unfold reprQuote
    split <;> simp
  have e : tl ⟨(x.cps.foldl (fun out c => out ++ (Builtin.Str.reprChar (reprQuote x) c).toArray) #[reprQuote x]).push (reprQuote x)⟩ = (x.cps.toList.foldl (fun out c => out ++ (Builtin.Str.reprChar (reprQuote x) c).toArray) #[reprQuote x]).toList ++ [reprQuote x] := by
    show (Array.push (x.cps.foldl (fun out c => out ++ (Builtin.Str.reprChar (reprQuote x) c).toArray) #[reprQuote x]) (reprQuote x)).toList = _
    rw [Array.toList_push, ← Array.foldl_toList]
  have lt : reprQuote x < 128 := by
    have : reprQuote x = 34 ∨ reprQuote x = 39 := by simpa using hq
    omega
  rw [e] at hd
  rcases List.mem_append.mp hd with k | k
  · exact fold_asc hq _ _ h (fun c hc => by
      have : c = reprQuote x := by simpa using hc
      rw [this]
      exact lt) d k
  · rw [List.mem_singleton.mp k]
    exact lt
end K26

namespace K26
open PySem PySem.Spec L2 Tv TL
local macro_rules | `(tactic| get_elem_tactic_extensible) => `(tactic| simp only [v_var, v_varB, v_c, v_op, v_un, v_nil, v_cons, v_tup, v_lst, v_test, v_and, v_or, v_not, v_if, v_andV, v_orV, v_notV, v_chain, v_call, v_callF, v_callV, v_isi, v_slice, v_comp, unowned, List.all_cons, List.all_nil, wipeR, and_true, true_and, and_false, false_and, Int.cast_ofNat_Int, v_part, v_noPart, v_fld, v_yes, v_seqI, v_rng1, v_rng2, v_enumI, v_zipI, v_next, v_seq, v_set, v_setO, v_drop, v_ret, v_retN, v_brk, v_cnt, v_ifS, v_frz, v_while, v_for, v_meth, v_setIx, v_cell, v_aug, v_pt, v_par, v_setF, v_fun, v_raise, v_told, v_lamV, v_callL, v_newC, v_setIxE, w_setCell, w_tupC, w_isNotB, w_ix30, w_ix31, w_ix32, w_ixL30, w_ixL31, w_ixL32, w_ixL20, w_ixL21, v_ne_ok, v_loopF_nil, v_compF_nil,
  w_add, Tv.w_sub, w_lt, w_le, w_gt, w_ge, w_neg, w_eqI, w_neI, w_eqB, w_neB, w_is, w_isNot, w_ix20, w_ix21, w_lenT, w_lenL, w_lenZ, w_abs, w_int, w_min, w_max, w_tupT, w_tupL, w_tupZ, kT_int, kT_bl, kT_non, kT_str, kT_tup, kT_lst, k2, Tv.isNon, Pt.run, Pts.run, setM, ownL, baseOk, seqV,
  List.map_cons, List.map_nil, List.cons_append, List.nil_append, List.append_nil, List.replicate_zero, List.replicate_succ, List.length_cons, List.length_nil, List.getElem?_cons_zero, List.getElem?_cons_succ, List.getElem?_nil, List.set_cons_zero, List.set_cons_succ, List.set_nil, Option.some.injEq, ↓reduceIte, reduceCtorEq, decide_true, decide_false, decide_eq_true_eq, Bool.not_true, Bool.not_false, Bool.false_eq_true, Bool.and_true, Bool.true_and, Bool.or_false, Bool.false_or, Bool.or_true, Bool.true_or, Bool.and_false, Bool.false_and, if_true, if_false, String.reduceEq, or_false, or_true, false_or, true_or, Int.reduceLE, Int.reduceLT, Int.reduceNeg, Int.reduceToNat, Int.reduceAdd, Nat.reduceAdd, Nat.reduceLT, Int.reduceSub, Int.reduceMul, Int.reduceEq, Nat.reduceEqDiff, Int.zero_sub, BEq.rfl])
local macro_rules | `(tactic| decreasing_trivial) => `(tactic| simp only [v_var, v_varB, v_c, v_op, v_un, v_nil, v_cons, v_tup, v_lst, v_test, v_and, v_or, v_not, v_if, v_andV, v_orV, v_notV, v_chain, v_call, v_callF, v_callV, v_isi, v_slice, v_comp, unowned, List.all_cons, List.all_nil, wipeR, and_true, true_and, and_false, false_and, Int.cast_ofNat_Int, v_part, v_noPart, v_fld, v_yes, v_seqI, v_rng1, v_rng2, v_enumI, v_zipI, v_next, v_seq, v_set, v_setO, v_drop, v_ret, v_retN, v_brk, v_cnt, v_ifS, v_frz, v_while, v_for, v_meth, v_setIx, v_cell, v_aug, v_pt, v_par, v_setF, v_fun, v_raise, v_told, v_lamV, v_callL, v_newC, v_setIxE, w_setCell, w_tupC, w_isNotB, w_ix30, w_ix31, w_ix32, w_ixL30, w_ixL31, w_ixL32, w_ixL20, w_ixL21, v_ne_ok, v_loopF_nil, v_compF_nil,
  w_add, Tv.w_sub, w_lt, w_le, w_gt, w_ge, w_neg, w_eqI, w_neI, w_eqB, w_neB, w_is, w_isNot, w_ix20, w_ix21, w_lenT, w_lenL, w_lenZ, w_abs, w_int, w_min, w_max, w_tupT, w_tupL, w_tupZ, kT_int, kT_bl, kT_non, kT_str, kT_tup, kT_lst, k2, Tv.isNon, Pt.run, Pts.run, setM, ownL, baseOk, seqV,
  List.map_cons, List.map_nil, List.cons_append, List.nil_append, List.append_nil, List.replicate_zero, List.replicate_succ, List.length_cons, List.length_nil, List.getElem?_cons_zero, List.getElem?_cons_succ, List.getElem?_nil, List.set_cons_zero, List.set_cons_succ, List.set_nil, Option.some.injEq, ↓reduceIte, reduceCtorEq, decide_true, decide_false, decide_eq_true_eq, Bool.not_true, Bool.not_false, Bool.false_eq_true, Bool.and_true, Bool.true_and, Bool.or_false, Bool.false_or, Bool.or_true, Bool.true_or, Bool.and_false, Bool.false_and, if_true, if_false, String.reduceEq, or_false, or_true, false_or, true_or, Int.reduceLE, Int.reduceLT, Int.reduceNeg, Int.reduceToNat, Int.reduceAdd, Nat.reduceAdd, Nat.reduceLT, Int.reduceSub, Int.reduceMul, Int.reduceEq, Nat.reduceEqDiff, Int.zero_sub, BEq.rfl, *])

/-! ### the same -/
theorem eqD_refl {d : D} {p : PyData} (h : d.py = some p) (hs : SeqAt.shaped p = true) : eqD d d = some true := by
  unfold eqD
  rw [h]
  dsimp only
  rw [if_pos ⟨hs, hs⟩]
  have hc : p.canLay0 = true := by
    have h' : (p.canLay0 && decide (p.depth ≤ 64)) = true := hs
    exact (Bool.and_eq_true_iff.mp h').1
  rw [SeqAt.eqv_refl p hc]
theorem strOk_asc {x : Str} (h : asc x) : PyData.strOk x = true := by
  have := shaped_str h
  have h' : (PyData.strOk x && decide (0 ≤ 64)) = true := this
  exact (Bool.and_eq_true_iff.mp h').1
/-- told with a text -/
def tdP (x : Str) : PyData := .tuple [.str "told", .str x]
theorem td_asc {x : Str} (h : asc x) : asc (tdP x).shown := by
  unfold tdP
  rw [PyData.shown_tuple]
  refine asc_app (asc_app (by unfold asc; decide +kernel) ?_) (by show asc (")" : Str); unfold asc; decide +kernel)
  refine asc_join (by unfold asc; decide +kernel) fun p hp => ?_
  rw [PyData.shownAll_cons, PyData.shownAll_cons, PyData.shownAll_nil, PyData.shown_str, PyData.shown_str] at hp
  rcases List.mem_cons.mp hp with rfl | hp
  · exact repr_asc (by unfold asc; decide +kernel)
  · rcases List.mem_cons.mp hp with rfl | hp
    · exact repr_asc h
    · cases hp
theorem told_weight (x : Str) : (tdP x).weight ≤ x.length + 100 := by
  unfold tdP
  simp only [PyData.weight, PyData.weightAll]
  have e1 : ("told" : Str).cps.size = 4 := by decide
  have e2 : x.cps.size = x.length := rfl
  omega
theorem same_told {x : Str} {s : S} (h : asc x) (hl : x.length ≤ 1000) : F__law_same [.tup [.str "told", .str x], .tup [.str "told", .str x]] s = .ok (.bl true) s := by
  have hx : ∀ s, gRepr [.tup [.str "told", .str x]] s = .ok (.str (tdP x).shown) s := fun s => by
    unfold gRepr
    have : D.py (.tup [.str "told", .str x]) = some (tdP x) := rfl
    dsimp only
    rw [this]
    dsimp only
    have hs : (tdP x).shown.length ≤ sizeLine := by
      refine PyData.shown_fits (B := 8) (by omega) (by omega) ?_ ?_
      · unfold tdP
        simp only [PyData.leavesShort, PyData.leavesShortAll, Bool.and_true, Bool.and_eq_true]
        refine ⟨by decide +kernel, ?_⟩
        rw [List.all_eq_true]
        intro c hc
        have := h c hc
        rw [decide_eq_true_eq]
        omega
      · have := told_weight x
        omega
    rw [if_pos ⟨rfl, rfl, rfl, by show 1 + max 0 (max 0 0) ≤ 40; decide, hs⟩]
  have e2 : ∀ s, gEq (.str (tdP x).shown) (.str (tdP x).shown) s = .ok (.bl true) s := fun s => w_eq (eqD_refl rfl (shaped_str (td_asc h)))
  generalize (tdP x).shown = y at *
  unfold F__law_same b__law_same
  clear h hl
  decreasing_trivial
def bcP : PyData := .tuple [.str "BadChange", .none]
theorem same_bad {s : S} : F__law_same [.tup [.str "BadChange", .non], .tup [.str "BadChange", .non]] s = .ok (.bl true) s := by
  have hx : ∀ s, gRepr [.tup [.str "BadChange", .non]] s = .ok (.str bcP.shown) s := fun s => by
    unfold gRepr
    have : D.py (.tup [.str "BadChange", .non]) = some bcP := rfl
    dsimp only
    rw [this]
    dsimp only
    rw [if_pos ⟨rfl, by decide +kernel, by decide +kernel, by decide +kernel, by rw [sizeLine_eq]; decide +kernel⟩]
  have e2 : ∀ s, gEq (.str bcP.shown) (.str bcP.shown) s = .ok (.bl true) s := fun s => w_eq (eqD_refl rfl (by decide +kernel))
  generalize bcP.shown = x at *
  unfold F__law_same b__law_same
  decreasing_trivial
def bcP3 : PyData := .list [bcP, bcP, bcP]
theorem same_bad3 {s : S} : F__law_same [.lst [.tup [.str "BadChange", .non], .tup [.str "BadChange", .non], .tup [.str "BadChange", .non]], .lst [.tup [.str "BadChange", .non], .tup [.str "BadChange", .non], .tup [.str "BadChange", .non]]] s = .ok (.bl true) s := by
  have hx : ∀ s, gRepr [.lst [.tup [.str "BadChange", .non], .tup [.str "BadChange", .non], .tup [.str "BadChange", .non]]] s = .ok (.str bcP3.shown) s := fun s => by
    unfold gRepr
    have : D.py (.lst [.tup [.str "BadChange", .non], .tup [.str "BadChange", .non], .tup [.str "BadChange", .non]]) = some bcP3 := rfl
    dsimp only
    rw [this]
    dsimp only
    rw [if_pos ⟨rfl, by decide +kernel, by decide +kernel, by decide +kernel, by rw [sizeLine_eq]; decide +kernel⟩]
  have e2 : ∀ s, gEq (.str bcP3.shown) (.str bcP3.shown) s = .ok (.bl true) s := fun s => w_eq (eqD_refl rfl (by decide +kernel))
  generalize bcP3.shown = x at *
  unfold F__law_same b__law_same
  decreasing_trivial
/-! ### told in a line -/
def thD (w : Str) : D := if siB w then .int (vlI w) else .str w
theorem th_ok : ∀ w ∈ WS, ∀ k ∈ KS, okw k w = true → (if k = ("name" : Str) then D.str w else .int (vlI w)) = thD w := by
  intro w hw
  apply ksC
  · intro h
    have h2 := nm_si w hw h
    unfold thD
    rw [h2]
    rfl
  · intro h
    have h2 := nu_si h
    unfold thD
    rw [h2]
    rfl
  · intro h
    have h2 : siB w = true := h
    unfold thD
    rw [h2]
    rfl
theorem compZ {te : EM} {f : Str → Str → D} {a0 a1 a2 : SD} : ∀ {ws ks : List Str} {s : S}, (∀ p ∈ List.zip ws ks, ∀ s, te [a0, a1, a2, .v (.str p.1), .v (.str p.2)] s = .ok (f p.1 p.2) s) → compF (.tp (.cons (.nm 3) (.cons (.nm 4) .nil))) mYes te [a0, a1, a2, .un, .un] (List.zipWith (fun w k => D.tup [.str w, .str k]) ws ks) s = .ok (List.zipWith f ws ks) s
  | [], _, _, _ => by
    rw [List.zipWith_nil_left, List.zipWith_nil_left]
    rfl
  | _ :: _, [], _, _ => rfl
  | w :: ws, k :: ks, s, h => by
    rw [List.zipWith_cons_cons, List.zipWith_cons_cons]
    have r := compZ (te := te) (f := f) (a0 := a0) (a1 := a1) (a2 := a2) (ws := ws) (ks := ks) (s := s) fun p hp => h p (List.mem_cons_of_mem _ hp)
    have e := h (w, k) List.mem_cons_self s
    rw [v_compF]
    have pr : Pt.run (.tp (.cons (.nm 3) (.cons (.nm 4) .nil))) (D.tup [.str w, .str k]) [a0, a1, a2, .un, .un] = some [a0, a1, a2, .v (.str w), .v (.str k)] := rfl
    rw [pr]
    dsimp only
    rw [v_yes]
    dsimp only
    dsimp only at e
    rw [e]
    dsimp only
    rw [r]
theorem th_zip : ∀ (ws ks : List Str), okA ks ws = true → (∀ w ∈ ws, w ∈ WS) → (∀ k ∈ ks, k ∈ KS) → List.zipWith (fun (w k : Str) => if k = "name" then D.str w else .int (vlI w)) ws ks = ws.map thD
  | [], [], _, _, _ => rfl
  | w :: ws, k :: ks, h, h1, h2 => by
    obtain ⟨a, b⟩ := Bool.and_eq_true_iff.mp (show (okw k w && okA ks ws) = true from h)
    rw [List.zipWith_cons_cons, List.map_cons, th_zip ws ks b (fun w hw => h1 w (List.mem_cons_of_mem _ hw)) (fun w hw => h2 w (List.mem_cons_of_mem _ hw)), th_ok w (h1 w List.mem_cons_self) k (h2 k List.mem_cons_self) a]
  | [], _ :: _, h, _, _ => by cases h
  | _ :: _, [], h, _, _ => by cases h
theorem ok_zip : ∀ (ws ks : List Str), okA ks ws = true → ∀ p ∈ List.zip ws ks, okw p.2 p.1 = true
  | [], [], _, p, hp => by cases hp
  | w :: ws, k :: ks, h, p, hp => by
    obtain ⟨a, b⟩ := Bool.and_eq_true_iff.mp (show (okw k w && okA ks ws) = true from h)
    rcases List.mem_cons.mp hp with rfl | hp
    · exact a
    · exact ok_zip ws ks b p hp
  | [], _ :: _, h, _, _ => by cases h
  | _ :: _, [], h, _, _ => by cases h
theorem ok_si : ∀ w ∈ WS, ∀ k ∈ KS, okw k w = true → k ≠ "name" → siB w = true := by
  intro w hw
  apply ksC
  · intro _ h
    exact absurd rfl h
  · intro h _
    exact nu_si h
  · intro h _
    exact h
theorem t_told {h : Str} {ws : List Str} {s : S} (h1 : h ∈ HS) (h2 : ∀ w ∈ ws, w ∈ WS) (hl : ws.length ≤ 6) (hc : chB h ws = true) : F_told_in [.str (txt h ws)] s = .ok (.tup [.str h, .tup (ws.map thD)]) s := by
  have g1 : ∀ s, gSplit (.str (txt h ws)) [.str " "] s = .ok (.lst (.str h :: ws.map D.str)) s := fun s => g_split h1 h2 hl
  have hf := frm_ok h h1
  have hlk := lk h h1
  have hc2 := (Bool.and_eq_true_iff.mp hc).2
  cases hq : frm h with
  | none =>
    rw [hq] at hc2
    cases hc2
  | some q =>
    rw [hq] at hlk hc2
    have fq := hf q hq
    have hc3 : okA q.2 ws = true := hc2
    generalize txt h ws = T at *
    unfold F_told_in b_told_in
    rw [v_fun]
    simp only [List.map_cons, List.map_nil, List.cons_append, List.nil_append, List.replicate_succ, List.replicate_zero]
    have w0 : ∀ (x y z : SD) (s : S), mOp gIx (mVar 1) (mC (.int 0)) [.v (.str T), .v (.lst (.str h :: ws.map D.str)), x, y, z] s = .ok (.str h) s := fun x y z s => by
      simp only [v_op, v_var, v_c, List.getElem?_cons_zero, List.getElem?_cons_succ, ix0]
    rw [seq_nx (s' := s) (ρ' := [.v (.str T), .v (.lst (.str h :: ws.map D.str)), .un, .un, .un])]
    · rw [seq_nx (s' := s) (ρ' := [.v (.str T), .v (.lst (.str h :: ws.map D.str)), .v (.tup (q.2.map D.str)), .un, .un])]
      · rw [v_ret, v_tup, v_cons, w0]
        dsimp only
        rw [v_cons, v_call, v_cons]
        have zi : ∀ s, mZipI (mCons (mSlice gSliceA (mVar 1) (mPart (mC (.int 1))) mNoPart) (mCons (mVar 2) mNil)) [.v (.str T), .v (.lst (.str h :: ws.map D.str)), .v (.tup (q.2.map D.str)), .un, .un] s = .ok (List.zipWith (fun w k => D.tup [.str w, .str k]) ws q.2) s := fun s => by
          simp only [v_zipI, v_cons, v_nil, v_slice, v_part, v_noPart, v_var, v_c, List.getElem?_cons_zero, List.getElem?_cons_succ, g_cut, seqV, zip_map]
        have cz := compZ (te := e_told_in_1) (f := fun (w k : Str) => if k = "name" then D.str w else .int (vlI w)) (a0 := .v (.str T)) (a1 := .v (.lst (.str h :: ws.map D.str))) (a2 := .v (.tup (q.2.map D.str))) (ws := ws) (ks := q.2) (s := s) fun p hp s => by
          have ok := ok_zip ws q.2 hc3 p hp
          obtain ⟨m1, m2⟩ := List.of_mem_zip hp
          have hw := h2 _ m1
          have hk := fq.2.2 _ m2
          have hi := t_int p.1 hw
          have hs := ok_si p.1 hw p.2 hk ok
          obtain ⟨w, k⟩ := p
          dsimp only at *
          have en : gEq (.str k) (.str "name") s = .ok (.bl (decide (k = "name"))) s := by
            revert hk
            clear hs ok hp m1 m2
            revert k
            intro k hk
            revert k
            apply ksC <;> kernel_rfl
          unfold e_told_in_1
          simp only [v_if, v_test, v_op, v_call, v_cons, v_nil, v_var, v_c, List.getElem?_cons_zero, List.getElem?_cons_succ, en]
          by_cases e : k = "name"
          · rw [decide_eq_true e, if_pos e]
          · rw [decide_eq_false e, if_neg e, hi (hs e)]
        rw [v_comp, zi]
        dsimp only
        rw [if_pos ⟨rfl, by
          rw [List.length_zipWith, sizeLine_eq]
          omega⟩]
        have ew : wipeR [.v (.str T), .v (.lst (.str h :: ws.map D.str)), .v (.tup (q.2.map D.str)), .un, .un] [3, 4] = [.v (.str T), .v (.lst (.str h :: ws.map D.str)), .v (.tup (q.2.map D.str)), .un, .un] := rfl
        rw [ew, cz, th_zip ws q.2 hc3 h2 fq.2.2]
        rfl
      · rw [v_set]
        have e : gGetK d_FORMS (mOp gIx (mVar 1) (mC (.int 0))) [.v (.str T), .v (.lst (.str h :: ws.map D.str)), .un, .un, .un] s = .ok (.tup (q.2.map D.str)) s := by
          unfold gGetK
          rw [w0]
          show (match d_FORMS.lookup h with | some d => R.ok d s | none => R.no) = _
          rw [hlk]
          rfl
        rw [e]
        rfl
    · simp only [v_set, v_bm, v_var, v_c, v_cons, v_nil, setM, List.getElem?_cons_zero, List.getElem?_cons_succ, List.set_cons_zero, List.set_cons_succ, ty_str, g1]
end K26

namespace K26
open PySem PySem.Spec L2 Tv TL
local macro_rules | `(tactic| get_elem_tactic_extensible) => `(tactic| simp only [v_var, v_varB, v_c, v_op, v_un, v_nil, v_cons, v_tup, v_lst, v_test, v_and, v_or, v_not, v_if, v_andV, v_orV, v_notV, v_chain, v_call, v_callF, v_callV, v_isi, v_slice, v_comp, unowned, List.all_cons, List.all_nil, wipeR, and_true, true_and, and_false, false_and, Int.cast_ofNat_Int, v_part, v_noPart, v_fld, v_yes, v_seqI, v_rng1, v_rng2, v_enumI, v_zipI, v_next, v_seq, v_set, v_setO, v_drop, v_ret, v_retN, v_brk, v_cnt, v_ifS, v_frz, v_while, v_for, v_meth, v_setIx, v_cell, v_aug, v_pt, v_par, v_setF, v_fun, v_raise, v_told, v_lamV, v_callL, v_newC, v_setIxE, w_setCell, w_tupC, w_isNotB, w_ix30, w_ix31, w_ix32, w_ixL30, w_ixL31, w_ixL32, w_ixL20, w_ixL21, v_ne_ok, v_loopF_nil, v_compF_nil,
  w_add, Tv.w_sub, w_lt, w_le, w_gt, w_ge, w_neg, w_eqI, w_neI, w_eqB, w_neB, w_is, w_isNot, w_ix20, w_ix21, w_lenT, w_lenL, w_lenZ, w_abs, w_int, w_min, w_max, w_tupT, w_tupL, w_tupZ, kT_int, kT_bl, kT_non, kT_str, kT_tup, kT_lst, k2, Tv.isNon, Pt.run, Pts.run, setM, ownL, baseOk, seqV,
  List.map_cons, List.map_nil, List.cons_append, List.nil_append, List.append_nil, List.replicate_zero, List.replicate_succ, List.length_cons, List.length_nil, List.getElem?_cons_zero, List.getElem?_cons_succ, List.getElem?_nil, List.set_cons_zero, List.set_cons_succ, List.set_nil, Option.some.injEq, ↓reduceIte, reduceCtorEq, decide_true, decide_false, decide_eq_true_eq, Bool.not_true, Bool.not_false, Bool.false_eq_true, Bool.and_true, Bool.true_and, Bool.or_false, Bool.false_or, Bool.or_true, Bool.true_or, Bool.and_false, Bool.false_and, if_true, if_false, String.reduceEq, or_false, or_true, false_or, true_or, Int.reduceLE, Int.reduceLT, Int.reduceNeg, Int.reduceToNat, Int.reduceAdd, Nat.reduceAdd, Nat.reduceLT, Int.reduceSub, Int.reduceMul, Int.reduceEq, Nat.reduceEqDiff, Int.zero_sub, BEq.rfl])
local macro_rules | `(tactic| decreasing_trivial) => `(tactic| simp only [v_var, v_varB, v_c, v_op, v_un, v_nil, v_cons, v_tup, v_lst, v_test, v_and, v_or, v_not, v_if, v_andV, v_orV, v_notV, v_chain, v_call, v_callF, v_callV, v_isi, v_slice, v_comp, unowned, List.all_cons, List.all_nil, wipeR, and_true, true_and, and_false, false_and, Int.cast_ofNat_Int, v_part, v_noPart, v_fld, v_yes, v_seqI, v_rng1, v_rng2, v_enumI, v_zipI, v_next, v_seq, v_set, v_setO, v_drop, v_ret, v_retN, v_brk, v_cnt, v_ifS, v_frz, v_while, v_for, v_meth, v_setIx, v_cell, v_aug, v_pt, v_par, v_setF, v_fun, v_raise, v_told, v_lamV, v_callL, v_newC, v_setIxE, w_setCell, w_tupC, w_isNotB, w_ix30, w_ix31, w_ix32, w_ixL30, w_ixL31, w_ixL32, w_ixL20, w_ixL21, v_ne_ok, v_loopF_nil, v_compF_nil,
  w_add, Tv.w_sub, w_lt, w_le, w_gt, w_ge, w_neg, w_eqI, w_neI, w_eqB, w_neB, w_is, w_isNot, w_ix20, w_ix21, w_lenT, w_lenL, w_lenZ, w_abs, w_int, w_min, w_max, w_tupT, w_tupL, w_tupZ, kT_int, kT_bl, kT_non, kT_str, kT_tup, kT_lst, k2, Tv.isNon, Pt.run, Pts.run, setM, ownL, baseOk, seqV,
  List.map_cons, List.map_nil, List.cons_append, List.nil_append, List.append_nil, List.replicate_zero, List.replicate_succ, List.length_cons, List.length_nil, List.getElem?_cons_zero, List.getElem?_cons_succ, List.getElem?_nil, List.set_cons_zero, List.set_cons_succ, List.set_nil, Option.some.injEq, ↓reduceIte, reduceCtorEq, decide_true, decide_false, decide_eq_true_eq, Bool.not_true, Bool.not_false, Bool.false_eq_true, Bool.and_true, Bool.true_and, Bool.or_false, Bool.false_or, Bool.or_true, Bool.true_or, Bool.and_false, Bool.false_and, if_true, if_false, String.reduceEq, or_false, or_true, false_or, true_or, Int.reduceLE, Int.reduceLT, Int.reduceNeg, Int.reduceToNat, Int.reduceAdd, Nat.reduceAdd, Nat.reduceLT, Int.reduceSub, Int.reduceMul, Int.reduceEq, Nat.reduceEqDiff, Int.zero_sub, BEq.rfl, *])

theorem str_th : ∀ w ∈ WS, ∀ s, gStr [thD w] s = .ok (.str w) s := by
  intro w hw s
  unfold thD
  cases h : siB w with
  | true => exact t_str w hw h s
  | false => rfl
theorem depthAll_le1 : ∀ {ps : List PyData}, (∀ p ∈ ps, p.depth = 0) → PyData.depthAll ps ≤ 1
  | [], _ => Nat.zero_le _
  | p :: ps, h => by
    have h1 := h p List.mem_cons_self
    have h2 := depthAll_le1 (ps := ps) fun q hq => h q (List.mem_cons_of_mem _ hq)
    unfold PyData.depthAll
    omega
def thP (w : Str) : PyData := if siB w then .int (vlI w) else .str w
theorem th_py : ∀ (w : Str), (thD w).py = some (thP w) := by
  intro w
  unfold thD thP
  cases siB w <;> rfl
theorem ths_py : ∀ (ws : List Str), D.pys (ws.map thD) = some (ws.map thP)
  | [] => rfl
  | w :: ws => by
    rw [List.map_cons, List.map_cons, D.pys, th_py, ths_py ws]
theorem th_lay : ∀ (ws : List Str), (∀ w ∈ ws, w ∈ WS) → PyData.canLayAll0 (ws.map thP) = true
  | [], _ => rfl
  | w :: ws, h => by
    rw [List.map_cons, PyData.canLayAll0, th_lay ws fun z hz => h z (List.mem_cons_of_mem _ hz)]
    unfold thP
    cases siB w with
    | true => rfl
    | false =>
      show (PyData.strOk w && true) = true
      rw [strOk_asc (ws_asc w (h w List.mem_cons_self))]
      rfl
theorem th_eq {h : Str} {ws : List Str} (h1 : h ∈ HS) (h2 : ∀ w ∈ ws, w ∈ WS) : eqD (.tup [.str h, .tup (ws.map thD)]) (.tup [.str h, .tup (ws.map thD)]) = some true := by
  refine eqD_refl (p := .tuple [.str h, .tuple (ws.map thP)]) ?_ ?_
  · have : D.py (.tup (ws.map thD)) = some (.tuple (ws.map thP)) := by
      rw [D.py, ths_py]
      rfl
    rw [D.py, D.pys, D.pys, D.pys, this]
    rfl
  · show (PyData.canLay0 _ && decide (PyData.depth _ ≤ 64)) = true
    have d1 := depthAll_le1 (ps := ws.map thP) fun p hp => by
      obtain ⟨w, _, rfl⟩ := List.mem_map.mp hp
      unfold thP
      cases siB w <;> rfl
    rw [Bool.and_eq_true]
    refine ⟨?_, ?_⟩
    · show (PyData.strOk h && (PyData.canLayAll0 (ws.map thP) && true)) = true
      rw [strOk_asc (hs_asc h h1), th_lay ws h2]
      rfl
    · rw [decide_eq_true_eq]
      simp only [PyData.depth, PyData.depthAll]
      omega
theorem t_line {h : Str} {ws : List Str} {s : S} (h1 : h ∈ HS) (h2 : ∀ w ∈ ws, w ∈ WS) (hl : ws.length ≤ 6) : F_change_line [.str h, .tup (ws.map thD)] s = if chB h ws then .ok (.str (txt h ws)) s else .er 7 [.non] s := by
  have gj : ∀ s, gJoin (.str " ") [.lst (.str h :: ws.map D.str)] s = .ok (.str (txt h ws)) s := fun s => g_join h1 h2 hl
  have gc : ∀ s, F_is_change [.str (txt h ws)] s = .ok (.bl (chB h ws)) s := fun s => t_chg h1 h2 hl
  have gt : chB h ws = true → ∀ s, F_told_in [.str (txt h ws)] s = .ok (.tup [.str h, .tup (ws.map thD)]) s := fun hc s => t_told h1 h2 hl hc
  have te := th_eq h1 h2
  have en : ∀ s, gNe (.tup [.str h, .tup (ws.map thD)]) (.tup [.str h, .tup (ws.map thD)]) s = .ok (.bl false) s := fun s => w_ne te
  have cm : ∀ s, compF (.nm 3) mYes e_change_line_1 [.v (.str h), .v (.tup (ws.map thD)), .un, .un] (ws.map thD) s = .ok (ws.map D.str) s := fun s => compF_mapL thD D.str ws fun w hw => ⟨_, rfl, by
    have := str_th w (h2 w hw)
    unfold e_change_line_1
    simp only [v_call, v_cons, v_nil, v_var, setM, List.set_cons_zero, List.set_cons_succ, List.getElem?_cons_zero, List.getElem?_cons_succ, this]⟩
  have ga : ∀ s, gAddA (.lst [.str h]) (.lst (ws.map D.str)) s = .ok (.lst (.str h :: ws.map D.str)) s := fun s => by
    show (if [D.str h].length + (ws.map D.str).length ≤ sizeLine then _ else _) = _
    rw [if_pos (by rw [List.length_map, sizeLine_eq]; simp only [List.length_cons, List.length_nil]; omega)]
    rfl
  have hz : ((ws.map thD).length ≤ sizeLine) = True := eq_true (by rw [List.length_map, sizeLine_eq]; omega)
  unfold F_change_line b_change_line
  rw [v_fun]
  simp only [List.map_cons, List.map_nil, List.cons_append, List.nil_append, List.replicate_succ, List.replicate_zero]
  rw [seq_nx (s' := s) (ρ' := [.v (.str h), .v (.tup (ws.map thD)), .un, .un])]
  · rw [seq_nx (s' := s) (ρ' := [.v (.str h), .v (.tup (ws.map thD)), .v (.str (txt h ws)), .un])]
    · cases hc : chB h ws with
      | true =>
        have gt := gt hc
        rw [hc] at gc
        simp only [v_seq, v_ifS, v_or, v_not, v_test, v_callF, v_cons, v_nil, v_op, v_tup, v_var, List.getElem?_cons_zero, List.getElem?_cons_succ, gc, gt, en, Bool.not_true, v_next, v_ret, if_true]
      | false =>
        rw [hc] at gc
        simp only [v_seq, v_ifS, v_or, v_not, v_test, v_callF, v_cons, v_nil, v_op, v_tup, v_var, v_c, List.getElem?_cons_zero, List.getElem?_cons_succ, gc, en, Bool.not_false, v_next, v_raise, Bool.false_eq_true, if_false]
    · simp only [v_set, v_bm, v_var, v_c, v_cons, v_nil, v_op, v_lst, v_comp, v_seqI, seqV, wipeR, unowned, List.all_cons, List.all_nil, Bool.and_true, and_true, setM, List.getElem?_cons_zero, List.getElem?_cons_succ, List.set_cons_zero, List.set_cons_succ, ty_str, hz, if_true, cm, ga, gj]
  · simp only [v_ifS, v_or, v_not, v_test, v_isi, v_var, List.getElem?_cons_zero, List.getElem?_cons_succ, kT_str, kT_tup, decide_true, Bool.not_true, v_next]
end K26

namespace K26
open PySem PySem.Spec L2 Tv TL
local macro_rules | `(tactic| get_elem_tactic_extensible) => `(tactic| simp only [v_var, v_varB, v_c, v_op, v_un, v_nil, v_cons, v_tup, v_lst, v_test, v_and, v_or, v_not, v_if, v_andV, v_orV, v_notV, v_chain, v_call, v_callF, v_callV, v_isi, v_slice, v_comp, unowned, List.all_cons, List.all_nil, wipeR, and_true, true_and, and_false, false_and, Int.cast_ofNat_Int, v_part, v_noPart, v_fld, v_yes, v_seqI, v_rng1, v_rng2, v_enumI, v_zipI, v_next, v_seq, v_set, v_setO, v_drop, v_ret, v_retN, v_brk, v_cnt, v_ifS, v_frz, v_while, v_for, v_meth, v_setIx, v_cell, v_aug, v_pt, v_par, v_setF, v_fun, v_raise, v_told, v_lamV, v_callL, v_newC, v_setIxE, w_setCell, w_tupC, w_isNotB, w_ix30, w_ix31, w_ix32, w_ixL30, w_ixL31, w_ixL32, w_ixL20, w_ixL21, v_ne_ok, v_loopF_nil, v_compF_nil,
  w_add, Tv.w_sub, w_lt, w_le, w_gt, w_ge, w_neg, w_eqI, w_neI, w_eqB, w_neB, w_is, w_isNot, w_ix20, w_ix21, w_lenT, w_lenL, w_lenZ, w_abs, w_int, w_min, w_max, w_tupT, w_tupL, w_tupZ, kT_int, kT_bl, kT_non, kT_str, kT_tup, kT_lst, k2, Tv.isNon, Pt.run, Pts.run, setM, ownL, baseOk, seqV,
  List.map_cons, List.map_nil, List.cons_append, List.nil_append, List.append_nil, List.replicate_zero, List.replicate_succ, List.length_cons, List.length_nil, List.getElem?_cons_zero, List.getElem?_cons_succ, List.getElem?_nil, List.set_cons_zero, List.set_cons_succ, List.set_nil, Option.some.injEq, ↓reduceIte, reduceCtorEq, decide_true, decide_false, decide_eq_true_eq, Bool.not_true, Bool.not_false, Bool.false_eq_true, Bool.and_true, Bool.true_and, Bool.or_false, Bool.false_or, Bool.or_true, Bool.true_or, Bool.and_false, Bool.false_and, if_true, if_false, String.reduceEq, or_false, or_true, false_or, true_or, Int.reduceLE, Int.reduceLT, Int.reduceNeg, Int.reduceToNat, Int.reduceAdd, Nat.reduceAdd, Nat.reduceLT, Int.reduceSub, Int.reduceMul, Int.reduceEq, Nat.reduceEqDiff, Int.zero_sub, BEq.rfl])
local macro_rules | `(tactic| decreasing_trivial) => `(tactic| simp only [v_var, v_varB, v_c, v_op, v_un, v_nil, v_cons, v_tup, v_lst, v_test, v_and, v_or, v_not, v_if, v_andV, v_orV, v_notV, v_chain, v_call, v_callF, v_callV, v_isi, v_slice, v_comp, unowned, List.all_cons, List.all_nil, wipeR, and_true, true_and, and_false, false_and, Int.cast_ofNat_Int, v_part, v_noPart, v_fld, v_yes, v_seqI, v_rng1, v_rng2, v_enumI, v_zipI, v_next, v_seq, v_set, v_setO, v_drop, v_ret, v_retN, v_brk, v_cnt, v_ifS, v_frz, v_while, v_for, v_meth, v_setIx, v_cell, v_aug, v_pt, v_par, v_setF, v_fun, v_raise, v_told, v_lamV, v_callL, v_newC, v_setIxE, w_setCell, w_tupC, w_isNotB, w_ix30, w_ix31, w_ix32, w_ixL30, w_ixL31, w_ixL32, w_ixL20, w_ixL21, v_ne_ok, v_loopF_nil, v_compF_nil,
  w_add, Tv.w_sub, w_lt, w_le, w_gt, w_ge, w_neg, w_eqI, w_neI, w_eqB, w_neB, w_is, w_isNot, w_ix20, w_ix21, w_lenT, w_lenL, w_lenZ, w_abs, w_int, w_min, w_max, w_tupT, w_tupL, w_tupZ, kT_int, kT_bl, kT_non, kT_str, kT_tup, kT_lst, k2, Tv.isNon, Pt.run, Pts.run, setM, ownL, baseOk, seqV,
  List.map_cons, List.map_nil, List.cons_append, List.nil_append, List.append_nil, List.replicate_zero, List.replicate_succ, List.length_cons, List.length_nil, List.getElem?_cons_zero, List.getElem?_cons_succ, List.getElem?_nil, List.set_cons_zero, List.set_cons_succ, List.set_nil, Option.some.injEq, ↓reduceIte, reduceCtorEq, decide_true, decide_false, decide_eq_true_eq, Bool.not_true, Bool.not_false, Bool.false_eq_true, Bool.and_true, Bool.true_and, Bool.or_false, Bool.false_or, Bool.or_true, Bool.true_or, Bool.and_false, Bool.false_and, if_true, if_false, String.reduceEq, or_false, or_true, false_or, true_or, Int.reduceLE, Int.reduceLT, Int.reduceNeg, Int.reduceToNat, Int.reduceAdd, Nat.reduceAdd, Nat.reduceLT, Int.reduceSub, Int.reduceMul, Int.reduceEq, Nat.reduceEqDiff, Int.zero_sub, BEq.rfl, *])

/-! ### a turn -/
def wl : List D := [.str "a", .str "ann", .str "abcdefghi", .str "1", .str "0", .str "12", .str "99999", .str "100000", .str "01", .str "", .str "A", .str "-", .str "-1", .str "-0", .str "-01", .str "1", .str "2"]
def cl : List D := [.int 0, .int 0, .int 1, .int 1, .int 2, .int 2, .int 3, .int 3, .int 4, .int 4, .int 6]
def hl : List D := [.str "lamp", .str "knot", .str "flat", .str "levels", .str "ink", .str "target", .str "entry", .str "add", .str "swap", .str "clip", .str "drop", .str "curves", .str "push", .str "Swap", .str "", .str "undo"]
theorem wl_mem {d : D} (h : d ∈ wl) : ∃ w ∈ WS, d = .str w := by
  simp only [wl, List.mem_cons, List.not_mem_nil, or_false] at h
  rcases h with rfl | rfl | rfl | rfl | rfl | rfl | rfl | rfl | rfl | rfl | rfl | rfl | rfl | rfl | rfl | rfl | rfl <;> exact ⟨_, by decide +kernel, rfl⟩
theorem hl_mem {d : D} (h : d ∈ hl) : ∃ w ∈ HS, d = .str w := by
  simp only [hl, List.mem_cons, List.not_mem_nil, or_false] at h
  rcases h with rfl | rfl | rfl | rfl | rfl | rfl | rfl | rfl | rfl | rfl | rfl | rfl | rfl | rfl | rfl | rfl <;> exact ⟨_, by decide +kernel, rfl⟩
theorem cl_mem {d : D} (h : d ∈ cl) : ∃ n : Nat, n ≤ 6 ∧ d = .int (n : Int) := by
  simp only [cl, List.mem_cons, List.not_mem_nil, or_false] at h
  rcases h with rfl | rfl | rfl | rfl | rfl | rfl | rfl | rfl | rfl | rfl | rfl
  · exact ⟨0, by omega, rfl⟩
  · exact ⟨0, by omega, rfl⟩
  · exact ⟨1, by omega, rfl⟩
  · exact ⟨1, by omega, rfl⟩
  · exact ⟨2, by omega, rfl⟩
  · exact ⟨2, by omega, rfl⟩
  · exact ⟨3, by omega, rfl⟩
  · exact ⟨3, by omega, rfl⟩
  · exact ⟨4, by omega, rfl⟩
  · exact ⟨4, by omega, rfl⟩
  · exact ⟨6, by omega, rfl⟩
theorem app_ok {l : List D} {d : D} (h : l.length ≤ 1000) : oAppend l [d] = some (.non, l ++ [d]) := by
  show (if l.length < sizeLine then some (D.non, l ++ [d]) else none) = _
  rw [if_pos (by rw [sizeLine_eq]; omega)]
theorem words {ns : List Int} {h : Str} : ∀ (m j : Nat) (ws : List Str) (s : S) (a0 a2 a3 a5 a6 a7 a8 a9 a10 : SD), Rw ns s → (∀ w ∈ ws, w ∈ WS) → ws.length + m ≤ 6 → ∃ (vs : List Str) (b5 : SD) (s' : S), loopF (.nm 5) l_law_1 (from_ j m) [a0, .v (.cell 1), a2, a3, .own (.lst (.str h :: ws.map D.str)), a5, a6, a7, a8, a9, a10, .un] s = .nx [a0, .v (.cell 1), a2, a3, .own (.lst (.str h :: vs.map D.str)), b5, a6, a7, a8, a9, a10, .un] s' ∧ (∀ w ∈ vs, w ∈ WS) ∧ vs.length ≤ 6 ∧ Rw ns s'
  | 0, j, ws, s, a0, a2, a3, a5, a6, a7, a8, a9, a10, h1, h2, h3 => ⟨ws, a5, s, rfl, h2, by omega, h1⟩
  | m + 1, j, ws, s, a0, a2, a3, a5, a6, a7, a8, a9, a10, h1, h2, h3 => by
    obtain ⟨d, s1, e, hd, h4⟩ := t_pick (ds := wl) h1 (by decide) (by decide)
    obtain ⟨w, hw, rfl⟩ := wl_mem hd
    obtain ⟨vs, b5, s2, e2, h5, h6, h7⟩ := words (h := h) m (j + 1) (ws ++ [w]) s1 a0 a2 a3 (.v (.int (j : Int))) a6 a7 a8 a9 a10 h4 (fun z hz => by
      rcases List.mem_append.mp hz with hz | hz
      · exact h2 z hz
      · rw [List.mem_singleton.mp hz]
        exact hw) (by rw [List.length_append, List.length_singleton]; omega)
    refine ⟨vs, b5, s2, ?_, h5, h6, h7⟩
    have run : loopF (.nm 5) l_law_1 (from_ j (m + 1)) [a0, .v (.cell 1), a2, a3, .own (.lst (.str h :: ws.map D.str)), a5, a6, a7, a8, a9, a10, .un] s = match l_law_1 [a0, .v (.cell 1), a2, a3, .own (.lst (.str h :: ws.map D.str)), .v (.int (j : Int)), a6, a7, a8, a9, a10, .un] s with
      | .nx ρ' s' => loopF (.nm 5) l_law_1 (from_ (j + 1) m) ρ' s'
      | .ct ρ' s' => loopF (.nm 5) l_law_1 (from_ (j + 1) m) ρ' s'
      | .bk ρ' s' => .nx ρ' s'
      | .rt d s' => .rt d s'
      | .er k e ρ' s' => .er k e ρ' s'
      | .no => .no := rfl
    rw [run]
    have ap : oAppend (.str h :: ws.map D.str) [.str w] = some (.non, .str h :: (ws ++ [w]).map D.str) := by
      rw [app_ok (by simp only [List.length_cons, List.length_map]; omega), List.map_append]
      rfl
    have st : l_law_1 [a0, .v (.cell 1), a2, a3, .own (.lst (.str h :: ws.map D.str)), .v (.int (j : Int)), a6, a7, a8, a9, a10, .un] s = .nx [a0, .v (.cell 1), a2, a3, .own (.lst (.str h :: (ws ++ [w]).map D.str)), .v (.int (j : Int)), a6, a7, a8, a9, a10, .un] s1 := by
      unfold wl at e
      unfold l_law_1
      clear e2 h1 h4 hd run h2 h3 h5 h6 h7 hw
      decreasing_trivial
    rw [st]
    exact e2
theorem alikeB (n : Nat) (b : Bool) (s : S) : F__law_alike (n + 1) [.bl b, .bl b] s = .ok (.bl true) s := by
  cases b <;> kernel_rfl
theorem turn {ns : List Int} {s : S} {a0 a3 a4 a5 a6 a7 a8 a9 a10 : SD} (h : Rw ns s) : ∃ (b4 b5 b6 b7 b8 : SD) (s' : S), l_law_2 [a0, .v (.cell 1), .v (.lst hl), a3, a4, a5, a6, a7, a8, a9, a10, .un] s = .nx [a0, .v (.cell 1), .v (.lst hl), a3, b4, b5, b6, b7, b8, a9, a10, .un] s' ∧ Rw ns s' := by
  obtain ⟨d, s1, e1, hd, r1⟩ := t_pick (ds := hl) h (by decide) (by decide)
  obtain ⟨hh, mh, rfl⟩ := hl_mem hd
  obtain ⟨d, s2, e2, hd2, r2⟩ := t_pick (ds := cl) r1 (by decide) (by decide)
  obtain ⟨n, hn, rfl⟩ := cl_mem hd2
  obtain ⟨ws, b5, s3, e3, mw, lw, r3⟩ := words (h := hh) n 0 [] s2 a0 (.v (.lst hl)) a3 a5 a6 a7 a8 a9 a10 r2 (by simp) (by simpa using hn)
  unfold l_law_2
  rw [seq_nx (s' := s1) (ρ' := [a0, .v (.cell 1), .v (.lst hl), a3, .own (.lst [.str hh]), a5, a6, a7, a8, a9, a10, .un])]
  · rw [seq_nx (s' := s3) (ρ' := [a0, .v (.cell 1), .v (.lst hl), a3, .own (.lst (.str hh :: ws.map D.str)), b5, a6, a7, a8, a9, a10, .un])]
    · have gj : ∀ s, gJoin (.str " ") [.lst (.str hh :: ws.map D.str)] s = .ok (.str (txt hh ws)) s := fun s => g_join mh mw lw
      rw [seq_nx (s' := s3) (ρ' := [a0, .v (.cell 1), .v (.lst hl), a3, .own (.lst (.str hh :: ws.map D.str)), b5, .v (.str (txt hh ws)), a7, a8, a9, a10, .un])]
      · have gl : ∀ s, F__law_is_change [.str (txt hh ws)] s = .ok (.bl (chB hh ws)) s := fun s => t_lchg mh mw lw
        rw [seq_nx (s' := s3) (ρ' := [a0, .v (.cell 1), .v (.lst hl), a3, .own (.lst (.str hh :: ws.map D.str)), b5, .v (.str (txt hh ws)), .v (.bl (chB hh ws)), a8, a9, a10, .un])]
        · have gc : ∀ s, F_is_change [.str (txt hh ws)] s = .ok (.bl (chB hh ws)) s := fun s => t_chg mh mw lw
          have ga := fun b s => alikeB 4 b s
          rw [seq_nx (s' := s3) (ρ' := [a0, .v (.cell 1), .v (.lst hl), a3, .own (.lst (.str hh :: ws.map D.str)), b5, .v (.str (txt hh ws)), .v (.bl (chB hh ws)), a8, a9, a10, .un])]
          · rw [seq_nx (s' := s3) (ρ' := [a0, .v (.cell 1), .v (.lst hl), a3, .own (.lst (.str hh :: ws.map D.str)), b5, .v (.str (txt hh ws)), .v (.bl (chB hh ws)), .v (.tup (ws.map thD)), a9, a10, .un])]
            · refine ⟨.own (.lst (.str hh :: ws.map D.str)), b5, .v (.str (txt hh ws)), .v (.bl (chB hh ws)), .v (.tup (ws.map thD)), s3, ?_, r3⟩
              have gt : ∀ s, F_change_line [.str hh, .tup (ws.map thD)] s = if chB hh ws then .ok (.str (txt hh ws)) s else .er 7 [.non] s := fun s => t_line mh mw lw
              have h0 : s3[0]? = some (.tab 0) := by
                obtain ⟨i, a, b, r, rfl, _⟩ := r3
                rfl
              have i0 : ∀ s, gIx (.lst (.str hh :: ws.map D.str)) (.int 0) s = .ok (.str hh) s := fun s => ix0
              have sa : ∀ s, F__law_same [.tup [.str "told", .str (txt hh ws)], .tup [.str "told", .str (txt hh ws)]] s = .ok (.bl true) s := fun s => same_told (txt_asc mh mw) (by have := txt_len mh mw; omega)
              have sb := fun s => same_bad (s := s)
              have me : e_law_2 [a0, .v (.cell 1), .v (.lst hl), a3, .own (.lst (.str hh :: ws.map D.str)), b5, .v (.str (txt hh ws)), .v (.bl (chB hh ws)), .v (.tup (ws.map thD)), a9, a10, .un] s3 = if chB hh ws then .ok (.str (txt hh ws)) s3 else .er 7 [.non] s3 := by
                unfold e_law_2
                simp only [v_callF, v_cons, v_nil, v_op, v_var, v_varB, v_c, List.getElem?_cons_zero, List.getElem?_cons_succ, i0, gt]
              have mt : mTold es nm 0 0 e_law_2 [a0, .v (.cell 1), .v (.lst hl), a3, .own (.lst (.str hh :: ws.map D.str)), b5, .v (.str (txt hh ws)), .v (.bl (chB hh ws)), .v (.tup (ws.map thD)), a9, a10, .un] s3 = .ok (if chB hh ws then .tup [.str "told", .str (txt hh ws)] else .tup [.str "BadChange", .non]) s3 := by
                rw [v_told, h0]
                dsimp only
                rw [if_pos rfl, me]
                cases chB hh ws <;> rfl
              cases hc : chB hh ws with
              | true =>
                rw [hc] at mt
                simp only [v_ifS, v_not, v_test, v_callF, v_cons, v_nil, mt, v_if, v_var, v_tup, v_c, List.getElem?_cons_zero, List.getElem?_cons_succ, if_true, sa, Bool.not_true, v_next]
              | false =>
                rw [hc] at mt
                simp only [v_ifS, v_not, v_test, v_callF, v_cons, v_nil, mt, v_if, v_var, v_tup, v_c, List.getElem?_cons_zero, List.getElem?_cons_succ, Bool.false_eq_true, if_false, sb, Bool.not_true, v_next]
            · have cm : ∀ s, compF (.nm 11) mYes e_law_1 [a0, .v (.cell 1), .v (.lst hl), a3, .own (.lst (.str hh :: ws.map D.str)), b5, .v (.str (txt hh ws)), .v (.bl (chB hh ws)), a8, a9, a10, .un] (ws.map D.str) s = .ok (ws.map thD) s := fun s => compF_mapL D.str thD ws fun w hw => ⟨_, rfl, by
                have f1 := t_lsig w (mw w hw)
                have f2 := t_int w (mw w hw)
                unfold e_law_1
                simp only [v_if, v_test, v_callF, v_call, v_cons, v_nil, v_var, setM, List.set_cons_zero, List.set_cons_succ, List.getElem?_cons_zero, List.getElem?_cons_succ, f1]
                unfold thD
                cases q : siB w with
                | true => simp only [f2 q, if_true]
                | false => simp⟩
              have hz : ((ws.map D.str).length ≤ sizeLine) = True := eq_true (by rw [List.length_map, sizeLine_eq]; omega)
              have sl : ∀ s, gSliceA (.lst (.str hh :: ws.map D.str)) (some 1) none s = .ok (.lst (ws.map D.str)) s := fun s => g_cut
              simp only [v_set, v_call, v_cons, v_nil, v_comp, v_seqI, v_slice, v_part, v_noPart, v_c, v_varB, seqV, wipeR, unowned, List.all_cons, List.all_nil, Bool.and_true, and_true, setM, List.getElem?_cons_zero, List.getElem?_cons_succ, List.set_cons_zero, List.set_cons_succ, sl, hz, if_true, cm, w_tupL]
          · simp only [v_ifS, v_not, v_test, v_callF, v_cons, v_nil, v_var, List.getElem?_cons_zero, List.getElem?_cons_succ, gc, ga, Bool.not_true, v_next]
        · simp only [v_set, v_callF, v_cons, v_nil, v_var, setM, List.getElem?_cons_zero, List.getElem?_cons_succ, List.set_cons_zero, List.set_cons_succ, gl]
      · simp only [v_set, v_bm, v_c, v_varB, v_cons, v_nil, setM, List.getElem?_cons_zero, List.getElem?_cons_succ, List.set_cons_zero, List.set_cons_succ, ty_str, gj]
    · rw [v_for]
      have rg : mRng1 (mCons (mCallF F__law_pick (mCons (mVar 1) (mCons (mLst (mCons (mC (.int 0)) (mCons (mC (.int 0)) (mCons (mC (.int 1)) (mCons (mC (.int 1)) (mCons (mC (.int 2)) (mCons (mC (.int 2)) (mCons (mC (.int 3)) (mCons (mC (.int 3)) (mCons (mC (.int 4)) (mCons (mC (.int 4)) (mCons (mC (.int 6)) mNil)))))))))))) mNil))) mNil) [a0, .v (.cell 1), .v (.lst hl), a3, .own (.lst [.str hh]), a5, a6, a7, a8, a9, a10, .un] s1 = .ok (from_ 0 n) s2 := by
        unfold cl at e2
        simp only [v_rng1, v_cons, v_nil, v_callF, v_lst, v_c, v_var, List.getElem?_cons_zero, List.getElem?_cons_succ, e2]
        rw [if_pos (by unfold rngOk; rw [decide_eq_true]; omega), ← rng_from]
        rfl
      rw [rg]
      exact e3
  · simp only [v_setO, v_lst, v_cons, v_nil, v_callF, v_var, setM, List.getElem?_cons_zero, List.getElem?_cons_succ, List.set_cons_zero, List.set_cons_succ, e1, List.length_cons, List.length_nil]
    rfl
end K26

namespace K26
open PySem PySem.Spec L2 Tv TL
local macro_rules | `(tactic| get_elem_tactic_extensible) => `(tactic| simp only [v_var, v_varB, v_c, v_op, v_un, v_nil, v_cons, v_tup, v_lst, v_test, v_and, v_or, v_not, v_if, v_andV, v_orV, v_notV, v_chain, v_call, v_callF, v_callV, v_isi, v_slice, v_comp, unowned, List.all_cons, List.all_nil, wipeR, and_true, true_and, and_false, false_and, Int.cast_ofNat_Int, v_part, v_noPart, v_fld, v_yes, v_seqI, v_rng1, v_rng2, v_enumI, v_zipI, v_next, v_seq, v_set, v_setO, v_drop, v_ret, v_retN, v_brk, v_cnt, v_ifS, v_frz, v_while, v_for, v_meth, v_setIx, v_cell, v_aug, v_pt, v_par, v_setF, v_fun, v_raise, v_told, v_lamV, v_callL, v_newC, v_setIxE, w_setCell, w_tupC, w_isNotB, w_ix30, w_ix31, w_ix32, w_ixL30, w_ixL31, w_ixL32, w_ixL20, w_ixL21, v_ne_ok, v_loopF_nil, v_compF_nil,
  w_add, Tv.w_sub, w_lt, w_le, w_gt, w_ge, w_neg, w_eqI, w_neI, w_eqB, w_neB, w_is, w_isNot, w_ix20, w_ix21, w_lenT, w_lenL, w_lenZ, w_abs, w_int, w_min, w_max, w_tupT, w_tupL, w_tupZ, kT_int, kT_bl, kT_non, kT_str, kT_tup, kT_lst, k2, Tv.isNon, Pt.run, Pts.run, setM, ownL, baseOk, seqV,
  List.map_cons, List.map_nil, List.cons_append, List.nil_append, List.append_nil, List.replicate_zero, List.replicate_succ, List.length_cons, List.length_nil, List.getElem?_cons_zero, List.getElem?_cons_succ, List.getElem?_nil, List.set_cons_zero, List.set_cons_succ, List.set_nil, Option.some.injEq, ↓reduceIte, reduceCtorEq, decide_true, decide_false, decide_eq_true_eq, Bool.not_true, Bool.not_false, Bool.false_eq_true, Bool.and_true, Bool.true_and, Bool.or_false, Bool.false_or, Bool.or_true, Bool.true_or, Bool.and_false, Bool.false_and, if_true, if_false, String.reduceEq, or_false, or_true, false_or, true_or, Int.reduceLE, Int.reduceLT, Int.reduceNeg, Int.reduceToNat, Int.reduceAdd, Nat.reduceAdd, Nat.reduceLT, Int.reduceSub, Int.reduceMul, Int.reduceEq, Nat.reduceEqDiff, Int.zero_sub, BEq.rfl])
local macro_rules | `(tactic| decreasing_trivial) => `(tactic| simp only [v_var, v_varB, v_c, v_op, v_un, v_nil, v_cons, v_tup, v_lst, v_test, v_and, v_or, v_not, v_if, v_andV, v_orV, v_notV, v_chain, v_call, v_callF, v_callV, v_isi, v_slice, v_comp, unowned, List.all_cons, List.all_nil, wipeR, and_true, true_and, and_false, false_and, Int.cast_ofNat_Int, v_part, v_noPart, v_fld, v_yes, v_seqI, v_rng1, v_rng2, v_enumI, v_zipI, v_next, v_seq, v_set, v_setO, v_drop, v_ret, v_retN, v_brk, v_cnt, v_ifS, v_frz, v_while, v_for, v_meth, v_setIx, v_cell, v_aug, v_pt, v_par, v_setF, v_fun, v_raise, v_told, v_lamV, v_callL, v_newC, v_setIxE, w_setCell, w_tupC, w_isNotB, w_ix30, w_ix31, w_ix32, w_ixL30, w_ixL31, w_ixL32, w_ixL20, w_ixL21, v_ne_ok, v_loopF_nil, v_compF_nil,
  w_add, Tv.w_sub, w_lt, w_le, w_gt, w_ge, w_neg, w_eqI, w_neI, w_eqB, w_neB, w_is, w_isNot, w_ix20, w_ix21, w_lenT, w_lenL, w_lenZ, w_abs, w_int, w_min, w_max, w_tupT, w_tupL, w_tupZ, kT_int, kT_bl, kT_non, kT_str, kT_tup, kT_lst, k2, Tv.isNon, Pt.run, Pts.run, setM, ownL, baseOk, seqV,
  List.map_cons, List.map_nil, List.cons_append, List.nil_append, List.append_nil, List.replicate_zero, List.replicate_succ, List.length_cons, List.length_nil, List.getElem?_cons_zero, List.getElem?_cons_succ, List.getElem?_nil, List.set_cons_zero, List.set_cons_succ, List.set_nil, Option.some.injEq, ↓reduceIte, reduceCtorEq, decide_true, decide_false, decide_eq_true_eq, Bool.not_true, Bool.not_false, Bool.false_eq_true, Bool.and_true, Bool.true_and, Bool.or_false, Bool.false_or, Bool.or_true, Bool.true_or, Bool.and_false, Bool.false_and, if_true, if_false, String.reduceEq, or_false, or_true, false_or, true_or, Int.reduceLE, Int.reduceLT, Int.reduceNeg, Int.reduceToNat, Int.reduceAdd, Nat.reduceAdd, Nat.reduceLT, Int.reduceSub, Int.reduceMul, Int.reduceEq, Nat.reduceEqDiff, Int.zero_sub, BEq.rfl, *])

theorem turns {ns : List Int} : ∀ (ds : List D) (s : S) (a0 a3 a4 a5 a6 a7 a8 a9 a10 : SD), Rw ns s → ∃ (b3 b4 b5 b6 b7 b8 : SD) (s' : S), loopF (.nm 3) l_law_2 ds [a0, .v (.cell 1), .v (.lst hl), a3, a4, a5, a6, a7, a8, a9, a10, .un] s = .nx [a0, .v (.cell 1), .v (.lst hl), b3, b4, b5, b6, b7, b8, a9, a10, .un] s' ∧ Rw ns s'
  | [], s, a0, a3, a4, a5, a6, a7, a8, a9, a10, h => ⟨_, _, _, _, _, _, s, rfl, h⟩
  | d :: ds, s, a0, a3, a4, a5, a6, a7, a8, a9, a10, h => by
    obtain ⟨b4, b5, b6, b7, b8, s1, e1, r1⟩ := turn (a0 := a0) (a3 := .v d) (a4 := a4) (a5 := a5) (a6 := a6) (a7 := a7) (a8 := a8) (a9 := a9) (a10 := a10) h
    obtain ⟨c3, c4, c5, c6, c7, c8, s2, e2, r2⟩ := turns ds s1 a0 (.v d) b4 b5 b6 b7 b8 a9 a10 r1
    refine ⟨c3, c4, c5, c6, c7, c8, s2, ?_, r2⟩
    rw [v_loopF]
    have e3 : Pt.run (.nm 3) d [a0, .v (.cell 1), .v (.lst hl), a3, a4, a5, a6, a7, a8, a9, a10, .un] = some [a0, .v (.cell 1), .v (.lst hl), .v d, a4, a5, a6, a7, a8, a9, a10, .un] := rfl
    rw [e3]
    dsimp only
    rw [e1]
    exact e2
def odl : List D := [.non, .bl true, .bl false, .int (-1), .int 1000000000000000000000000000000, .str "", .str "A", .str "a1", .str "abcdefghi", .lst [], .lst [.int 1], .dic [] [], .dic [.inr "a"] [.int 1], .str "a b", .int 61, .str "-"]
def oda : List D := [.non, .int 1, .lst [.str "swap"], .tup [.str "swap"], .str "swap ", .str " swap", .str "target 00 1 1", .str ("curves " ++ repS "a" 60)]
theorem od_no : ∀ d ∈ oda ++ odl, ∀ s, F_is_change [d] s = .ok (.bl false) s := by
  intro d hd s
  simp only [odl, oda, List.cons_append, List.nil_append, List.mem_cons, List.not_mem_nil, or_false] at hd
  rcases hd with rfl | rfl | rfl | rfl | rfl | rfl | rfl | rfl | rfl | rfl | rfl | rfl | rfl | rfl | rfl | rfl | rfl | rfl | rfl | rfl | rfl | rfl | rfl | rfl <;> kernel_rfl
theorem t_odd {ns : List Int} {s : S} (h : Rw ns s) : ∃ (d : D) (s' : S), F__law_odd [.cell 1] s = .ok d s' ∧ d ∈ odl ∧ Rw ns s' := by
  obtain ⟨d, s1, e1, hd, r1⟩ := t_pick (ds := odl) h (by decide) (by decide)
  refine ⟨d, s1, ?_, hd, r1⟩
  have pw : ∀ s : S, gPow (.int 10) (.int 30) s = .ok (.int 1000000000000000000000000000000) s := fun s => by
    show (if (0 : Int) ≤ 30 ∧ (30 : Int) ≤ 1000000 ∧ (10 : Int).natAbs < 2 ^ 64 then R.ok (D.int (10 ^ (30 : Int).toNat)) s else R.no) = _
    rw [if_pos (by decide)]
    rfl
  have ng : ∀ s : S, gNeg (.int 1) s = .ok (.int (-1)) s := fun s => rfl
  unfold odl at e1
  unfold F__law_odd b__law_odd
  clear r1 hd h
  decreasing_trivial
theorem odds {a0 a1 a2 a3 a4 a5 a6 a7 a8 a10 : SD} {s : S} : ∀ (ds : List D) (a9 : SD), (∀ d ∈ ds, ∀ s, F_is_change [d] s = .ok (.bl false) s) → ∃ b9 : SD, loopF (.nm 9) l_law_3 ds [a0, a1, a2, a3, a4, a5, a6, a7, a8, a9, a10, .un] s = .nx [a0, a1, a2, a3, a4, a5, a6, a7, a8, b9, a10, .un] s
  | [], a9, _ => ⟨a9, rfl⟩
  | d :: ds, a9, h => by
    obtain ⟨b9, e⟩ := odds ds (.v d) fun z hz => h z (List.mem_cons_of_mem _ hz)
    refine ⟨b9, ?_⟩
    rw [v_loopF]
    have e3 : Pt.run (.nm 9) d [a0, a1, a2, a3, a4, a5, a6, a7, a8, a9, a10, .un] = some [a0, a1, a2, a3, a4, a5, a6, a7, a8, .v d, a10, .un] := rfl
    have g := h d List.mem_cons_self
    rw [e3]
    dsimp only
    have st : l_law_3 [a0, a1, a2, a3, a4, a5, a6, a7, a8, .v d, a10, .un] s = .nx [a0, a1, a2, a3, a4, a5, a6, a7, a8, .v d, a10, .un] s := by
      unfold l_law_3
      simp only [v_ifS, v_test, v_callF, v_cons, v_nil, v_var, List.getElem?_cons_zero, List.getElem?_cons_succ, g, v_next]
    rw [st]
    exact e
theorem law_true (ns : List Int) (h : ns.length ≤ 63) (hb : ∀ z ∈ ns, Builtin.Int.intBits z ≤ 1048576) : ∃ s, F_law [scr ns] (tabsS 1) = .ok (.bl true) s := by
  have r0 : Rw ns ([.tab 0] ++ [.lst [scr ns, .int 0, .int 4261, .int 0]]) := ⟨0, 4261, 0, [], rfl, by show 4261 < 2 ^ 40; omega⟩
  obtain ⟨b3, b4, b5, b6, b7, b8, s1, e1, r1⟩ := turns (rngD 0 40) _ (.v (scr ns)) .un .un .un .un .un .un .un .un r0
  obtain ⟨d, s2, e2, hd, r2⟩ := t_odd r1
  have od : ∀ x ∈ oda ++ [d], ∀ s, F_is_change [x] s = .ok (.bl false) s := fun x hx => by
    rcases List.mem_append.mp hx with hx | hx
    · exact od_no x (List.mem_append_left _ hx)
    · rw [List.mem_singleton.mp hx]
      exact od_no d (List.mem_append_right _ hd)
  obtain ⟨b9, e3⟩ := odds (a0 := .v (scr ns)) (a1 := .v (.cell 1)) (a2 := .v (.lst hl)) (a3 := b3) (a4 := b4) (a5 := b5) (a6 := b6) (a7 := b7) (a8 := b8) (a10 := .un) (s := s2) (oda ++ [d]) .un od
  refine ⟨s2, ?_⟩
  have et : tabsS 1 = [.tab 0] := rfl
  rw [et]
  unfold F_law b_law
  clear r0 hb h
  rw [v_fun]
  simp only [List.map_cons, List.map_nil, List.cons_append, List.nil_append, List.replicate_succ, List.replicate_zero]
  rw [seq_nx (s' := [.tab 0] ++ [.lst [scr ns, .int 0, .int 4261, .int 0]]) (ρ' := [.v (scr ns), .v (.cell 1), .un, .un, .un, .un, .un, .un, .un, .un, .un, .un])]
  · rw [seq_nx (s' := [.tab 0] ++ [.lst [scr ns, .int 0, .int 4261, .int 0]]) (ρ' := [.v (scr ns), .v (.cell 1), .v (.lst hl), .un, .un, .un, .un, .un, .un, .un, .un, .un])]
    · rw [seq_nx (s' := s1) (ρ' := [.v (scr ns), .v (.cell 1), .v (.lst hl), b3, b4, b5, b6, b7, b8, .un, .un, .un])]
      · rw [seq_nx (s' := s2) (ρ' := [.v (scr ns), .v (.cell 1), .v (.lst hl), b3, b4, b5, b6, b7, b8, b9, .un, .un])]
        · have h0 : s2[0]? = some (.tab 0) := by
            obtain ⟨i, a, b, r, rfl, _⟩ := r2
            rfl
          have l1 : ∀ s, F_change_line [.non, .tup []] s = .er 7 [.non] s := fun s => by kernel_rfl
          have l2 : ∀ s, F_change_line [.str "drop", .lst [.int 4]] s = .er 7 [.non] s := fun s => by kernel_rfl
          have l3 : ∀ s, F_change_line [.str "swap", .non] s = .er 7 [.non] s := fun s => by kernel_rfl
          have tl : ∀ (m : EM) (ρ : List SD), m ρ s2 = .er 7 [.non] s2 → mTold es nm 0 0 m ρ s2 = .ok (.tup [.str "BadChange", .non]) s2 := fun m ρ hm => by
            rw [v_told, h0]
            dsimp only
            rw [if_pos rfl, hm]
            rfl
          have m1 : ∀ ρ, e_law_3 ρ s2 = .er 7 [.non] s2 := fun ρ => by
            unfold e_law_3
            simp only [v_callF, v_cons, v_nil, v_c, v_tup, l1]
          have m2 : ∀ ρ, e_law_4 ρ s2 = .er 7 [.non] s2 := fun ρ => by
            unfold e_law_4
            simp only [v_callF, v_cons, v_nil, v_c, v_lst, l2]
          have m3 : ∀ ρ, e_law_5 ρ s2 = .er 7 [.non] s2 := fun ρ => by
            unfold e_law_5
            simp only [v_callF, v_cons, v_nil, v_c, l3]
          have g1 := fun ρ => tl _ ρ (m1 ρ)
          have g2 := fun ρ => tl _ ρ (m2 ρ)
          have g3 := fun ρ => tl _ ρ (m3 ρ)
          have rp : ∀ s, gRep (.lst [.tup [.str "BadChange", .non]]) (.int 3) s = .ok (.lst [.tup [.str "BadChange", .non], .tup [.str "BadChange", .non], .tup [.str "BadChange", .non]]) s := fun s => by kernel_rfl
          have sb := fun s => same_bad3 (s := s)
          rw [seq_nx (s' := s2) (ρ' := [.v (scr ns), .v (.cell 1), .v (.lst hl), b3, b4, b5, b6, b7, b8, b9, .v (.lst [.tup [.str "BadChange", .non], .tup [.str "BadChange", .non], .tup [.str "BadChange", .non]]), .un])]
          · simp only [v_ret, v_callF, v_cons, v_nil, v_op, v_lst, v_tup, v_c, v_var, List.getElem?_cons_zero, List.getElem?_cons_succ, rp, sb]
          · simp only [v_set, v_lst, v_cons, v_nil, g1, g2, g3, setM, List.getElem?_cons_zero, List.getElem?_cons_succ, List.set_cons_zero, List.set_cons_succ]
        · rw [v_for]
          have rs : ∀ s, gRepS (.str "a") (.int 60) s = .ok (.str (repS "a" 60)) s := fun s => by kernel_rfl
          have ga : ∀ s, gAddA (.str "curves ") (.str (repS "a" 60)) s = .ok (.str ("curves " ++ repS "a" 60)) s := fun s => by kernel_rfl
          unfold oda at e3
          generalize repS "a" 60 = aa at *
          simp only [v_seqI, v_lst, v_cons, v_nil, v_tup, v_op, v_c, v_callF, v_var, List.getElem?_cons_zero, List.getElem?_cons_succ, rs, ga, e2, seqV]
          exact e3
      · have rg : ∀ ρ s, mRng1 (mCons (mC (.int 40)) mNil) ρ s = .ok (rngD 0 40) s := fun ρ s => by
          simp only [v_rng1, v_cons, v_nil, v_c]
          rw [if_pos (by decide)]
          rfl
        rw [v_for, rg]
        exact e1
    · rfl
  · rfl
end K26

namespace K26
open PySem PySem.Spec PyProof.Rows L2 Tv
/-! ### the head -/
open He
def dd__law_refusal : DefD := ⟨("_law_refusal", none), "_law_refusal", "_law_refusal", defArgs (top 42), defBody (top 42), defScope (top 42), [], []⟩
def dd__law_alike : DefD := ⟨("_law_alike", none), "_law_alike", "_law_alike", defArgs (top 38), defBody (top 38), defScope (top 38), [], []⟩
def dd__law_is_name : DefD := ⟨("_law_is_name", none), "_law_is_name", "_law_is_name", defArgs (top 41), defBody (top 41), defScope (top 41), [], []⟩
def dd__law_number : DefD := ⟨("_law_number", none), "_law_number", "_law_number", defArgs (top 44), defBody (top 44), defScope (top 44), [], []⟩
def dd__law_signed : DefD := ⟨("_law_signed", none), "_law_signed", "_law_signed", defArgs (top 45), defBody (top 45), defScope (top 45), [], []⟩
def dd__law_is_change : DefD := ⟨("_law_is_change", none), "_law_is_change", "_law_is_change", defArgs (top 46), defBody (top 46), defScope (top 46), [], []⟩
def dd__law_taken : DefD := ⟨("_law_taken", none), "_law_taken", "_law_taken", defArgs (top 36), defBody (top 36), defScope (top 36), [], []⟩
def dd__law_pick : DefD := ⟨("_law_pick", none), "_law_pick", "_law_pick", defArgs (top 37), defBody (top 37), defScope (top 37), [], []⟩
def dd__law_odd : DefD := ⟨("_law_odd", none), "_law_odd", "_law_odd", defArgs (top 40), defBody (top 40), defScope (top 40), [], []⟩
def dd__law_same : DefD := ⟨("_law_same", none), "_law_same", "_law_same", defArgs (top 39), defBody (top 39), defScope (top 39), [], []⟩
def dd_is_name : DefD := ⟨("is_name", none), "is_name", "is_name", defArgs (top 19), defBody (top 19), defScope (top 19), [], []⟩
def dd_is_number_word : DefD := ⟨("is_number_word", none), "is_number_word", "is_number_word", defArgs (top 29), defBody (top 29), defScope (top 29), [], []⟩
def dd_is_signed_word : DefD := ⟨("is_signed_word", none), "is_signed_word", "is_signed_word", defArgs (top 30), defBody (top 30), defScope (top 30), [], []⟩
def dd_is_word_of : DefD := ⟨("is_word_of", none), "is_word_of", "is_word_of", defArgs (top 31), defBody (top 31), defScope (top 31), [], []⟩
def dd_is_change : DefD := ⟨("is_change", none), "is_change", "is_change", defArgs (top 32), defBody (top 32), defScope (top 32), [], []⟩
def dd_told_in : DefD := ⟨("told_in", none), "told_in", "told_in", defArgs (top 33), defBody (top 33), defScope (top 33), [], []⟩
def dd_change_line : DefD := ⟨("change_line", none), "change_line", "change_line", defArgs (top 34), defBody (top 34), defScope (top 34), [], []⟩
def dd_law : DefD := ⟨("law", none), "law", "law", defArgs (top 47), defBody (top 47), defScope (top 47), [], []⟩
def dd__law_told : DefD := ⟨("_law_told", none), "_law_told", "_law_told", defArgs (top 43), defBody (top 43), defScope (top 43), [], []⟩
def fn : List DefD := [dd__law_refusal, dd__law_alike, dd__law_is_name, dd__law_number, dd__law_signed, dd__law_is_change, dd__law_taken, dd__law_pick, dd__law_odd, dd__law_same, dd_is_name, dd_is_number_word, dd_is_signed_word, dd_is_word_of, dd_is_change, dd_told_in, dd_change_line, dd_law, dd__law_told]
def fa : List Fa := [.glo "_law_refusal", .glo "_law_alike", .glo "_law_is_name", .glo "_law_number", .glo "_law_signed", .glo "_law_is_change", .glo "_law_taken", .glo "_law_pick", .glo "_law_odd", .glo "_law_same", .glo "is_name", .glo "is_number_word", .glo "is_signed_word", .glo "is_word_of", .glo "is_change", .glo "told_in", .glo "change_line", .glo "law", .glo "_law_told", .free "str", .free "isinstance", .free "len", .free "all", .free "zip", .free "int", .free "tuple", .free "list", .free "range", .free "bool", .free "repr", .free "ValueError", .free "super", .int "LONGEST" 8, .int "MOST_DIGITS" 5, .int "MOST_SIGNS" 60, .str "LETTERS" "abcdefghijklmnopqrstuvwxyz", .str "DIGITS" "0123456789", .str "NAME" "name", .str "NUMBER" "number", .str "BLANK" " ", .glo "FORMS", .glo "BadPart", .glo "BadNumber", .glo "Unknown", .glo "BadPoint", .glo "BadBytes", .glo "BadGroup", .glo "BadPicture", .glo "BadChange", .glo "TooMany", .glo "BadText", .glo "BadLine", .glo "NotTurned", .glo "BadClaim", .glo "NothingDone", .glo "TintError", .exm "BadPart" "TintError" true, .exm "BadNumber" "TintError" true, .exm "Unknown" "TintError" true, .exm "BadPoint" "TintError" true, .exm "BadBytes" "TintError" true, .exm "BadGroup" "TintError" true, .exm "BadPicture" "TintError" true, .exm "BadChange" "TintError" true, .exm "TooMany" "TintError" true, .exm "BadText" "TintError" true, .exm "BadLine" "TintError" true, .exm "NotTurned" "TintError" true, .exm "BadClaim" "TintError" true, .exm "NothingDone" "TintError" true, .noat "BadPart" "part", .noat "BadPart" "place", .noat "BadNumber" "value", .noat "Unknown" "name", .noat "BadPoint" "place", .noat "BadBytes" "place", .noat "BadGroup" "place", .noat "BadPicture" "place", .noat "BadChange" "place", .noat "TooMany" "limit", .noat "BadText" "line", .noat "BadLine" "line"]
def xd_BadPart : XD := ⟨"BadPart", "BadPart.__init__", defArgs (inClass (top 2) 0), defBody (inClass (top 2) 0), defScope (inClass (top 2) 0)⟩
def xd_BadNumber : XD := ⟨"BadNumber", "BadNumber.__init__", defArgs (inClass (top 3) 0), defBody (inClass (top 3) 0), defScope (inClass (top 3) 0)⟩
def xd_Unknown : XD := ⟨"Unknown", "Unknown.__init__", defArgs (inClass (top 4) 0), defBody (inClass (top 4) 0), defScope (inClass (top 4) 0)⟩
def xd_BadPoint : XD := ⟨"BadPoint", "BadPoint.__init__", defArgs (inClass (top 5) 0), defBody (inClass (top 5) 0), defScope (inClass (top 5) 0)⟩
def xd_BadBytes : XD := ⟨"BadBytes", "BadBytes.__init__", defArgs (inClass (top 6) 0), defBody (inClass (top 6) 0), defScope (inClass (top 6) 0)⟩
def xd_BadGroup : XD := ⟨"BadGroup", "BadGroup.__init__", defArgs (inClass (top 7) 0), defBody (inClass (top 7) 0), defScope (inClass (top 7) 0)⟩
def xd_BadPicture : XD := ⟨"BadPicture", "BadPicture.__init__", defArgs (inClass (top 8) 0), defBody (inClass (top 8) 0), defScope (inClass (top 8) 0)⟩
def xd_BadChange : XD := ⟨"BadChange", "BadChange.__init__", defArgs (inClass (top 9) 0), defBody (inClass (top 9) 0), defScope (inClass (top 9) 0)⟩
def xd_TooMany : XD := ⟨"TooMany", "TooMany.__init__", defArgs (inClass (top 10) 0), defBody (inClass (top 10) 0), defScope (inClass (top 10) 0)⟩
def xd_BadText : XD := ⟨"BadText", "BadText.__init__", defArgs (inClass (top 11) 0), defBody (inClass (top 11) 0), defScope (inClass (top 11) 0)⟩
def xd_BadLine : XD := ⟨"BadLine", "BadLine.__init__", defArgs (inClass (top 12) 0), defBody (inClass (top 12) 0), defScope (inClass (top 12) 0)⟩
def xd_NotTurned : XD := ⟨"NotTurned", "NotTurned.__init__", defArgs (inClass (top 13) 0), defBody (inClass (top 13) 0), defScope (inClass (top 13) 0)⟩
def xd_BadClaim : XD := ⟨"BadClaim", "BadClaim.__init__", defArgs (inClass (top 14) 0), defBody (inClass (top 14) 0), defScope (inClass (top 14) 0)⟩
def xd_NothingDone : XD := ⟨"NothingDone", "NothingDone.__init__", defArgs (inClass (top 15) 0), defBody (inClass (top 15) 0), defScope (inClass (top 15) 0)⟩
def fx : List XD := [xd_BadPart, xd_BadNumber, xd_Unknown, xd_BadPoint, xd_BadBytes, xd_BadGroup, xd_BadPicture, xd_BadChange, xd_TooMany, xd_BadText, xd_BadLine, xd_NotTurned, xd_BadClaim, xd_NothingDone]
def tf : List Defn := [("law", none)]
def file : Str := PySem.Challenge.pw_tintbridge_k26_which_are_changes.main.file
def exA (K : PySem.W.Frag) : Bool := decide ((cs.map (tb K).cls).Nodup) && (kitB K (cs.map (tb K).cls) && cs.all fun c => insB K ((tb K).cls c))
def exB (K : PySem.W.Frag) : Bool := fx.all fun d => xB file K (ga K d.cls) (ma K (ga K d.cls) "__init__")
def exC (K : PySem.W.Frag) : Bool := decide ((es.map (tb K).cls).Nodup) && xAll K (es.map (tb K).cls)
def exD (K : PySem.W.Frag) : Bool := decide ((tf.map fun p => (cT K p).2).Nodup)
def exE (K : PySem.W.Frag) : Bool := [tabB K (ga K "FORMS") d_FORMS].all id
def tsl : List Tab := [(fun K => ga K "FORMS", ["lamp", "knot", "flat", "levels", "ink", "target", "entry", "add", "swap", "clip", "drop", "curves", "push"])]
def exK (K : PySem.W.Frag) : Bool := exA K && (exB K && (exC K && (exD K && exE K)))
abbrev hk : PySem.W.Hook := hookZ 7 fa fn tsl tf exK fx
def ob (s : PySem.W.SharedT) : AlY := obsZ 7 fa fn tsl tf exK fx (HandSHeadRun.getT s)
theorem ob_eq (s : PySem.W.SharedT) : ob s = hk.obs s.abs := obsZ_eq (HandSHeadRun.getT_eq s)
abbrev R : PySem.W.OpenRow := PySem.W.OpenLaw.row PySem.Challenge.rw_tintbridge_k26_which_are_changes
def names0 : List Str := ["TintError", "BadPart", "BadNumber", "Unknown", "BadPoint", "BadBytes", "BadGroup", "BadPicture", "BadChange", "TooMany", "BadText", "BadLine", "NotTurned", "BadClaim", "NothingDone", "LETTERS", "LONGEST", "is_name", "NAME", "NUMBER", "SIGNED", "FORMS", "MOST_SIGNS", "MOST_DIGITS"]
def names1 : List Str := ["DIGITS", "BLANK", "is_number_word", "is_signed_word", "is_word_of", "is_change", "told_in", "change_line", "_law_taken", "_law_pick", "_law_alike", "_law_same", "_law_odd", "_law_is_name", "_law_refusal", "_law_told", "_law_number", "_law_signed", "_law_is_change"]
def names : List Str := names0 ++ names1
theorem runA_false (w : World) : RunA R (PySem.W.view R.prog [47]) 30000 names (w.withFollow "special-get-raises" false) := by
  intro os
  kernel_rfl
theorem runA_true (w : World) : RunA R (PySem.W.view R.prog [47]) 30000 names (w.withFollow "special-get-raises" true) := by
  intro os
  kernel_rfl
theorem runA (w : World) : RunA R (PySem.W.view R.prog [47]) 30000 names w := PySem.W.byRow2 "special-get-raises" (P := fun w => RunA R (PySem.W.view R.prog [47]) 30000 names w) runA_false runA_true w
theorem runB_false (w : World) : RunB R hk ob 30000 (w.withFollow "special-get-raises" false) := by
  intro os
  kernel_rfl
theorem runB_true (w : World) : RunB R hk ob 30000 (w.withFollow "special-get-raises" true) := by
  intro os
  kernel_rfl
theorem runB (w : World) : RunB R hk ob 30000 w := PySem.W.byRow2 "special-get-raises" (P := fun w => RunB R hk ob 30000 w) runB_false runB_true w
theorem run (w : World) : HandSHeadRun.RunEq R (PySem.W.view R.prog [47]) hk ob 30000 names w := run_two (runA w) (runB w)
theorem xo_BadPart {K : PySem.W.Frag} {mg : Str → Option Value} {h : Heap} {w : World} (X : K.In h) (G : h.Ns mainGlobals mg) (c : SaysY fa fn tsl tf exK fx w h K) : Exc (PySem.Challenge.rw_tintbridge_k26_which_are_changes).prog K mg (tb K) 0 "BadPart" ["part", "place"] := by
  have cd := c.x.t.d
  have ex := (ba (ba c.x.more).2).1
  refine exc_of (T := tb K) (c := 0) (d := xd_BadPart) (fs := ["part", "place"]) (file := file) (c.y_at 0) (List.all_eq_true.mp ex xd_BadPart (by simp [fx])) rfl rfl (He.glo_ok X G (cd.fact 41 (f := .glo "BadPart") rfl)) (He.free_ok X G (cd.fact 31 (f := .free "super") rfl)) rfl (by decide +kernel) rfl (fun env => ⟨_, rfl⟩) (.cons (.cons .nil)) (by decide) (by decide) rfl ⟨rfl, rfl, rfl, rfl, rfl, by decide +kernel, rfl⟩ (by decide +kernel) ?_ (fun _ _ _ _ _ _ _ us hl => match us, hl with | [_, _, _], _ => rfl)
  intro y hy
  have hy : y = "part" ∨ y = "place" := by simpa using hy
  rcases hy with rfl | rfl
  · exact noat_ok (cd.fact 70 (f := .noat "BadPart" "part") rfl)
  · exact noat_ok (cd.fact 71 (f := .noat "BadPart" "place") rfl)
theorem xo_BadNumber {K : PySem.W.Frag} {mg : Str → Option Value} {h : Heap} {w : World} (X : K.In h) (G : h.Ns mainGlobals mg) (c : SaysY fa fn tsl tf exK fx w h K) : Exc (PySem.Challenge.rw_tintbridge_k26_which_are_changes).prog K mg (tb K) 1 "BadNumber" ["value"] := by
  have cd := c.x.t.d
  have ex := (ba (ba c.x.more).2).1
  refine exc_of (T := tb K) (c := 1) (d := xd_BadNumber) (fs := ["value"]) (file := file) (c.y_at 1) (List.all_eq_true.mp ex xd_BadNumber (by simp [fx])) rfl rfl (He.glo_ok X G (cd.fact 42 (f := .glo "BadNumber") rfl)) (He.free_ok X G (cd.fact 31 (f := .free "super") rfl)) rfl (by decide +kernel) rfl (fun env => ⟨_, rfl⟩) (.cons .nil) (by decide) (by decide) rfl ⟨rfl, rfl, rfl, rfl, rfl, by decide +kernel, rfl⟩ (by decide +kernel) ?_ (fun _ _ _ _ _ _ _ us hl => match us, hl with | [_, _], _ => rfl)
  intro y hy
  have hy : y = "value" := by simpa using hy
  subst hy
  · exact noat_ok (cd.fact 72 (f := .noat "BadNumber" "value") rfl)
theorem xo_Unknown {K : PySem.W.Frag} {mg : Str → Option Value} {h : Heap} {w : World} (X : K.In h) (G : h.Ns mainGlobals mg) (c : SaysY fa fn tsl tf exK fx w h K) : Exc (PySem.Challenge.rw_tintbridge_k26_which_are_changes).prog K mg (tb K) 2 "Unknown" ["name"] := by
  have cd := c.x.t.d
  have ex := (ba (ba c.x.more).2).1
  refine exc_of (T := tb K) (c := 2) (d := xd_Unknown) (fs := ["name"]) (file := file) (c.y_at 2) (List.all_eq_true.mp ex xd_Unknown (by simp [fx])) rfl rfl (He.glo_ok X G (cd.fact 43 (f := .glo "Unknown") rfl)) (He.free_ok X G (cd.fact 31 (f := .free "super") rfl)) rfl (by decide +kernel) rfl (fun env => ⟨_, rfl⟩) (.cons .nil) (by decide) (by decide) rfl ⟨rfl, rfl, rfl, rfl, rfl, by decide +kernel, rfl⟩ (by decide +kernel) ?_ (fun _ _ _ _ _ _ _ us hl => match us, hl with | [_, _], _ => rfl)
  intro y hy
  have hy : y = "name" := by simpa using hy
  subst hy
  · exact noat_ok (cd.fact 73 (f := .noat "Unknown" "name") rfl)
theorem xo_BadPoint {K : PySem.W.Frag} {mg : Str → Option Value} {h : Heap} {w : World} (X : K.In h) (G : h.Ns mainGlobals mg) (c : SaysY fa fn tsl tf exK fx w h K) : Exc (PySem.Challenge.rw_tintbridge_k26_which_are_changes).prog K mg (tb K) 3 "BadPoint" ["place"] := by
  have cd := c.x.t.d
  have ex := (ba (ba c.x.more).2).1
  refine exc_of (T := tb K) (c := 3) (d := xd_BadPoint) (fs := ["place"]) (file := file) (c.y_at 3) (List.all_eq_true.mp ex xd_BadPoint (by simp [fx])) rfl rfl (He.glo_ok X G (cd.fact 44 (f := .glo "BadPoint") rfl)) (He.free_ok X G (cd.fact 31 (f := .free "super") rfl)) rfl (by decide +kernel) rfl (fun env => ⟨_, rfl⟩) (.cons .nil) (by decide) (by decide) rfl ⟨rfl, rfl, rfl, rfl, rfl, by decide +kernel, rfl⟩ (by decide +kernel) ?_ (fun _ _ _ _ _ _ _ us hl => match us, hl with | [_, _], _ => rfl)
  intro y hy
  have hy : y = "place" := by simpa using hy
  subst hy
  · exact noat_ok (cd.fact 74 (f := .noat "BadPoint" "place") rfl)
theorem xo_BadBytes {K : PySem.W.Frag} {mg : Str → Option Value} {h : Heap} {w : World} (X : K.In h) (G : h.Ns mainGlobals mg) (c : SaysY fa fn tsl tf exK fx w h K) : Exc (PySem.Challenge.rw_tintbridge_k26_which_are_changes).prog K mg (tb K) 4 "BadBytes" ["place"] := by
  have cd := c.x.t.d
  have ex := (ba (ba c.x.more).2).1
  refine exc_of (T := tb K) (c := 4) (d := xd_BadBytes) (fs := ["place"]) (file := file) (c.y_at 4) (List.all_eq_true.mp ex xd_BadBytes (by simp [fx])) rfl rfl (He.glo_ok X G (cd.fact 45 (f := .glo "BadBytes") rfl)) (He.free_ok X G (cd.fact 31 (f := .free "super") rfl)) rfl (by decide +kernel) rfl (fun env => ⟨_, rfl⟩) (.cons .nil) (by decide) (by decide) rfl ⟨rfl, rfl, rfl, rfl, rfl, by decide +kernel, rfl⟩ (by decide +kernel) ?_ (fun _ _ _ _ _ _ _ us hl => match us, hl with | [_, _], _ => rfl)
  intro y hy
  have hy : y = "place" := by simpa using hy
  subst hy
  · exact noat_ok (cd.fact 75 (f := .noat "BadBytes" "place") rfl)
theorem xo_BadGroup {K : PySem.W.Frag} {mg : Str → Option Value} {h : Heap} {w : World} (X : K.In h) (G : h.Ns mainGlobals mg) (c : SaysY fa fn tsl tf exK fx w h K) : Exc (PySem.Challenge.rw_tintbridge_k26_which_are_changes).prog K mg (tb K) 5 "BadGroup" ["place"] := by
  have cd := c.x.t.d
  have ex := (ba (ba c.x.more).2).1
  refine exc_of (T := tb K) (c := 5) (d := xd_BadGroup) (fs := ["place"]) (file := file) (c.y_at 5) (List.all_eq_true.mp ex xd_BadGroup (by simp [fx])) rfl rfl (He.glo_ok X G (cd.fact 46 (f := .glo "BadGroup") rfl)) (He.free_ok X G (cd.fact 31 (f := .free "super") rfl)) rfl (by decide +kernel) rfl (fun env => ⟨_, rfl⟩) (.cons .nil) (by decide) (by decide) rfl ⟨rfl, rfl, rfl, rfl, rfl, by decide +kernel, rfl⟩ (by decide +kernel) ?_ (fun _ _ _ _ _ _ _ us hl => match us, hl with | [_, _], _ => rfl)
  intro y hy
  have hy : y = "place" := by simpa using hy
  subst hy
  · exact noat_ok (cd.fact 76 (f := .noat "BadGroup" "place") rfl)
theorem xo_BadPicture {K : PySem.W.Frag} {mg : Str → Option Value} {h : Heap} {w : World} (X : K.In h) (G : h.Ns mainGlobals mg) (c : SaysY fa fn tsl tf exK fx w h K) : Exc (PySem.Challenge.rw_tintbridge_k26_which_are_changes).prog K mg (tb K) 6 "BadPicture" ["place"] := by
  have cd := c.x.t.d
  have ex := (ba (ba c.x.more).2).1
  refine exc_of (T := tb K) (c := 6) (d := xd_BadPicture) (fs := ["place"]) (file := file) (c.y_at 6) (List.all_eq_true.mp ex xd_BadPicture (by simp [fx])) rfl rfl (He.glo_ok X G (cd.fact 47 (f := .glo "BadPicture") rfl)) (He.free_ok X G (cd.fact 31 (f := .free "super") rfl)) rfl (by decide +kernel) rfl (fun env => ⟨_, rfl⟩) (.cons .nil) (by decide) (by decide) rfl ⟨rfl, rfl, rfl, rfl, rfl, by decide +kernel, rfl⟩ (by decide +kernel) ?_ (fun _ _ _ _ _ _ _ us hl => match us, hl with | [_, _], _ => rfl)
  intro y hy
  have hy : y = "place" := by simpa using hy
  subst hy
  · exact noat_ok (cd.fact 77 (f := .noat "BadPicture" "place") rfl)
theorem xo_BadChange {K : PySem.W.Frag} {mg : Str → Option Value} {h : Heap} {w : World} (X : K.In h) (G : h.Ns mainGlobals mg) (c : SaysY fa fn tsl tf exK fx w h K) : Exc (PySem.Challenge.rw_tintbridge_k26_which_are_changes).prog K mg (tb K) 7 "BadChange" ["place"] := by
  have cd := c.x.t.d
  have ex := (ba (ba c.x.more).2).1
  refine exc_of (T := tb K) (c := 7) (d := xd_BadChange) (fs := ["place"]) (file := file) (c.y_at 7) (List.all_eq_true.mp ex xd_BadChange (by simp [fx])) rfl rfl (He.glo_ok X G (cd.fact 48 (f := .glo "BadChange") rfl)) (He.free_ok X G (cd.fact 31 (f := .free "super") rfl)) rfl (by decide +kernel) rfl (fun env => ⟨_, rfl⟩) (.cons .nil) (by decide) (by decide) rfl ⟨rfl, rfl, rfl, rfl, rfl, by decide +kernel, rfl⟩ (by decide +kernel) ?_ (fun _ _ _ _ _ _ _ us hl => match us, hl with | [_, _], _ => rfl)
  intro y hy
  have hy : y = "place" := by simpa using hy
  subst hy
  · exact noat_ok (cd.fact 78 (f := .noat "BadChange" "place") rfl)
theorem xo_TooMany {K : PySem.W.Frag} {mg : Str → Option Value} {h : Heap} {w : World} (X : K.In h) (G : h.Ns mainGlobals mg) (c : SaysY fa fn tsl tf exK fx w h K) : Exc (PySem.Challenge.rw_tintbridge_k26_which_are_changes).prog K mg (tb K) 8 "TooMany" ["limit"] := by
  have cd := c.x.t.d
  have ex := (ba (ba c.x.more).2).1
  refine exc_of (T := tb K) (c := 8) (d := xd_TooMany) (fs := ["limit"]) (file := file) (c.y_at 8) (List.all_eq_true.mp ex xd_TooMany (by simp [fx])) rfl rfl (He.glo_ok X G (cd.fact 49 (f := .glo "TooMany") rfl)) (He.free_ok X G (cd.fact 31 (f := .free "super") rfl)) rfl (by decide +kernel) rfl (fun env => ⟨_, rfl⟩) (.cons .nil) (by decide) (by decide) rfl ⟨rfl, rfl, rfl, rfl, rfl, by decide +kernel, rfl⟩ (by decide +kernel) ?_ (fun _ _ _ _ _ _ _ us hl => match us, hl with | [_, _], _ => rfl)
  intro y hy
  have hy : y = "limit" := by simpa using hy
  subst hy
  · exact noat_ok (cd.fact 79 (f := .noat "TooMany" "limit") rfl)
theorem xo_BadText {K : PySem.W.Frag} {mg : Str → Option Value} {h : Heap} {w : World} (X : K.In h) (G : h.Ns mainGlobals mg) (c : SaysY fa fn tsl tf exK fx w h K) : Exc (PySem.Challenge.rw_tintbridge_k26_which_are_changes).prog K mg (tb K) 9 "BadText" ["line"] := by
  have cd := c.x.t.d
  have ex := (ba (ba c.x.more).2).1
  refine exc_of (T := tb K) (c := 9) (d := xd_BadText) (fs := ["line"]) (file := file) (c.y_at 9) (List.all_eq_true.mp ex xd_BadText (by simp [fx])) rfl rfl (He.glo_ok X G (cd.fact 50 (f := .glo "BadText") rfl)) (He.free_ok X G (cd.fact 31 (f := .free "super") rfl)) rfl (by decide +kernel) rfl (fun env => ⟨_, rfl⟩) (.cons .nil) (by decide) (by decide) rfl ⟨rfl, rfl, rfl, rfl, rfl, by decide +kernel, rfl⟩ (by decide +kernel) ?_ (fun _ _ _ _ _ _ _ us hl => match us, hl with | [_, _], _ => rfl)
  intro y hy
  have hy : y = "line" := by simpa using hy
  subst hy
  · exact noat_ok (cd.fact 80 (f := .noat "BadText" "line") rfl)
theorem xo_BadLine {K : PySem.W.Frag} {mg : Str → Option Value} {h : Heap} {w : World} (X : K.In h) (G : h.Ns mainGlobals mg) (c : SaysY fa fn tsl tf exK fx w h K) : Exc (PySem.Challenge.rw_tintbridge_k26_which_are_changes).prog K mg (tb K) 10 "BadLine" ["line"] := by
  have cd := c.x.t.d
  have ex := (ba (ba c.x.more).2).1
  refine exc_of (T := tb K) (c := 10) (d := xd_BadLine) (fs := ["line"]) (file := file) (c.y_at 10) (List.all_eq_true.mp ex xd_BadLine (by simp [fx])) rfl rfl (He.glo_ok X G (cd.fact 51 (f := .glo "BadLine") rfl)) (He.free_ok X G (cd.fact 31 (f := .free "super") rfl)) rfl (by decide +kernel) rfl (fun env => ⟨_, rfl⟩) (.cons .nil) (by decide) (by decide) rfl ⟨rfl, rfl, rfl, rfl, rfl, by decide +kernel, rfl⟩ (by decide +kernel) ?_ (fun _ _ _ _ _ _ _ us hl => match us, hl with | [_, _], _ => rfl)
  intro y hy
  have hy : y = "line" := by simpa using hy
  subst hy
  · exact noat_ok (cd.fact 81 (f := .noat "BadLine" "line") rfl)
theorem xo_NotTurned {K : PySem.W.Frag} {mg : Str → Option Value} {h : Heap} {w : World} (X : K.In h) (G : h.Ns mainGlobals mg) (c : SaysY fa fn tsl tf exK fx w h K) : Exc (PySem.Challenge.rw_tintbridge_k26_which_are_changes).prog K mg (tb K) 11 "NotTurned" [] := by
  have cd := c.x.t.d
  have ex := (ba (ba c.x.more).2).1
  refine exc_of (T := tb K) (c := 11) (d := xd_NotTurned) (fs := []) (file := file) (c.y_at 11) (List.all_eq_true.mp ex xd_NotTurned (by simp [fx])) rfl rfl (He.glo_ok X G (cd.fact 52 (f := .glo "NotTurned") rfl)) (He.free_ok X G (cd.fact 31 (f := .free "super") rfl)) rfl (by decide +kernel) rfl (fun env => ⟨_, rfl⟩) .nil (by decide) (by decide) rfl ⟨rfl, rfl, rfl, rfl, rfl, by decide +kernel, rfl⟩ (by decide +kernel) ?_ (fun _ _ _ _ _ _ _ us hl => match us, hl with | [_], _ => rfl)
  intro y hy
  cases hy
theorem xo_BadClaim {K : PySem.W.Frag} {mg : Str → Option Value} {h : Heap} {w : World} (X : K.In h) (G : h.Ns mainGlobals mg) (c : SaysY fa fn tsl tf exK fx w h K) : Exc (PySem.Challenge.rw_tintbridge_k26_which_are_changes).prog K mg (tb K) 12 "BadClaim" [] := by
  have cd := c.x.t.d
  have ex := (ba (ba c.x.more).2).1
  refine exc_of (T := tb K) (c := 12) (d := xd_BadClaim) (fs := []) (file := file) (c.y_at 12) (List.all_eq_true.mp ex xd_BadClaim (by simp [fx])) rfl rfl (He.glo_ok X G (cd.fact 53 (f := .glo "BadClaim") rfl)) (He.free_ok X G (cd.fact 31 (f := .free "super") rfl)) rfl (by decide +kernel) rfl (fun env => ⟨_, rfl⟩) .nil (by decide) (by decide) rfl ⟨rfl, rfl, rfl, rfl, rfl, by decide +kernel, rfl⟩ (by decide +kernel) ?_ (fun _ _ _ _ _ _ _ us hl => match us, hl with | [_], _ => rfl)
  intro y hy
  cases hy
theorem xo_NothingDone {K : PySem.W.Frag} {mg : Str → Option Value} {h : Heap} {w : World} (X : K.In h) (G : h.Ns mainGlobals mg) (c : SaysY fa fn tsl tf exK fx w h K) : Exc (PySem.Challenge.rw_tintbridge_k26_which_are_changes).prog K mg (tb K) 13 "NothingDone" [] := by
  have cd := c.x.t.d
  have ex := (ba (ba c.x.more).2).1
  refine exc_of (T := tb K) (c := 13) (d := xd_NothingDone) (fs := []) (file := file) (c.y_at 13) (List.all_eq_true.mp ex xd_NothingDone (by simp [fx])) rfl rfl (He.glo_ok X G (cd.fact 54 (f := .glo "NothingDone") rfl)) (He.free_ok X G (cd.fact 31 (f := .free "super") rfl)) rfl (by decide +kernel) rfl (fun env => ⟨_, rfl⟩) .nil (by decide) (by decide) rfl ⟨rfl, rfl, rfl, rfl, rfl, by decide +kernel, rfl⟩ (by decide +kernel) ?_ (fun _ _ _ _ _ _ _ us hl => match us, hl with | [_], _ => rfl)
  intro y hy
  cases hy
theorem cn_of {K : PySem.W.Frag} {h : Heap} {mg : Str → Option Value} {w : World} {base : Heap} (X : K.In h) (G : h.Ns mainGlobals mg) (c : SaysY fa fn tsl tf exK fx w h K) (TB : ∀ p ∈ tf, LamX.TabB base mg (cT K p).1 (cT K p).2) : Cn (PySem.Challenge.rw_tintbridge_k26_which_are_changes).prog w K mg base := by
  have cd := c.x.t.d
  have ex := (ba c.x.more).1
  have exc := (ba (ba (ba c.x.more).2).2).1
  have exe := List.all_eq_true.mp (ba (ba (ba (ba c.x.more).2).2).2).2
  obtain ⟨e1, e2⟩ := Bool.and_eq_true_iff.mp ex
  obtain ⟨e2, e3⟩ := Bool.and_eq_true_iff.mp e2
  have nd := of_decide_eq_true e1
  obtain ⟨f1, f2⟩ := ba exc
  have ndx := of_decide_eq_true f1
  refine {
    d__law_refusal := cd.def_ 0 (d := dd__law_refusal) rfl
    d__law_alike := cd.def_ 1 (d := dd__law_alike) rfl
    d__law_is_name := cd.def_ 2 (d := dd__law_is_name) rfl
    d__law_number := cd.def_ 3 (d := dd__law_number) rfl
    d__law_signed := cd.def_ 4 (d := dd__law_signed) rfl
    d__law_is_change := cd.def_ 5 (d := dd__law_is_change) rfl
    d__law_taken := cd.def_ 6 (d := dd__law_taken) rfl
    d__law_pick := cd.def_ 7 (d := dd__law_pick) rfl
    d__law_odd := cd.def_ 8 (d := dd__law_odd) rfl
    d__law_same := cd.def_ 9 (d := dd__law_same) rfl
    d_is_name := cd.def_ 10 (d := dd_is_name) rfl
    d_is_number_word := cd.def_ 11 (d := dd_is_number_word) rfl
    d_is_signed_word := cd.def_ 12 (d := dd_is_signed_word) rfl
    d_is_word_of := cd.def_ 13 (d := dd_is_word_of) rfl
    d_is_change := cd.def_ 14 (d := dd_is_change) rfl
    d_told_in := cd.def_ 15 (d := dd_told_in) rfl
    d_change_line := cd.def_ 16 (d := dd_change_line) rfl
    d_law := cd.def_ 17 (d := dd_law) rfl
    d__law_told := cd.def_ 18 (d := dd__law_told) rfl
    g__law_refusal := He.glo_ok X G (cd.fact 0 (f := .glo "_law_refusal") rfl)
    g__law_alike := He.glo_ok X G (cd.fact 1 (f := .glo "_law_alike") rfl)
    g__law_is_name := He.glo_ok X G (cd.fact 2 (f := .glo "_law_is_name") rfl)
    g__law_number := He.glo_ok X G (cd.fact 3 (f := .glo "_law_number") rfl)
    g__law_signed := He.glo_ok X G (cd.fact 4 (f := .glo "_law_signed") rfl)
    g__law_is_change := He.glo_ok X G (cd.fact 5 (f := .glo "_law_is_change") rfl)
    g__law_taken := He.glo_ok X G (cd.fact 6 (f := .glo "_law_taken") rfl)
    g__law_pick := He.glo_ok X G (cd.fact 7 (f := .glo "_law_pick") rfl)
    g__law_odd := He.glo_ok X G (cd.fact 8 (f := .glo "_law_odd") rfl)
    g__law_same := He.glo_ok X G (cd.fact 9 (f := .glo "_law_same") rfl)
    g_is_name := He.glo_ok X G (cd.fact 10 (f := .glo "is_name") rfl)
    g_is_number_word := He.glo_ok X G (cd.fact 11 (f := .glo "is_number_word") rfl)
    g_is_signed_word := He.glo_ok X G (cd.fact 12 (f := .glo "is_signed_word") rfl)
    g_is_word_of := He.glo_ok X G (cd.fact 13 (f := .glo "is_word_of") rfl)
    g_is_change := He.glo_ok X G (cd.fact 14 (f := .glo "is_change") rfl)
    g_told_in := He.glo_ok X G (cd.fact 15 (f := .glo "told_in") rfl)
    g_change_line := He.glo_ok X G (cd.fact 16 (f := .glo "change_line") rfl)
    g_law := He.glo_ok X G (cd.fact 17 (f := .glo "law") rfl)
    g__law_told := He.glo_ok X G (cd.fact 18 (f := .glo "_law_told") rfl)
    n_str := He.free_ok X G (cd.fact 19 (f := .free "str") rfl)
    n_isinstance := He.free_ok X G (cd.fact 20 (f := .free "isinstance") rfl)
    n_len := He.free_ok X G (cd.fact 21 (f := .free "len") rfl)
    n_all := He.free_ok X G (cd.fact 22 (f := .free "all") rfl)
    n_zip := He.free_ok X G (cd.fact 23 (f := .free "zip") rfl)
    n_int := He.free_ok X G (cd.fact 24 (f := .free "int") rfl)
    n_tuple := He.free_ok X G (cd.fact 25 (f := .free "tuple") rfl)
    n_list := He.free_ok X G (cd.fact 26 (f := .free "list") rfl)
    n_range := He.free_ok X G (cd.fact 27 (f := .free "range") rfl)
    n_bool := He.free_ok X G (cd.fact 28 (f := .free "bool") rfl)
    n_repr := He.free_ok X G (cd.fact 29 (f := .free "repr") rfl)
    n_ValueError := He.free_ok X G (cd.fact 30 (f := .free "ValueError") rfl)
    n_super := He.free_ok X G (cd.fact 31 (f := .free "super") rfl)
    i_LONGEST := He.int_ok X G (cd.fact 32 (f := .int "LONGEST" 8) rfl)
    i_MOST_DIGITS := He.int_ok X G (cd.fact 33 (f := .int "MOST_DIGITS" 5) rfl)
    i_MOST_SIGNS := He.int_ok X G (cd.fact 34 (f := .int "MOST_SIGNS" 60) rfl)
    s_LETTERS := He.str_ok X G (cd.fact 35 (f := .str "LETTERS" "abcdefghijklmnopqrstuvwxyz") rfl)
    s_DIGITS := He.str_ok X G (cd.fact 36 (f := .str "DIGITS" "0123456789") rfl)
    s_NAME := He.str_ok X G (cd.fact 37 (f := .str "NAME" "name") rfl)
    s_NUMBER := He.str_ok X G (cd.fact 38 (f := .str "NUMBER" "number") rfl)
    s_BLANK := He.str_ok X G (cd.fact 39 (f := .str "BLANK" " ") rfl)
    gk_FORMS := He.glo_ok X G (cd.fact 40 (f := .glo "FORMS") rfl)
    gx_BadPart := He.glo_ok X G (cd.fact 41 (f := .glo "BadPart") rfl)
    gx_BadNumber := He.glo_ok X G (cd.fact 42 (f := .glo "BadNumber") rfl)
    gx_Unknown := He.glo_ok X G (cd.fact 43 (f := .glo "Unknown") rfl)
    gx_BadPoint := He.glo_ok X G (cd.fact 44 (f := .glo "BadPoint") rfl)
    gx_BadBytes := He.glo_ok X G (cd.fact 45 (f := .glo "BadBytes") rfl)
    gx_BadGroup := He.glo_ok X G (cd.fact 46 (f := .glo "BadGroup") rfl)
    gx_BadPicture := He.glo_ok X G (cd.fact 47 (f := .glo "BadPicture") rfl)
    gx_BadChange := He.glo_ok X G (cd.fact 48 (f := .glo "BadChange") rfl)
    gx_TooMany := He.glo_ok X G (cd.fact 49 (f := .glo "TooMany") rfl)
    gx_BadText := He.glo_ok X G (cd.fact 50 (f := .glo "BadText") rfl)
    gx_BadLine := He.glo_ok X G (cd.fact 51 (f := .glo "BadLine") rfl)
    gx_NotTurned := He.glo_ok X G (cd.fact 52 (f := .glo "NotTurned") rfl)
    gx_BadClaim := He.glo_ok X G (cd.fact 53 (f := .glo "BadClaim") rfl)
    gx_NothingDone := He.glo_ok X G (cd.fact 54 (f := .glo "NothingDone") rfl)
    gx_TintError := He.glo_ok X G (cd.fact 55 (f := .glo "TintError") rfl)
    xm_BadPart := He.exm_ok (cd.fact 56 (f := .exm "BadPart" "TintError" true) rfl)
    xm_BadNumber := He.exm_ok (cd.fact 57 (f := .exm "BadNumber" "TintError" true) rfl)
    xm_Unknown := He.exm_ok (cd.fact 58 (f := .exm "Unknown" "TintError" true) rfl)
    xm_BadPoint := He.exm_ok (cd.fact 59 (f := .exm "BadPoint" "TintError" true) rfl)
    xm_BadBytes := He.exm_ok (cd.fact 60 (f := .exm "BadBytes" "TintError" true) rfl)
    xm_BadGroup := He.exm_ok (cd.fact 61 (f := .exm "BadGroup" "TintError" true) rfl)
    xm_BadPicture := He.exm_ok (cd.fact 62 (f := .exm "BadPicture" "TintError" true) rfl)
    xm_BadChange := He.exm_ok (cd.fact 63 (f := .exm "BadChange" "TintError" true) rfl)
    xm_TooMany := He.exm_ok (cd.fact 64 (f := .exm "TooMany" "TintError" true) rfl)
    xm_BadText := He.exm_ok (cd.fact 65 (f := .exm "BadText" "TintError" true) rfl)
    xm_BadLine := He.exm_ok (cd.fact 66 (f := .exm "BadLine" "TintError" true) rfl)
    xm_NotTurned := He.exm_ok (cd.fact 67 (f := .exm "NotTurned" "TintError" true) rfl)
    xm_BadClaim := He.exm_ok (cd.fact 68 (f := .exm "BadClaim" "TintError" true) rfl)
    xm_NothingDone := He.exm_ok (cd.fact 69 (f := .exm "NothingDone" "TintError" true) rfl)
    d_FORMS_ := ktab_of (He.glo_ok X G (cd.fact 40 (f := .glo "FORMS") rfl)) (tab_at c.x.t 0) (exe _ (List.mem_iff_getElem?.mpr ⟨0, rfl⟩))
    x_BadPart := xo_BadPart X G c
    x_BadNumber := xo_BadNumber X G c
    x_Unknown := xo_Unknown X G c
    x_BadPoint := xo_BadPoint X G c
    x_BadBytes := xo_BadBytes X G c
    x_BadGroup := xo_BadGroup X G c
    x_BadPicture := xo_BadPicture X G c
    x_BadChange := xo_BadChange X G c
    x_TooMany := xo_TooMany X G c
    x_BadText := xo_BadText X G c
    x_BadLine := xo_BadLine X G c
    x_NotTurned := xo_NotTurned X G c
    x_BadClaim := xo_BadClaim X G c
    x_NothingDone := xo_NothingDone X G c
    isx := ⟨f2, fun c hc d hd e => ?_, fun c hc f hf => ?_⟩
    t_law := TB ("law", none) (by simp [tf])
    isc := ⟨fun c hc => ?_, fun c hc => List.all_eq_true.mp e3 c hc, e2, fun c hc d hd e => ?_⟩ }
  · cases hc
  · cases hc
  · exact inj_of ndx hc hd e
  · have hc : c = 0 ∨ c = 1 ∨ c = 2 ∨ c = 3 ∨ c = 4 ∨ c = 5 ∨ c = 6 ∨ c = 7 ∨ c = 8 ∨ c = 9 ∨ c = 10 ∨ c = 11 ∨ c = 12 ∨ c = 13 := by simpa [es] using hc
    rcases hc with rfl | rfl | rfl | rfl | rfl | rfl | rfl | rfl | rfl | rfl | rfl | rfl | rfl | rfl
    · have hf : f = "part" ∨ f = "place" := by simpa [tb] using hf
      rcases hf with rfl | rfl
      · exact noat_ok (cd.fact 70 (f := .noat "BadPart" "part") rfl)
      · exact noat_ok (cd.fact 71 (f := .noat "BadPart" "place") rfl)
    · have hf : f = "value" := by simpa [tb] using hf
      subst hf
      · exact noat_ok (cd.fact 72 (f := .noat "BadNumber" "value") rfl)
    · have hf : f = "name" := by simpa [tb] using hf
      subst hf
      · exact noat_ok (cd.fact 73 (f := .noat "Unknown" "name") rfl)
    · have hf : f = "place" := by simpa [tb] using hf
      subst hf
      · exact noat_ok (cd.fact 74 (f := .noat "BadPoint" "place") rfl)
    · have hf : f = "place" := by simpa [tb] using hf
      subst hf
      · exact noat_ok (cd.fact 75 (f := .noat "BadBytes" "place") rfl)
    · have hf : f = "place" := by simpa [tb] using hf
      subst hf
      · exact noat_ok (cd.fact 76 (f := .noat "BadGroup" "place") rfl)
    · have hf : f = "place" := by simpa [tb] using hf
      subst hf
      · exact noat_ok (cd.fact 77 (f := .noat "BadPicture" "place") rfl)
    · have hf : f = "place" := by simpa [tb] using hf
      subst hf
      · exact noat_ok (cd.fact 78 (f := .noat "BadChange" "place") rfl)
    · have hf : f = "limit" := by simpa [tb] using hf
      subst hf
      · exact noat_ok (cd.fact 79 (f := .noat "TooMany" "limit") rfl)
    · have hf : f = "line" := by simpa [tb] using hf
      subst hf
      · exact noat_ok (cd.fact 80 (f := .noat "BadText" "line") rfl)
    · have hf : f = "line" := by simpa [tb] using hf
      subst hf
      · exact noat_ok (cd.fact 81 (f := .noat "BadLine" "line") rfl)
    · cases hf
    · cases hf
    · cases hf
end K26

namespace K26
open PySem PySem.Spec PyProof.Rows L2 Tv He
/-- the law from its plain statement -/
theorem facts {w : World} {K : PySem.W.Frag} {h : Heap} {mg : Str → Option Value} {f : Addr} (X : K.In h) (G : h.Ns mainGlobals mg) (hfa : mg ("law" : Str) = some (.ref f)) (c : SaysY fa fn tsl tf exK fx w h K) : LawG PySem.Challenge.rw_tintbridge_k26_which_are_changes w K 8 63 "script" mg f h := by
  obtain ⟨fd, F⟩ := c.x.t.d.def_ 17 (d := dd_law) rfl
  have e := hfa.symm.trans (He.glo_ok X G (c.x.t.d.fact 17 (f := .glo "law") rfl))
  cases e
  have b := FunD.bindsA (ps := ["script"]) F fun _ _ _ _ _ _ us hl => match us, hl with | [_], _ => rfl
  have ndt : ((tf.map (cT K)).map (·.2)).Nodup := by
    have := of_decide_eq_true (ba (ba (ba (ba c.x.more).2).2).2).1
    rw [List.map_map]
    exact this
  have mt : ∀ p ∈ tf.map (cT K), ∃ q ∈ tf, cT K q = p := fun p hp => List.mem_map.mp hp
  refine ⟨fd, tf.map (cT K), spD K (tb K) 1 F_law, fun p hp => ?_, fun p hp => ?_, fun p hp => ?_, fun s v => b s [v] rfl, lawG_sp ndt (fun i p hi => ?_) law_true, fun base b1 b2 TB A outer s H us vs Q E hg hr e0 bt r h => fnC_run (N := ["script", "row", "heads", "turn", "words", "k", "text", "due", "things", "odd", "told", "word"]) (ps := ["script"]) F sc_law (by decide) hr e0 bt r h fun cdv hc hr2 => bo_law (cn_of X G c fun p hp => TB _ (List.mem_map_of_mem (f := cT K) hp)) hg hc hr2⟩
  · obtain ⟨q, hq, rfl⟩ := mt p hp
    exact c.x.empty q hq
  · obtain ⟨q, hq, rfl⟩ := mt p hp
    exact c.x.out q hq
  · obtain ⟨q, hq, rfl⟩ := mt p hp
    exact PySem.W.codeHd_of_K X (c.x.hd q hq)
  · match i, hi with
    | 0, hi => cases hi; rfl
    | i + 1, hi => cases hi
end K26
open PySem PySem.W PySem.Calls PyProof.Rows in
set_option maxHeartbeats 0 in
theorem PySem.Challenge.cw_tintbridge_k26_which_are_changes_holds : PySem.Challenge.rw_tintbridge_k26_which_are_changes.Holds := by
  w_on; o_law
  refine HandSHeadRun.head_any (r := OpenLaw.row PySem.Challenge.rw_tintbridge_k26_which_are_changes) (q := view (OpenLaw.row PySem.Challenge.rw_tintbridge_k26_which_are_changes).prog [47]) (H := K26.hk) (ob := K26.ob) (M := 30000) (loose := K26.names) (d := HandSHeadRun.topDef (OpenLaw.row PySem.Challenge.rw_tintbridge_k26_which_are_changes).prog 47) (kwd := []) K26.ob_eq
    (by kernel_rfl) (fun s => by kernel_rfl) K26.run (by kernel_rfl) (by kernel_rfl) (by kernel_rfl) (by rfl) (by first | assumption | decide +kernel) (by decide +kernel) ⟨rfl, rfl, rfl, rfl, rfl, by decide +kernel⟩ ?hw ?hc
  case hw => w_witness2
  case hc =>
    refine Tv.walk_G (l := PySem.Challenge.rw_tintbridge_k26_which_are_changes) (n := 63) (k := 8) (x := "script") rfl (by decide) (by kernel_rfl) ⟨rfl, by decide, by decide⟩ ?F
    intro w mg fa h Y G hmg0
    obtain ⟨K, KX, c⟩ := Y
    have hmg : mg ("law" : PySem.Str) = some (.ref fa) := by
      have e : (HandSHeadRun.topDef (OpenLaw.row PySem.Challenge.rw_tintbridge_k26_which_are_changes).prog 47).name = ("law" : PySem.Str) := by kernel_rfl
      rw [← e]
      exact hmg0
    exact ⟨K, KX, K26.facts KX G hmg c⟩

