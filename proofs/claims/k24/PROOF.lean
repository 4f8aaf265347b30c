import PyProof.Rows.All
import Wide.All
import OpenK.AllK
import Wide.FinOn
import HandS.Conv
import HandS.Deep
import HandS.DeepEq
import HandS.ForExc
import HandS.ForMost
import HandS.IsInst
import HandS.Style
import HandS.WordsExc
import PySem.Challenge.RW_coretower_k24_worth_and_guard
set_option Elab.async false
set_option linter.all false
set_option maxRecDepth 100000
set_option maxHeartbeats 4000000
namespace VS
open PySem L2

/-! ### data -/
inductive D where
  | non
  | bl (b : Bool)
  | int (i : Int)
  | str (x : Str)
  | tup (xs : List D)
  | ktup (xs : List D)
  | lst (xs : List D)
  | dK (kvs : List (Key × D))
  | dT (kvs : List (List Key × D))
  | obj (c : Nat) (fs : List (Str × D))
  | ty (n : String)
  | scr (ns : List Int)

structure Gm where
  K : PySem.W.Frag
  ct : Nat → Addr

/-- a key's text is a text -/
def kOk : Key → Bool
  | .inl _ => true
  | .inr x => PyData.strOk x
def ksOk (ds : List (Key × D)) : Bool := ds.all fun kd => kOk kd.1
def ktOk (ds : List (List Key × D)) : Bool := ds.all fun kd => kd.1.all kOk
/-- a tuple of the module -/
def KT (K : PySem.W.Frag) (a : Addr) (xs : List V) : Prop := ∃ (o : Obj) (its : Array Value) (n : Nat), K.lookup a = some o ∧ o.cls = .type "tuple" ∧ o.data = .seq its n ∧ its.size ≤ sizeLine ∧ Vals xs its.toList
/-- the script: a list that is read alone -/
def Scr (K : PySem.W.Frag) (H : Hp) (a : Addr) (ns : List Int) : Prop := (∃ o, H a = some (.frz o (.lst (ns.map V.int)))) ∨
  ∃ (o : Obj) (its : Array Value) (n : Nat), K.lookup a = some o ∧ o.cls = .type "list" ∧ o.dict = none ∧ o.data = .seq its n ∧ its.size ≤ sizeLine ∧ Vals (ns.map V.int) its.toList
theorem Scr.sq {K : PySem.W.Frag} {H : Hp} {a : Addr} {ns : List Int} (h : Scr K H a ns) : SqL K H a (ns.map V.int) := by
  rcases h with ⟨o, h⟩ | h
  · exact .inl (.inr ⟨o, h⟩)
  · exact .inr h
mutual
inductive Rep (Γ : Gm) (O : Addr → Prop) (H : Hp) : V → D → Prop
  | non : Rep Γ O H .non .non
  | bl (b : Bool) : Rep Γ O H (.bl b) (.bl b)
  | int (i : Int) : Rep Γ O H (.int i) (.int i)
  | str (x : Str) : PyData.strOk x = true → Rep Γ O H (.str x) (.str x)
  | ty (n : String) : Rep Γ O H (.ty n) (.ty n)
  | tup {a : Addr} {vs : List V} {ds : List D} : H a = some (.tup vs) → Reps Γ O H vs ds → Rep Γ O H (.ref a) (.tup ds)
  | ktup {a : Addr} {vs : List V} {ds : List D} : KT Γ.K a vs → Reps Γ O H vs ds → Rep Γ O H (.ref a) (.ktup ds)
  | scr {a : Addr} {ns : List Int} : Scr Γ.K H a ns → Rep Γ O H (.ref a) (.scr ns)
  | lst {a : Addr} {vs : List V} {ds : List D} : H a = some (.lst vs) → ¬ O a → Reps Γ O H vs ds → Rep Γ O H (.ref a) (.lst ds)
  | dK {a : Addr} {kvs : List (Key × V)} {ds : List (Key × D)} : H a = some (.dK kvs) → ¬ O a → kvs.map (·.1) = ds.map (·.1) ∧ ksOk ds = true → Reps Γ O H (kvs.map (·.2)) (ds.map (·.2)) → Rep Γ O H (.ref a) (.dK ds)
  | dT {a : Addr} {kvs : List (List Key × V)} {ds : List (List Key × D)} : H a = some (.dT kvs) → ¬ O a → kvs.map (·.1) = ds.map (·.1) ∧ ktOk ds = true → Reps Γ O H (kvs.map (·.2)) (ds.map (·.2)) → Rep Γ O H (.ref a) (.dT ds)
  | obj {a dx : Addr} {fs : List (Str × V)} {c : Nat} {ds : List (Str × D)} : H a = some (.ins (Γ.ct c) dx fs) → ¬ O a → fs.map (·.1) = ds.map (·.1) → Reps Γ O H (fs.map (·.2)) (ds.map (·.2)) → Rep Γ O H (.ref a) (.obj c ds)
inductive Reps (Γ : Gm) (O : Addr → Prop) (H : Hp) : List V → List D → Prop
  | nil : Reps Γ O H [] []
  | cons {v : V} {vs : List V} {d : D} {ds : List D} : Rep Γ O H v d → Reps Γ O H vs ds → Reps Γ O H (v :: vs) (d :: ds)
end

/-- what may be carried over: O' within O on what stands, the objects outside O stay -/
structure Ov (O O' : Addr → Prop) (H H' : Hp) : Prop where
  sub : ∀ a o, H a = some o → O' a → O a
  mu : ∀ a, O a → Mut (H a)
  keep : ∀ a o, H a = some o → ¬ O a → H' a = some o
theorem Ov.not {O O' : Addr → Prop} {H H' : Hp} {a : Addr} {u : HO} (e : Ov O O' H H') (h : H a = some u) (n : ¬ O a) : ¬ O' a := fun z => n (e.sub a _ h z)
theorem Ov.scr {O O' : Addr → Prop} {H H' : Hp} {K : PySem.W.Frag} {a : Addr} {ns : List Int} (e : Ov O O' H H') (h : Scr K H a ns) : Scr K H' a ns := by
  rcases h with ⟨o, h⟩ | h
  · refine .inl ⟨o, e.keep a _ h fun z => ?_⟩
    have := e.mu a z
    rw [h] at this
    exact this
  · exact .inr h
theorem Ov.tup {O O' : Addr → Prop} {H H' : Hp} {a : Addr} {vs : List V} (e : Ov O O' H H') (h : H a = some (.tup vs)) : H' a = some (.tup vs) := by
  refine e.keep a _ h fun z => ?_
  have := e.mu a z
  rw [h] at this
  exact this
mutual
theorem Rep.to {Γ : Gm} {O O' : Addr → Prop} {H H' : Hp} (e : Ov O O' H H') : ∀ {v : V} {d : D}, Rep Γ O H v d → Rep Γ O' H' v d
  | _, _, .non => .non
  | _, _, .bl b => .bl b
  | _, _, .int i => .int i
  | _, _, .str x h => .str x h
  | _, _, .ty x => .ty x
  | _, _, .tup h r => .tup (e.tup h) (Reps.to e r)
  | _, _, .ktup h r => .ktup h (Reps.to e r)
  | _, _, .scr h => .scr (e.scr h)
  | _, _, .lst h n r => .lst (e.keep _ _ h n) (e.not h n) (Reps.to e r)
  | _, _, .dK h n k r => .dK (e.keep _ _ h n) (e.not h n) k (Reps.to e r)
  | _, _, .dT h n k r => .dT (e.keep _ _ h n) (e.not h n) k (Reps.to e r)
  | _, _, .obj h n k r => .obj (e.keep _ _ h n) (fun z => n (e.sub _ _ h z)) k (Reps.to e r)
theorem Reps.to {Γ : Gm} {O O' : Addr → Prop} {H H' : Hp} (e : Ov O O' H H') : ∀ {vs : List V} {ds : List D}, Reps Γ O H vs ds → Reps Γ O' H' vs ds
  | _, _, .nil => .nil
  | _, _, .cons h r => .cons (Rep.to e h) (Reps.to e r)
end

/-- a root that nobody else refers to: its children avoid all such roots -/
inductive Own (Γ : Gm) (O : Addr → Prop) (H : Hp) : V → D → Prop
  | lst {a : Addr} {vs : List V} {ds : List D} : H a = some (.lst vs) → O a → Reps Γ O H vs ds → Own Γ O H (.ref a) (.lst ds)
  | dK {a : Addr} {kvs : List (Key × V)} {ds : List (Key × D)} : H a = some (.dK kvs) → O a → kvs.map (·.1) = ds.map (·.1) ∧ ksOk ds = true → Reps Γ O H (kvs.map (·.2)) (ds.map (·.2)) → Own Γ O H (.ref a) (.dK ds)
  | dT {a : Addr} {kvs : List (List Key × V)} {ds : List (List Key × D)} : H a = some (.dT kvs) → O a → kvs.map (·.1) = ds.map (·.1) ∧ ktOk ds = true → Reps Γ O H (kvs.map (·.2)) (ds.map (·.2)) → Own Γ O H (.ref a) (.dT ds)
  | obj {a dx : Addr} {fs : List (Str × V)} {c : Nat} {ds : List (Str × D)} : H a = some (.ins (Γ.ct c) dx fs) → O a → fs.map (·.1) = ds.map (·.1) → Reps Γ O H (fs.map (·.2)) (ds.map (·.2)) → Own Γ O H (.ref a) (.obj c ds)
/-- a value that is looked at: its root may be owned -/
inductive Bor (Γ : Gm) (O : Addr → Prop) (H : Hp) : V → D → Prop
  | rep {v : V} {d : D} : Rep Γ O H v d → Bor Γ O H v d
  | own {v : V} {d : D} : Own Γ O H v d → Bor Γ O H v d
inductive Bors (Γ : Gm) (O : Addr → Prop) (H : Hp) : List V → List D → Prop
  | nil : Bors Γ O H [] []
  | cons {v : V} {vs : List V} {d : D} {ds : List D} : Bor Γ O H v d → Bors Γ O H vs ds → Bors Γ O H (v :: vs) (d :: ds)

/-- an owned root let go -/
theorem Own.rep {Γ : Gm} {O O' : Addr → Prop} {H : Hp} {a : Addr} {d : D} (h : Own Γ O H (.ref a) d) (e : Ov O O' H H) (n : ¬ O' a) : Rep Γ O' H (.ref a) d := by
  cases h with
  | lst h o r => exact .lst h n (r.to e)
  | dK h o k r => exact .dK h n k (r.to e)
  | dT h o k r => exact .dT h n k (r.to e)
  | obj h o k r => exact .obj h n k (r.to e)
/-- an owned root carried over: its own object stays too -/
theorem Own.to {Γ : Gm} {O O' : Addr → Prop} {H H' : Hp} {a : Addr} {d : D} (h : Own Γ O H (.ref a) d) (e : Ov O O' H H') (n : O' a) (k : ∀ o, H a = some o → H' a = some o) : Own Γ O' H' (.ref a) d := by
  cases h with
  | lst h o r => exact .lst (k _ h) n (r.to e)
  | dK h o q r => exact .dK (k _ h) n q (r.to e)
  | dT h o q r => exact .dT (k _ h) n q (r.to e)
  | obj h o q r => exact .obj (k _ h) n q (r.to e)
theorem Own.ref {Γ : Gm} {O : Addr → Prop} {H : Hp} {v : V} {d : D} (h : Own Γ O H v d) : ∃ a, v = .ref a ∧ O a ∧ ∃ o, H a = some o := by
  cases h with
  | lst h o r => exact ⟨_, rfl, o, _, h⟩
  | dK h o q r => exact ⟨_, rfl, o, _, h⟩
  | dT h o q r => exact ⟨_, rfl, o, _, h⟩
  | obj h o q r => exact ⟨_, rfl, o, _, h⟩

/-! ### slots -/
abbrev Slot := D × Bool
abbrev Sl := List (Option Slot)
def roots (σ : St) (ρ : Sl) (a : Addr) : Prop := ∃ (i : Nat) (d : D), ρ[i]? = some (some (d, true)) ∧ σ[i]? = some (some (V.ref a))
def OA (Z : Addr → Prop) (σ : St) (ρ : Sl) (a : Addr) : Prop := Z a ∨ roots σ ρ a
def Zadd (Z : Addr → Prop) (p : Addr) : Addr → Prop := fun b => Z b ∨ b = p
structure FR (Γ : Gm) (Z : Addr → Prop) (σ : St) (ρ : Sl) (H : Hp) : Prop where
  len : σ.length = ρ.length
  mu : ∀ a, OA Z σ ρ a → Mut (H a)
  sh : ∀ (i : Nat) d, ρ[i]? = some (some (d, false)) → ∃ v, σ[i]? = some (some v) ∧ Rep Γ (OA Z σ ρ) H v d
  ow : ∀ (i : Nat) d, ρ[i]? = some (some (d, true)) → ∃ v, σ[i]? = some (some v) ∧ Own Γ (OA Z σ ρ) H v d
  inj : ∀ (i j : Nat) d e a, ρ[i]? = some (some (d, true)) → ρ[j]? = some (some (e, true)) → σ[i]? = some (some (V.ref a)) → σ[j]? = some (some (V.ref a)) → i = j
  dis : ∀ a, Z a → ¬ roots σ ρ a
structure Step (σ : St) (ρ : Sl) (H : Hp) (σ' : St) (ρ' : Sl) (H' : Hp) : Prop where
  keep : ∀ a o, H a = some o → ¬ roots σ ρ a → H' a = some o
  dom : ∀ a o, H a = some o → ∃ o', H' a = some o'
  new : ∀ a, roots σ' ρ' a → roots σ ρ a ∨ H a = none
theorem Step.refl {σ : St} {ρ : Sl} {H : Hp} : Step σ ρ H σ ρ H := ⟨fun _ _ h _ => h, fun _ _ h => ⟨_, h⟩, fun _ h => .inl h⟩
theorem Step.free {σ σ' : St} {ρ ρ' : Sl} {H H' : Hp} (s : Step σ ρ H σ' ρ' H') {a : Addr} (h : H' a = none) : H a = none := by
  cases e : H a with
  | none => rfl
  | some o => obtain ⟨o', e'⟩ := s.dom a o e; rw [h] at e'; cases e'
theorem Step.trans {σ σ' σ2 : St} {ρ ρ' ρ2 : Sl} {H H' H2 : Hp} (s : Step σ ρ H σ' ρ' H') (t : Step σ' ρ' H' σ2 ρ2 H2) : Step σ ρ H σ2 ρ2 H2 where
  keep := fun a o h n => t.keep a o (s.keep a o h n) fun z => by
    rcases s.new a z with q | q
    · exact n q
    · rw [h] at q; cases q
  dom := fun a o h => by
    obtain ⟨o', h'⟩ := s.dom a o h
    exact t.dom a o' h'
  new := fun a z => by
    rcases t.new a z with q | q
    · exact s.new a q
    · exact .inr (s.free q)
section
variable {Γ : Gm} {Z Z' : Addr → Prop} {σ σ' : St} {ρ ρ' : Sl} {H H' : Hp}
/-- what is not owned is carried over a step -/
theorem Step.ov (s : Step σ ρ H σ' ρ' H') (f : FR Γ Z σ ρ H) : Ov (OA Z σ ρ) (OA Z σ' ρ') H H' where
  sub := fun a o h z => by
    rcases z with z | z
    · exact .inl z
    · rcases s.new a z with q | q
      · exact .inr q
      · rw [h] at q; cases q
  mu := f.mu
  keep := fun a o h n => s.keep a o h fun z => n (.inr z)
theorem Step.rep (s : Step σ ρ H σ' ρ' H') (f : FR Γ Z σ ρ H) {v : V} {d : D} (h : Rep Γ (OA Z σ ρ) H v d) : Rep Γ (OA Z σ' ρ') H' v d := h.to (s.ov f)
theorem FR.get (f : FR Γ Z σ ρ H) {i : Nat} {s : Slot} (h : ρ[i]? = some (some s)) : ∃ v, σ[i]? = some (some v) ∧ Bor Γ (OA Z σ ρ) H v s.1 := by
  obtain ⟨d, b⟩ := s
  cases b with
  | false => obtain ⟨v, e, r⟩ := f.sh i d h; exact ⟨v, e, .rep r⟩
  | true => obtain ⟨v, e, r⟩ := f.ow i d h; exact ⟨v, e, .own r⟩
theorem FR.nfresh (f : FR Γ Z σ ρ H) {a : Addr} (h : H a = none) : ¬ OA Z σ ρ a := fun z => by
  have := f.mu a z
  rw [h] at this
  exact this
/-- the heap has grown -/
structure Ext (H H' : Hp) : Prop where
  ex : ∀ a o, H a = some o → H' a = some o
theorem Ext.refl (H : Hp) : Ext H H := ⟨fun _ _ h => h⟩
theorem Ext.trans {H H1 H2 : Hp} (a : Ext H H1) (b : Ext H1 H2) : Ext H H2 := ⟨fun x o h => b.ex x o (a.ex x o h)⟩
theorem Ext.new {H : Hp} {p : Addr} {o : HO} (h : H p = none) : Ext H (upd H p o) := ⟨fun a u e => by rw [upd_ne (ne_of_none e h)]; exact e⟩
theorem Ext.step (e : Ext H H') : Step σ ρ H σ ρ H' := ⟨fun a o h _ => e.ex a o h, fun a o h => ⟨o, e.ex a o h⟩, fun a z => .inl z⟩
theorem Ext.ov {O : Addr → Prop} (e : Ext H H') (m : ∀ a, O a → Mut (H a)) : Ov O O H H' := ⟨fun _ _ _ z => z, m, fun a o h _ => e.ex a o h⟩
theorem FR.ext (f : FR Γ Z σ ρ H) (e : Ext H H') : FR Γ Z σ ρ H' where
  len := f.len
  mu := fun a z => by
    have := f.mu a z
    cases q : H a with
    | none => rw [q] at this; exact this.elim
    | some o => rw [e.ex a o q]; rw [q] at this; exact this
  sh := fun i d h => by
    obtain ⟨v, e1, r⟩ := f.sh i d h
    exact ⟨v, e1, r.to (e.ov f.mu)⟩
  ow := fun i d h => by
    obtain ⟨v, e1, r⟩ := f.ow i d h
    obtain ⟨a, rfl, o, _⟩ := r.ref
    exact ⟨_, e1, r.to (e.ov f.mu) o fun u q => e.ex a u q⟩
  inj := f.inj
  dis := f.dis
/-- a new root joins Z -/
theorem OA.zadd {p a : Addr} : OA (Zadd Z p) σ ρ a ↔ OA Z σ ρ a ∨ a = p := by
  unfold OA Zadd
  constructor
  · rintro ((h | h) | h)
    · exact .inl (.inl h)
    · exact .inr h
    · exact .inl (.inr h)
  · rintro ((h | h) | h)
    · exact .inl (.inl h)
    · exact .inr h
    · exact .inl (.inr h)
theorem FR.zadd (f : FR Γ Z σ ρ H) {p : Addr} (e : Ext H H') (hp : H p = none) (mp : Mut (H' p)) : FR Γ (Zadd Z p) σ ρ H' := by
  have ov : Ov (OA Z σ ρ) (OA (Zadd Z p) σ ρ) H H' := ⟨fun a o h z => by
    rcases OA.zadd.mp z with z | z
    · exact z
    · rw [z, hp] at h; exact (nomatch h), f.mu, fun a o h _ => e.ex a o h⟩
  have f' := f.ext e
  refine ⟨f.len, fun a z => ?_, fun i d h => ?_, fun i d h => ?_, f.inj, fun a z r => ?_⟩
  · rcases OA.zadd.mp z with z | z
    · exact f'.mu a z
    · rw [z]; exact mp
  · obtain ⟨v, e1, r⟩ := f.sh i d h
    exact ⟨v, e1, r.to ov⟩
  · obtain ⟨v, e1, r⟩ := f.ow i d h
    obtain ⟨a, rfl, o, _⟩ := r.ref
    exact ⟨_, e1, r.to ov (OA.zadd.mpr (.inl o)) fun u q => e.ex a u q⟩
  · rcases z with z | z
    · exact f.dis a z r
    · subst z
      exact f.nfresh hp (.inr r)
/-- a root leaves Z -/
theorem FR.zdrop (f : FR Γ Z σ ρ H) (s : ∀ a, Z' a → Z a) : FR Γ Z' σ ρ H := by
  have ov : Ov (OA Z σ ρ) (OA Z' σ ρ) H H := ⟨fun a o h z => z.imp (s a) id, f.mu, fun _ _ h _ => h⟩
  refine ⟨f.len, fun a z => f.mu a (z.imp (s a) id), fun i d h => ?_, fun i d h => ?_, f.inj, fun a z => f.dis a (s a z)⟩
  · obtain ⟨v, e1, r⟩ := f.sh i d h
    exact ⟨v, e1, r.to ov⟩
  · obtain ⟨v, e1, r⟩ := f.ow i d h
    obtain ⟨a, rfl, o, _⟩ := r.ref
    exact ⟨_, e1, r.to ov (.inr ⟨i, d, h, e1⟩) fun u q => q⟩
end
end VS

namespace VS
open PySem L2

/-! ### results -/
inductive Res (α : Type) where
  | ok (a : α) (ρ : Sl)
  | exc (c : Nat) (fs : List (Str × D)) (ρ : Sl)
  | stuck
def Res.bind {α β : Type} (x : Res α) (f : α → Sl → Res β) : Res β := match x with
  | .ok a ρ => f a ρ
  | .exc c fs ρ => .exc c fs ρ
  | .stuck => .stuck
@[simp] theorem Res.bind_ok {α β : Type} (a : α) (ρ : Sl) (f : α → Sl → Res β) : (Res.ok a ρ).bind f = f a ρ := rfl
@[simp] theorem Res.bind_exc {α β : Type} (c : Nat) (fs : List (Str × D)) (ρ : Sl) (f : α → Sl → Res β) : (Res.exc c fs ρ : Res α).bind f = .exc c fs ρ := rfl
@[simp] theorem Res.bind_stuck {α β : Type} (f : α → Sl → Res β) : (Res.stuck : Res α).bind f = .stuck := rfl
abbrev CExp := Sl → Res Slot
abbrev CTst := Sl → Res Bool
inductive Out where
  | nx | bk | ct
  | rt (s : Slot)
abbrev CStm := Sl → Res Out

def XRep (Γ : Gm) (O : Addr → Prop) (H : Hp) (d : Option Addr) (fs : List (Str × D)) : Prop := match d with
  | some dx => ∃ vs : List (Str × V), H dx = some (.xd vs) ∧ vs.map (·.1) = fs.map (·.1) ∧ Reps Γ O H (vs.map (·.2)) (fs.map (·.2))
  | none => fs = []
def Fx (fx : List Nat) (σ σ' : St) : Prop := ∀ i ∈ fx, σ'[i]? = σ[i]?
theorem Fx.refl {fx : List Nat} {σ : St} : Fx fx σ σ := fun _ _ => rfl
theorem Fx.trans {fx : List Nat} {σ σ' σ2 : St} (a : Fx fx σ σ') (b : Fx fx σ' σ2) : Fx fx σ σ2 := fun i h => (b i h).trans (a i h)

section
variable (Γ : Gm) (Z : Addr → Prop) (σ : St) (ρ : Sl) (H : Hp)
def PostX (c : Nat) (fs : List (Str × D)) (ρ' : Sl) (W : WX) : Prop := ∀ d H', FR Γ Z σ ρ' H' → Step σ ρ H σ ρ' H' → XRep Γ (OA Z σ ρ') H' d fs → W (.ref (Γ.ct c)) d σ H'
def PostV (s : Slot) (ρ' : Sl) (Q : VK) : Prop := match s with
  | (d, false) => ∀ v H', FR Γ Z σ ρ' H' → Step σ ρ H σ ρ' H' → Rep Γ (OA Z σ ρ') H' v d → Q v H'
  | (d, true) => ∀ a H', FR Γ (Zadd Z a) σ ρ' H' → Step σ ρ H σ ρ' H' → ¬ Z a → (H a = none ∨ roots σ ρ a) → Own Γ (OA (Zadd Z a) σ ρ') H' (.ref a) d → Q (.ref a) H'
def EndV (r : Res Slot) (W : WX) (Q : VK) : Prop := match r with
  | .ok s ρ' => PostV Γ Z σ ρ H s ρ' Q
  | .exc c fs ρ' => PostX Γ Z σ ρ H c fs ρ' W
  | .stuck => False
def EndD (r : Res Slot) (W : WX) (Q : VK) : Prop := match r with
  | .ok s ρ' => ∀ v H', FR Γ Z σ ρ' H' → Step σ ρ H σ ρ' H' → Rep Γ (OA Z σ ρ') H' v s.1 → Q v H'
  | .exc c fs ρ' => PostX Γ Z σ ρ H c fs ρ' W
  | .stuck => False
def EndB (r : Res Bool) (W : WX) (Q : Bool → Hp → Prop) : Prop := match r with
  | .ok b ρ' => ∀ H', FR Γ Z σ ρ' H' → Step σ ρ H σ ρ' H' → Q b H'
  | .exc c fs ρ' => PostX Γ Z σ ρ H c fs ρ' W
  | .stuck => False
def EndS (fx : List Nat) (r : Res Out) (W : WX) (E : Ends) : Prop := match r with
  | .ok .nx ρ' => ∀ σ' H', FR Γ Z σ' ρ' H' → Step σ ρ H σ' ρ' H' → Fx fx σ σ' → E.nx σ' H'
  | .ok .bk ρ' => ∀ σ' H', FR Γ Z σ' ρ' H' → Step σ ρ H σ' ρ' H' → Fx fx σ σ' → E.bk σ' H'
  | .ok .ct ρ' => ∀ σ' H', FR Γ Z σ' ρ' H' → Step σ ρ H σ' ρ' H' → Fx fx σ σ' → E.ct σ' H'
  | .ok (.rt (d, false)) ρ' => ∀ v σ' H', FR Γ Z σ' ρ' H' → Step σ ρ H σ' ρ' H' → Fx fx σ σ' → Rep Γ (OA Z σ' ρ') H' v d → E.rt v H'
  | .ok (.rt (d, true)) ρ' => ∀ a σ' H', FR Γ (Zadd Z a) σ' ρ' H' → Step σ ρ H σ' ρ' H' → Fx fx σ σ' → ¬ Z a → (H a = none ∨ roots σ ρ a) → Own Γ (OA (Zadd Z a) σ' ρ') H' (.ref a) d → E.rt (.ref a) H'
  | .exc c fs ρ' => ∀ d σ' H', FR Γ Z σ' ρ' H' → Step σ ρ H σ' ρ' H' → Fx fx σ σ' → XRep Γ (OA Z σ' ρ') H' d fs → W (.ref (Γ.ct c)) d σ' H'
  | .stuck => False
end
def SE (Γ : Gm) (W : WX) (t : TE) (m : CExp) : Prop := ∀ Z σ ρ H Q, FR Γ Z σ ρ H → EndV Γ Z σ ρ H (m ρ) W Q → t σ H Q
def ST (Γ : Gm) (W : WX) (t : TT) (m : CTst) : Prop := ∀ Z σ ρ H Q, FR Γ Z σ ρ H → EndB Γ Z σ ρ H (m ρ) W Q → t σ H Q
def SS (Γ : Gm) (fx : List Nat) (W : WX) (t : TS) (m : CStm) : Prop := ∀ Z σ ρ H E, FR Γ Z σ ρ H → EndS Γ Z σ ρ H fx (m ρ) W E → t E σ H

section
variable {Γ : Gm} {W : WX} {Z : Addr → Prop} {σ σ1 : St} {ρ ρ1 ρ' : Sl} {H H1 : Hp} {t u : TE} {m m' : CExp} {fx : List Nat}
/-- the state of an exception, carried over a step -/
theorem Step.root (s : Step σ ρ H σ1 ρ1 H1) {a : Addr} (h : H1 a = none ∨ roots σ1 ρ1 a) : H a = none ∨ roots σ ρ a := by
  rcases h with h | h
  · exact .inl (s.free h)
  · exact (s.new a h).symm
theorem PostX.on {c : Nat} {fs : List (Str × D)} (s : Step σ ρ H σ ρ1 H1) (p : PostX Γ Z σ ρ H c fs ρ' W) : PostX Γ Z σ ρ1 H1 c fs ρ' W := fun d H' f t x => p d H' f (s.trans t) x
theorem PostV.on {sl : Slot} {Q : VK} (s : Step σ ρ H σ ρ1 H1) (p : PostV Γ Z σ ρ H sl ρ' Q) : PostV Γ Z σ ρ1 H1 sl ρ' Q := by
  obtain ⟨d, b⟩ := sl
  cases b with
  | false => exact fun v H' f t x => p v H' f (s.trans t) x
  | true => exact fun a H' f t n q x => p a H' f (s.trans t) n (s.root q) x
theorem EndV.on {r : Res Slot} {Q : VK} (s : Step σ ρ H σ ρ1 H1) (p : EndV Γ Z σ ρ H r W Q) : EndV Γ Z σ ρ1 H1 r W Q := by
  cases r with
  | ok sl ρ' => exact PostV.on s p
  | exc c fs ρ' => exact PostX.on s p
  | stuck => exact p
theorem EndD.on {r : Res Slot} {Q : VK} (s : Step σ ρ H σ ρ1 H1) (p : EndD Γ Z σ ρ H r W Q) : EndD Γ Z σ ρ1 H1 r W Q := by
  cases r with
  | ok sl ρ' => exact fun v H' f t x => p v H' f (s.trans t) x
  | exc c fs ρ' => exact PostX.on s p
  | stuck => exact p
theorem EndB.on {r : Res Bool} {Q : Bool → Hp → Prop} (s : Step σ ρ H σ ρ1 H1) (p : EndB Γ Z σ ρ H r W Q) : EndB Γ Z σ ρ1 H1 r W Q := by
  cases r with
  | ok sl ρ' => exact fun H' f t => p H' f (s.trans t)
  | exc c fs ρ' => exact PostX.on s p
  | stuck => exact p
theorem EndS.on {r : Res Out} {E : Ends} (s : Step σ ρ H σ1 ρ1 H1) (g : Fx fx σ σ1) (p : EndS Γ Z σ ρ H fx r W E) : EndS Γ Z σ1 ρ1 H1 fx r W E := by
  cases r with
  | ok o ρ' =>
    cases o with
    | nx => exact fun σ' H' f t x => p σ' H' f (s.trans t) (g.trans x)
    | bk => exact fun σ' H' f t x => p σ' H' f (s.trans t) (g.trans x)
    | ct => exact fun σ' H' f t x => p σ' H' f (s.trans t) (g.trans x)
    | rt sl =>
      obtain ⟨d, b⟩ := sl
      cases b with
      | false => exact fun v σ' H' f t x r => p v σ' H' f (s.trans t) (g.trans x) r
      | true => exact fun a σ' H' f t x n q r => p a σ' H' f (s.trans t) (g.trans x) n (s.root q) r
  | exc c fs ρ' => exact fun d σ' H' f t x r => p d σ' H' f (s.trans t) (g.trans x) r
  | stuck => exact p
/-- only the value is wanted -/
theorem SE.val {Q : VK} (h : SE Γ W t m) (f : FR Γ Z σ ρ H) (k : EndD Γ Z σ ρ H (m ρ) W Q) : t σ H Q := by
  refine h Z σ ρ H Q f ?_
  revert k
  cases m ρ with
  | ok sl ρ' =>
    obtain ⟨d, b⟩ := sl
    cases b with
    | false => exact fun k => k
    | true =>
      intro k a H' f' s n q o
      have f2 : FR Γ Z σ ρ' H' := f'.zdrop fun _ z => .inl z
      refine k (.ref a) H' f2 s (o.rep ⟨fun b u _ z => ?_, f'.mu, fun _ _ h _ => h⟩ fun z => ?_)
      · exact OA.zadd.mpr (.inl z)
      · rcases z with z | z
        · exact n z
        · exact f'.dis a (.inr rfl) z
  | exc c fs ρ' => exact fun k => k
  | stuck => exact fun k => k

/-! ### operands: a name is looked at when all are there -/
inductive Opd where
  | v (i : Nat)
  | e (m : CExp)
def SO (Γ : Gm) (W : WX) (t : TE) : Opd → Prop
  | .v i => t = tVar i
  | .e m => SE Γ W t m
inductive SA (Γ : Gm) (W : WX) : TA → List Opd → Prop
  | nil : SA Γ W tNil []
  | cons {te : TE} {ta : TA} {o : Opd} {os : List Opd} : SO Γ W te o → SA Γ W ta os → SA Γ W (tCons te ta) (o :: os)
def evO : List Opd → Sl → Res (List (Option D))
  | [], ρ => .ok [] ρ
  | .v i :: os, ρ => match ρ[i]? with
    | some (some _) => (evO os ρ).bind fun xs ρ' => .ok (none :: xs) ρ'
    | _ => .stuck
  | .e m :: os, ρ => (m ρ).bind fun s ρ1 => (evO os ρ1).bind fun xs ρ2 => .ok (some s.1 :: xs) ρ2
inductive OR (Γ : Gm) (Z : Addr → Prop) (σ : St) (ρ : Sl) (H : Hp) : List Opd → List (Option D) → List V → Prop
  | nil : OR Γ Z σ ρ H [] [] []
  | v {i : Nat} {v : V} {os : List Opd} {xs : List (Option D)} {vs : List V} : σ[i]? = some (some v) → OR Γ Z σ ρ H os xs vs → OR Γ Z σ ρ H (.v i :: os) (none :: xs) (v :: vs)
  | e {m : CExp} {d : D} {v : V} {os : List Opd} {xs : List (Option D)} {vs : List V} : Rep Γ (OA Z σ ρ) H v d → OR Γ Z σ ρ H os xs vs → OR Γ Z σ ρ H (.e m :: os) (some d :: xs) (v :: vs)
def EndA (Γ : Gm) (Z : Addr → Prop) (σ : St) (ρ : Sl) (H : Hp) (os : List Opd) (r : Res (List (Option D))) (W : WX) (Q : List V → Hp → Prop) : Prop := match r with
  | .ok xs ρ' => ∀ vs H', FR Γ Z σ ρ' H' → Step σ ρ H σ ρ' H' → OR Γ Z σ ρ' H' os xs vs → Q vs H'
  | .exc c fs ρ' => PostX Γ Z σ ρ H c fs ρ' W
  | .stuck => False
theorem SA.run {ta : TA} {os : List Opd} (h : SA Γ W ta os) : ∀ {Z σ ρ H} {Q : List V → Hp → Prop}, FR Γ Z σ ρ H → EndA Γ Z σ ρ H os (evO os ρ) W Q → ta σ H Q := by
  induction h with
  | nil => exact fun f k => k _ _ f Step.refl .nil
  | @cons te ta o os ho ha ih =>
    intro Z σ ρ H Q f k
    cases o with
    | v i =>
      have e : te = tVar i := ho
      subst e
      unfold evO at k
      cases q : ρ[i]? with
      | none => rw [q] at k; exact k.elim
      | some w =>
        cases w with
        | none => rw [q] at k; exact k.elim
        | some sl =>
          rw [q] at k
          obtain ⟨v, hv, _⟩ := f.get q
          refine ⟨v, hv, ih f ?_⟩
          simp only at k
          revert k
          cases evO os ρ with
          | ok xs ρ' => exact fun k vs H' f' s r => k (v :: vs) H' f' s (.v hv r)
          | exc c fs ρ' => exact fun k => k
          | stuck => exact fun k => k
    | e m =>
      have hm : SE Γ W te m := ho
      refine hm.val f ?_
      unfold evO at k
      revert k
      cases m ρ with
      | ok sl ρ1 =>
        intro k v H1 f1 s1 r1
        refine ih f1 ?_
        simp only [Res.bind_ok] at k
        revert k
        cases evO os ρ1 with
        | ok xs ρ' => exact fun k vs H' f' s r => k (v :: vs) H' f' (s1.trans s) (.e (s.rep f1 r1) r)
        | exc c fs ρ' => exact fun k => PostX.on s1 k
        | stuck => exact fun k => k
      | exc c fs ρ1 => exact fun k => k
      | stuck => exact fun k => k
def late : List Opd → List (Option D) → Sl → Option (List D)
  | [], [], _ => some []
  | .v i :: os, none :: xs, ρ => match ρ[i]?, late os xs ρ with
    | some (some s), some ds => some (s.1 :: ds)
    | _, _ => none
  | .e _ :: os, some d :: xs, ρ => match late os xs ρ with
    | some ds => some (d :: ds)
    | none => none
  | _, _, _ => none
theorem OR.late (f : FR Γ Z σ ρ H) {os : List Opd} {xs : List (Option D)} {vs : List V} (h : OR Γ Z σ ρ H os xs vs) : ∀ {ds : List D}, VS.late os xs ρ = some ds → Bors Γ (OA Z σ ρ) H vs ds := by
  induction h with
  | nil => intro ds e; cases e; exact .nil
  | @v i v os xs vs hv _ ih =>
    intro ds e
    unfold VS.late at e
    cases q : ρ[i]? with
    | none => rw [q] at e; cases e
    | some w =>
      cases w with
      | none => rw [q] at e; cases e
      | some sl =>
        rw [q] at e
        cases q2 : VS.late os xs ρ with
        | none => rw [q2] at e; cases e
        | some ds' =>
          rw [q2] at e
          cases e
          obtain ⟨v', hv', b⟩ := f.get q
          rw [hv] at hv'
          cases hv'
          exact .cons b (ih q2)
  | @e m d v os xs vs hr _ ih =>
    intro ds e
    unfold VS.late at e
    cases q2 : VS.late os xs ρ with
    | none => rw [q2] at e; cases e
    | some ds' =>
      rw [q2] at e
      cases e
      exact .cons (.rep hr) (ih q2)

/-! ### primitive operations -/
def PEnd (Γ : Gm) (O : Addr → Prop) (H : Hp) (s : Slot) (Q : VK) : Prop := match s with
  | (d, false) => ∀ v H', Ext H H' → Rep Γ O H' v d → Q v H'
  | (d, true) => ∀ p H', H p = none → Ext H H' → Own Γ (fun b => O b ∨ b = p) H' (.ref p) d → Q (.ref p) H'
def PrimR (Γ : Gm) (r : List V → Hp → VK → Prop) (f : List D → Option Slot) : Prop :=
  ∀ O H vs ds s Q, (∀ a, O a → Mut (H a)) → Bors Γ O H vs ds → f ds = some s → PEnd Γ O H s Q → r vs H Q
def fin (f : List D → Option Slot) (os : List Opd) (xs : List (Option D)) (ρ : Sl) : Res Slot := match late os xs ρ with
  | some ds => match f ds with
    | some s => .ok s ρ
    | none => .stuck
  | none => .stuck
def cPrim (f : List D → Option Slot) (os : List Opd) : CExp := fun ρ => (evO os ρ).bind fun xs ρ' => fin f os xs ρ'
theorem Own.mut {O : Addr → Prop} {a : Addr} {d : D} (o : Own Γ O H (.ref a) d) : Mut (H a) := by
  cases o with
  | lst h _ _ => rw [h]; trivial
  | dK h _ _ _ => rw [h]; trivial
  | dT h _ _ _ => rw [h]; trivial
  | obj h _ _ _ => rw [h]; trivial
theorem prim_end {r : List V → Hp → VK → Prop} {f : List D → Option Slot} {os : List Opd} {xs : List (Option D)} {vs : List V} {Q : VK} (hr : PrimR Γ r f) (F : FR Γ Z σ ρ H) (o : OR Γ Z σ ρ H os xs vs) (k : EndV Γ Z σ ρ H (fin f os xs ρ) W Q) : r vs H Q := by
  unfold fin at k
  cases q : late os xs ρ with
  | none => rw [q] at k; exact k.elim
  | some ds =>
    rw [q] at k
    simp only at k
    cases q2 : f ds with
    | none => rw [q2] at k; exact k.elim
    | some s =>
      rw [q2] at k
      refine hr _ _ _ _ s Q F.mu (o.late F q) q2 ?_
      obtain ⟨d, b⟩ := s
      cases b with
      | false => exact fun v H' e r => k v H' (F.ext e) e.step r
      | true =>
        intro p H' hp e w
        refine k p H' (F.zadd e hp w.mut) e.step (fun z => F.nfresh hp (.inl z)) (.inl hp) ?_
        have e2 : (OA (Zadd Z p) σ ρ) = (fun b => OA Z σ ρ b ∨ b = p) := by
          funext b
          exact propext OA.zadd
        rw [e2]
        exact w
theorem SE.prim {r : List V → Hp → VK → Prop} {f : List D → Option Slot} {ta : TA} {os : List Opd} (hr : PrimR Γ r f) (ha : SA Γ W ta os) : SE Γ W (tCB r ta) (cPrim f os) := by
  intro Z σ ρ H Q F k
  refine ha.run F ?_
  unfold cPrim at k
  revert k
  cases evO os ρ with
  | ok xs ρ' => exact fun k vs H' f' s o => prim_end hr f' o (EndV.on s k)
  | exc c fs ρ' => exact fun k => k
  | stuck => exact fun k => k
def r2l (r : R2) : List V → Hp → VK → Prop := fun vs H Q => match vs with
  | [x, y] => r x y H Q
  | _ => False
def r1l (r : V → Hp → VK → Prop) : List V → Hp → VK → Prop := fun vs H Q => match vs with
  | [x] => r x H Q
  | _ => False
theorem SE.op2 {r : R2} {f : List D → Option Slot} {ta tb : TE} {o1 o2 : Opd} (hr : PrimR Γ (r2l r) f) (h1 : SO Γ W ta o1) (h2 : SO Γ W tb o2) : SE Γ W (tOp r ta tb) (cPrim f [o1, o2]) :=
  SE.prim (r := r2l r) hr (.cons h1 (.cons h2 .nil))
theorem SE.op1 {r : V → Hp → VK → Prop} {f : List D → Option Slot} {ta : TE} {o1 : Opd} (hr : PrimR Γ (r1l r) f) (h1 : SO Γ W ta o1) : SE Γ W (tUn r ta) (cPrim f [o1]) :=
  SE.prim (r := r1l r) hr (.cons h1 .nil)
end
end VS

namespace VS
open PySem L2
section
variable {Γ : Gm} {W : WX} {Z : Addr → Prop} {σ σ1 : St} {ρ ρ1 ρ' : Sl} {H H1 : Hp} {fx : List Nat}
theorem set_some {α : Type} {l : List α} {i j : Nat} {a b : α} (h : (l.set i a)[j]? = some b) : (i = j ∧ b = a ∧ i < l.length) ∨ (l[j]? = some b ∧ (i ≠ j)) := by
  rw [List.getElem?_set] at h
  by_cases e : i = j
  · rw [if_pos e] at h
    by_cases l1 : i < l.length
    · rw [if_pos l1] at h
      exact .inl ⟨e, (Option.some.inj h).symm, l1⟩
    · rw [if_neg l1] at h; cases h
  · rw [if_neg e] at h
    exact .inr ⟨h, e⟩
theorem set_at {α : Type} {l : List α} {i : Nat} {a : α} (h : i < l.length) : (l.set i a)[i]? = some a := List.getElem?_set_self h
theorem set_off {α : Type} {l : List α} {i j : Nat} {a : α} (h : i ≠ j) : (l.set i a)[j]? = l[j]? := List.getElem?_set_ne h
theorem lt_of_at {α : Type} {l : List α} {i : Nat} {a : α} (h : l[i]? = some a) : i < l.length := (List.getElem?_eq_some_iff.mp h).1

/-- slots forgotten or let go -/
theorem roots_sub (h : ∀ (i : Nat) s, ρ'[i]? = some (some s) → ρ[i]? = some (some s) ∨ (s.2 = false ∧ ρ[i]? = some (some (s.1, true)))) {a : Addr} (r : roots σ ρ' a) : roots σ ρ a := by
  obtain ⟨i, d, e1, e2⟩ := r
  rcases h i _ e1 with q | ⟨q, _⟩
  · exact ⟨i, d, q, e2⟩
  · cases q
theorem FR.sub (f : FR Γ Z σ ρ H) (hl : ρ'.length = ρ.length) (h : ∀ (i : Nat) s, ρ'[i]? = some (some s) → ρ[i]? = some (some s) ∨ (s.2 = false ∧ ρ[i]? = some (some (s.1, true)))) : FR Γ Z σ ρ' H := by
  have hs : ∀ a, roots σ ρ' a → roots σ ρ a := fun a r => roots_sub h r
  have ov : Ov (OA Z σ ρ) (OA Z σ ρ') H H := ⟨fun a o _ z => z.imp id (hs a), f.mu, fun _ _ q _ => q⟩
  refine ⟨f.len.trans hl.symm, fun a z => f.mu a (z.imp id (hs a)), fun i d e => ?_, fun i d e => ?_, fun i j d e a h1 h2 h3 h4 => ?_, fun a z r => f.dis a z (hs a r)⟩
  · rcases h i _ e with q | ⟨_, q⟩
    · obtain ⟨v, e1, r⟩ := f.sh i d q
      exact ⟨v, e1, r.to ov⟩
    · obtain ⟨v, e1, r⟩ := f.ow i d q
      obtain ⟨a, rfl, _, _⟩ := r.ref
      refine ⟨_, e1, r.rep ov fun z => ?_⟩
      rcases z with z | ⟨j, d', q1, q2⟩
      · exact f.dis a z ⟨i, d, q, e1⟩
      · rcases h j _ q1 with q3 | ⟨q3, _⟩
        · have ej := f.inj i j d d' a q q3 e1 q2
          subst ej
          rw [e] at q1
          cases q1
        · cases q3
  · rcases h i _ e with q | ⟨q, _⟩
    · obtain ⟨v, e1, r⟩ := f.ow i d q
      obtain ⟨a, rfl, o, _⟩ := r.ref
      exact ⟨_, e1, r.to ov (.inr ⟨i, d, e, e1⟩) fun _ q => q⟩
    · cases q
  · rcases h i _ h1 with q | ⟨q, _⟩
    · rcases h j _ h2 with q' | ⟨q', _⟩
      · exact f.inj i j d e a q q' h3 h4
      · cases q'
    · cases q
theorem sub_none {k : Nat} (i : Nat) (s : Slot) (h : (ρ.set k none)[i]? = some (some s)) : ρ[i]? = some (some s) ∨ (s.2 = false ∧ ρ[i]? = some (some (s.1, true))) := by
  rcases set_some h with ⟨_, q, _⟩ | ⟨q, _⟩
  · cases q
  · exact .inl q
theorem sub_copy {k : Nat} {d : D} {b : Bool} (hk : ρ[k]? = some (some (d, b))) (i : Nat) (s : Slot) (h : (ρ.set k (some (d, false)))[i]? = some (some s)) : ρ[i]? = some (some s) ∨ (s.2 = false ∧ ρ[i]? = some (some (s.1, true))) := by
  rcases set_some h with ⟨e, q, _⟩ | ⟨q, _⟩
  · subst e
    cases q
    cases b with
    | false => exact .inl hk
    | true => exact .inr ⟨rfl, hk⟩
  · exact .inl q
theorem FR.copy (f : FR Γ Z σ ρ H) {k : Nat} {d : D} {b : Bool} (hk : ρ[k]? = some (some (d, b))) : FR Γ Z σ (ρ.set k (some (d, false))) H := f.sub (by simp) (sub_copy hk)
theorem FR.forget (f : FR Γ Z σ ρ H) (k : Nat) : FR Γ Z σ (ρ.set k none) H := f.sub (by simp) sub_none
theorem Step.sub (h : ∀ (i : Nat) s, ρ'[i]? = some (some s) → ρ[i]? = some (some s) ∨ (s.2 = false ∧ ρ[i]? = some (some (s.1, true)))) : Step σ ρ H σ ρ' H := ⟨fun _ _ q _ => q, fun _ _ q => ⟨_, q⟩, fun a r => .inl (roots_sub h r)⟩

/-! ### names, constants -/
def cVar (i : Nat) : CExp := fun ρ => match ρ[i]? with
  | some (some (d, false)) => .ok (d, false) ρ
  | some (some (d, true)) => .ok (d, false) (ρ.set i (some (d, false)))
  | _ => .stuck
def cMove (i : Nat) : CExp := fun ρ => match ρ[i]? with
  | some (some (d, b)) => .ok (d, b) (ρ.set i none)
  | _ => .stuck
def cC (d : D) : CExp := fun ρ => .ok (d, false) ρ
theorem SE.c {v : V} {d : D} (h : ∀ O H, Rep Γ O H v d) : SE Γ W (tC v) (cC d) := fun Z σ ρ H Q f k => k v H f Step.refl (h _ _)
theorem SE.var {i : Nat} : SE Γ W (tVar i) (cVar i) := by
  intro Z σ ρ H Q f k
  unfold cVar at k
  cases q : ρ[i]? with
  | none => rw [q] at k; exact k.elim
  | some w =>
    cases w with
    | none => rw [q] at k; exact k.elim
    | some s =>
      obtain ⟨d, b⟩ := s
      rw [q] at k
      cases b with
      | false =>
        obtain ⟨v, hv, r⟩ := f.sh i d q
        exact ⟨v, hv, k v H f Step.refl r⟩
      | true =>
        obtain ⟨v, hv, r⟩ := f.ow i d q
        have f' := f.copy q
        obtain ⟨v', hv', r'⟩ := f'.sh i d (set_at (lt_of_at q))
        rw [hv] at hv'
        cases hv'
        exact ⟨v, hv, k v H f' (Step.sub (sub_copy q)) r'⟩
theorem SE.move {i : Nat} : SE Γ W (tVar i) (cMove i) := by
  intro Z σ ρ H Q f k
  unfold cMove at k
  cases q : ρ[i]? with
  | none => rw [q] at k; exact k.elim
  | some w =>
    cases w with
    | none => rw [q] at k; exact k.elim
    | some s =>
      obtain ⟨d, b⟩ := s
      rw [q] at k
      have f' := f.forget i
      cases b with
      | false =>
        obtain ⟨v, hv, r⟩ := f.sh i d q
        exact ⟨v, hv, k v H f' (Step.sub sub_none) (r.to ⟨fun a o _ z => z.imp id (roots_sub sub_none), f.mu, fun _ _ h _ => h⟩)⟩
      | true =>
        obtain ⟨v, hv, r⟩ := f.ow i d q
        obtain ⟨a, rfl, o, hm⟩ := r.ref
        have hra : roots σ ρ a := ⟨i, d, q, hv⟩
        have na : ¬ roots σ (ρ.set i none) a := by
          rintro ⟨j, d', e1, e2⟩
          rcases set_some e1 with ⟨_, z, _⟩ | ⟨z, ne⟩
          · cases z
          · exact ne (f.inj i j d d' a q z hv e2)
        have ov : Ov (OA Z σ ρ) (OA (Zadd Z a) σ (ρ.set i none)) H H := ⟨fun b u _ z => by
          rcases OA.zadd.mp z with z | z
          · exact z.imp id (roots_sub sub_none)
          · rw [z]; exact .inr hra, f.mu, fun _ _ h _ => h⟩
        refine ⟨_, hv, k a H ⟨f'.len, fun b z => ?_, fun j e h => ?_, fun j e h => ?_, f'.inj, fun b z n => ?_⟩ (Step.sub sub_none) (fun z => f.dis a z hra) (.inr hra) (r.to ov (OA.zadd.mpr (.inr rfl)) fun _ h => h)⟩
        · rcases OA.zadd.mp z with z | z
          · exact f'.mu b z
          · rw [z]; exact f.mu a (.inr hra)
        · rcases set_some h with ⟨_, z, _⟩ | ⟨z, ne⟩
          · cases z
          · obtain ⟨v, hv', r'⟩ := f.sh j e z
            exact ⟨v, hv', r'.to ov⟩
        · rcases set_some h with ⟨_, z, _⟩ | ⟨z, ne⟩
          · cases z
          · obtain ⟨v, hv', r'⟩ := f.ow j e z
            obtain ⟨a', rfl, o', _⟩ := r'.ref
            refine ⟨_, hv', r'.to ov (OA.zadd.mpr (.inl (.inr ⟨j, e, h, hv'⟩))) fun _ h => h⟩
        · rcases z with z | z
          · exact f'.dis b z n
          · rw [z] at n; exact na n

/-! ### stores to a name -/
theorem roots_put {v : V} {d : D} {i : Nat} {a : Addr} (r : roots (σ.set i (some v)) (ρ.set i (some (d, false))) a) : roots σ ρ a := by
  obtain ⟨j, e, e1, e2⟩ := r
  rcases set_some e1 with ⟨_, z, _⟩ | ⟨z, ne⟩
  · cases z
  · rw [set_off ne] at e2
    exact ⟨j, e, z, e2⟩
theorem FR.put (f : FR Γ Z σ ρ H) {i : Nat} {v : V} {d : D} (r : Rep Γ (OA Z σ ρ) H v d) : FR Γ Z (σ.set i (some v)) (ρ.set i (some (d, false))) H := by
  have ov : Ov (OA Z σ ρ) (OA Z (σ.set i (some v)) (ρ.set i (some (d, false)))) H H := ⟨fun a o _ z => z.imp id roots_put, f.mu, fun _ _ h _ => h⟩
  refine ⟨by simp [f.len], fun a z => f.mu a (z.imp id roots_put), fun j e h => ?_, fun j e h => ?_, fun j l e g a h1 h2 h3 h4 => ?_, fun a z n => f.dis a z (roots_put n)⟩
  · rcases set_some h with ⟨rfl, z, hl⟩ | ⟨z, ne⟩
    · cases z
      exact ⟨v, set_at (by rw [f.len]; exact hl), r.to ov⟩
    · obtain ⟨v', hv', r'⟩ := f.sh j e z
      exact ⟨v', by rw [set_off ne]; exact hv', r'.to ov⟩
  · rcases set_some h with ⟨rfl, z, hl⟩ | ⟨z, ne⟩
    · cases z
    · obtain ⟨v', hv', r'⟩ := f.ow j e z
      obtain ⟨a', rfl, o', _⟩ := r'.ref
      have hv2 : (σ.set i (some v))[j]? = some (some (.ref a')) := by rw [set_off ne]; exact hv'
      exact ⟨_, hv2, r'.to ov (.inr ⟨j, e, h, hv2⟩) fun _ h => h⟩
  · rcases set_some h1 with ⟨_, z, _⟩ | ⟨z, ne⟩
    · cases z
    · rcases set_some h2 with ⟨_, z', _⟩ | ⟨z', ne'⟩
      · cases z'
      · rw [set_off ne] at h3
        rw [set_off ne'] at h4
        exact f.inj j l e g a z z' h3 h4
theorem Step.put {i : Nat} {v : V} {d : D} : Step σ ρ H (σ.set i (some v)) (ρ.set i (some (d, false))) H := ⟨fun _ _ h _ => h, fun _ _ h => ⟨_, h⟩, fun a r => .inl (roots_put r)⟩
theorem roots_own {p : Addr} {d : D} {i : Nat} {a : Addr} (r : roots (σ.set i (some (.ref p))) (ρ.set i (some (d, true))) a) : roots σ ρ a ∨ a = p := by
  obtain ⟨j, e, e1, e2⟩ := r
  rcases set_some e1 with ⟨rfl, _, _⟩ | ⟨z, ne⟩
  · rcases set_some e2 with ⟨_, z2, _⟩ | ⟨_, ne2⟩
    · cases z2
      exact .inr rfl
    · exact absurd rfl ne2
  · rw [set_off ne] at e2
    exact .inl ⟨j, e, z, e2⟩
theorem FR.putOwn (f : FR Γ (Zadd Z p) σ ρ H) (n : ¬ Z p) {i : Nat} {d : D} (r : Own Γ (OA (Zadd Z p) σ ρ) H (.ref p) d) : FR Γ Z (σ.set i (some (.ref p))) (ρ.set i (some (d, true))) H := by
  have hsub : ∀ a, OA Z (σ.set i (some (.ref p))) (ρ.set i (some (d, true))) a → OA (Zadd Z p) σ ρ a := fun a z => by
    rcases z with z | z
    · exact .inl (.inl z)
    · rcases roots_own z with z | z
      · exact .inr z
      · exact .inl (.inr z)
  have ov : Ov (OA (Zadd Z p) σ ρ) (OA Z (σ.set i (some (.ref p))) (ρ.set i (some (d, true)))) H H := ⟨fun a o _ z => hsub a z, f.mu, fun _ _ h _ => h⟩
  have np : ¬ roots σ ρ p := f.dis p (.inr rfl)
  refine ⟨by simp [f.len], fun a z => f.mu a (hsub a z), fun j e h => ?_, fun j e h => ?_, fun j l e g a h1 h2 h3 h4 => ?_, fun a z q => ?_⟩
  · rcases set_some h with ⟨rfl, z, hl⟩ | ⟨z, ne⟩
    · cases z
    · obtain ⟨v', hv', r'⟩ := f.sh j e z
      exact ⟨v', by rw [set_off ne]; exact hv', r'.to ov⟩
  · rcases set_some h with ⟨rfl, z, hl⟩ | ⟨z, ne⟩
    · cases z
      have hv2 : (σ.set i (some (V.ref p)))[i]? = some (some (.ref p)) := set_at (by rw [f.len]; exact hl)
      exact ⟨_, hv2, r.to ov (.inr ⟨i, _, h, hv2⟩) fun _ h => h⟩
    · obtain ⟨v', hv', r'⟩ := f.ow j e z
      obtain ⟨a', rfl, o', _⟩ := r'.ref
      have hv2 : (σ.set i (some (V.ref p)))[j]? = some (some (.ref a')) := by rw [set_off ne]; exact hv'
      exact ⟨_, hv2, r'.to ov (.inr ⟨j, e, h, hv2⟩) fun _ h => h⟩
  · rcases set_some h1 with ⟨e1, z, hl1⟩ | ⟨z, ne⟩
    · subst e1
      rcases set_some h2 with ⟨e2, z', _⟩ | ⟨z', ne'⟩
      · exact e2
      · rw [set_at (by rw [f.len]; exact hl1)] at h3
        cases h3
        rw [set_off ne'] at h4
        exact absurd ⟨l, g, z', h4⟩ np
    · rw [set_off ne] at h3
      rcases set_some h2 with ⟨e2, z', hl2⟩ | ⟨z', ne'⟩
      · subst e2
        rw [set_at (by rw [f.len]; exact hl2)] at h4
        cases h4
        exact absurd ⟨j, e, z, h3⟩ np
      · rw [set_off ne'] at h4
        exact f.inj j l e g a z z' h3 h4
  · rcases roots_own q with q | q
    · exact f.dis a (.inl z) q
    · rw [q] at z; exact n z
theorem Step.putOwn {H0 : Hp} {σ0 : St} {ρ0 : Sl} {i : Nat} {p : Addr} {d : D} (s : Step σ0 ρ0 H0 σ ρ H) (hp : H0 p = none ∨ roots σ0 ρ0 p) : Step σ0 ρ0 H0 (σ.set i (some (.ref p))) (ρ.set i (some (d, true))) H := ⟨s.keep, s.dom, fun a r => by
  rcases roots_own r with q | q
  · exact s.new a q
  · rw [q]; exact hp.symm⟩

/-! ### an owned root changed in place -/
theorem FR.write (f : FR Γ Z σ ρ H) {i : Nat} {d d' : D} {a : Addr} {o : HO} (hi : ρ[i]? = some (some (d, true))) (hv : σ[i]? = some (some (.ref a))) (hw : Own Γ (OA Z σ ρ) (upd H a o) (.ref a) d') :
    FR Γ Z σ (ρ.set i (some (d', true))) (upd H a o) ∧ Step σ ρ H σ (ρ.set i (some (d', true))) (upd H a o) := by
  have hra : roots σ ρ a := ⟨i, d, hi, hv⟩
  have hoa : OA Z σ ρ a := .inr hra
  have hl : i < ρ.length := lt_of_at hi
  have rt : ∀ b, roots σ (ρ.set i (some (d', true))) b ↔ roots σ ρ b := fun b => by
    constructor
    · rintro ⟨j, e, e1, e2⟩
      rcases set_some e1 with ⟨rfl, _, _⟩ | ⟨z, ne⟩
      · exact ⟨i, d, hi, e2⟩
      · exact ⟨j, e, z, e2⟩
    · rintro ⟨j, e, e1, e2⟩
      by_cases hj : i = j
      · subst hj
        exact ⟨i, d', set_at hl, e2⟩
      · exact ⟨j, e, by rw [set_off hj]; exact e1, e2⟩
  have oa : OA Z σ (ρ.set i (some (d', true))) = OA Z σ ρ := by
    funext b
    exact propext ⟨fun z => z.imp id (rt b).mp, fun z => z.imp id (rt b).mpr⟩
  have ov : Ov (OA Z σ ρ) (OA Z σ ρ) H (upd H a o) := ⟨fun _ _ _ z => z, f.mu, fun b u h n => by
    rw [upd_ne (fun e => n (by rw [e]; exact hoa))]; exact h⟩
  refine ⟨⟨by simp [f.len], fun b z => ?_, fun j e h => ?_, fun j e h => ?_, fun j l e g b h1 h2 h3 h4 => ?_, fun b z n => f.dis b z ((rt b).mp n)⟩, ⟨fun b u h n => ?_, fun b u h => ?_, fun b z => .inl ((rt b).mp z)⟩⟩
  · rw [oa] at z
    by_cases e : b = a
    · subst e; exact hw.mut
    · rw [upd_ne e]; exact f.mu b z
  · rw [oa]
    rcases set_some h with ⟨_, z, _⟩ | ⟨z, ne⟩
    · cases z
    · obtain ⟨v', hv', r'⟩ := f.sh j e z
      exact ⟨v', hv', r'.to ov⟩
  · rw [oa]
    rcases set_some h with ⟨rfl, z, _⟩ | ⟨z, ne⟩
    · cases z
      exact ⟨_, hv, hw⟩
    · obtain ⟨v', hv', r'⟩ := f.ow j e z
      obtain ⟨b, rfl, ob, _⟩ := r'.ref
      have nb : b ≠ a := fun q => ne (f.inj i j d e a hi z hv (by rw [← q]; exact hv'))
      exact ⟨_, hv', r'.to ov ob fun u hu => by rw [upd_ne nb]; exact hu⟩
  · have g1 : ∃ e', ρ[j]? = some (some (e', true)) := by
      rcases set_some h1 with ⟨rfl, _, _⟩ | ⟨z, _⟩
      · exact ⟨d, hi⟩
      · exact ⟨e, z⟩
    have g2 : ∃ e', ρ[l]? = some (some (e', true)) := by
      rcases set_some h2 with ⟨rfl, _, _⟩ | ⟨z, _⟩
      · exact ⟨d, hi⟩
      · exact ⟨g, z⟩
    obtain ⟨e1, g1⟩ := g1
    obtain ⟨e2, g2⟩ := g2
    exact f.inj j l e1 e2 b g1 g2 h3 h4
  · rw [upd_ne (fun e => n (by rw [e]; exact hra))]; exact h
  · by_cases e : b = a
    · subst e; exact ⟨o, upd_same⟩
    · exact ⟨u, by rw [upd_ne e]; exact h⟩
end
end VS

namespace VS
open PySem L2
section
variable {Γ : Gm} {W : WX} {Z : Addr → Prop} {σ σ1 : St} {ρ ρ1 ρ' : Sl} {H H1 : Hp} {fx : List Nat}

/-! ### tests -/
def cTst (m : CExp) : CTst := fun ρ => (m ρ).bind fun s ρ' => match s.1 with
  | .bl b => .ok b ρ'
  | _ => .stuck
theorem Rep.bl_inv {O : Addr → Prop} {v : V} {b : Bool} (h : Rep Γ O H v (.bl b)) : v = .bl b := by cases h; rfl
theorem Rep.int_inv {O : Addr → Prop} {v : V} {b : Int} (h : Rep Γ O H v (.int b)) : v = .int b := by cases h; rfl
theorem Rep.str_inv {O : Addr → Prop} {v : V} {b : Str} (h : Rep Γ O H v (.str b)) : v = .str b := by cases h; rfl
theorem ST.test {t : TE} {m : CExp} (h : SE Γ W t m) : ST Γ W (tTest t) (cTst m) := by
  intro Z σ ρ H Q f k
  refine h.val f ?_
  unfold cTst at k
  revert k
  cases m ρ with
  | ok s ρ' =>
    obtain ⟨d, b⟩ := s
    cases d with
    | bl c =>
      intro k v H' f' s r
      have e := r.bl_inv
      subst e
      exact ⟨c, rfl, k H' f' s⟩
    | _ => exact fun k => k.elim
  | exc c fs ρ' => exact fun k => k
  | stuck => exact fun k => k
theorem ST.testB {t : TE} {m : CExp} (h : SE Γ W t m) : ST Γ W (tB t) (cTst m) := ST.test h
def cAnd (a b : CTst) : CTst := fun ρ => (a ρ).bind fun x ρ1 => if x = true then b ρ1 else .ok false ρ1
def cOr (a b : CTst) : CTst := fun ρ => (a ρ).bind fun x ρ1 => if x = true then .ok true ρ1 else b ρ1
def cNot (a : CTst) : CTst := fun ρ => (a ρ).bind fun x ρ1 => .ok (!x) ρ1
theorem ST.and {t u : TT} {a b : CTst} (h1 : ST Γ W t a) (h2 : ST Γ W u b) : ST Γ W (tAnd t u) (cAnd a b) := by
  intro Z σ ρ H Q f k
  refine h1 Z σ ρ H _ f ?_
  unfold cAnd at k
  revert k
  cases a ρ with
  | ok x ρ1 =>
    cases x with
    | true =>
      intro k H1 f1 s1
      show u σ H1 Q
      exact h2 Z σ ρ1 H1 Q f1 (EndB.on s1 k)
    | false => exact fun k H1 f1 s1 => k H1 f1 s1
  | exc c fs ρ' => exact fun k => k
  | stuck => exact fun k => k
theorem ST.or {t u : TT} {a b : CTst} (h1 : ST Γ W t a) (h2 : ST Γ W u b) : ST Γ W (tOr t u) (cOr a b) := by
  intro Z σ ρ H Q f k
  refine h1 Z σ ρ H _ f ?_
  unfold cOr at k
  revert k
  cases a ρ with
  | ok x ρ1 =>
    cases x with
    | false =>
      intro k H1 f1 s1
      show u σ H1 Q
      exact h2 Z σ ρ1 H1 Q f1 (EndB.on s1 k)
    | true => exact fun k H1 f1 s1 => k H1 f1 s1
  | exc c fs ρ' => exact fun k => k
  | stuck => exact fun k => k
theorem ST.not {t : TT} {a : CTst} (h1 : ST Γ W t a) : ST Γ W (tNot t) (cNot a) := by
  intro Z σ ρ H Q f k
  refine h1 Z σ ρ H _ f ?_
  unfold cNot at k
  revert k
  cases a ρ with
  | ok x ρ1 => exact fun k H1 f1 s1 => k H1 f1 s1
  | exc c fs ρ' => exact fun k => k
  | stuck => exact fun k => k
/-- and, or, not as values -/
def cAndV (a b : CExp) : CExp := fun ρ => (a ρ).bind fun x ρ1 => match x.1 with
  | .bl true => b ρ1
  | .bl false => .ok (.bl false, false) ρ1
  | _ => .stuck
def cOrV (a b : CExp) : CExp := fun ρ => (a ρ).bind fun x ρ1 => match x.1 with
  | .bl true => .ok (.bl true, false) ρ1
  | .bl false => b ρ1
  | _ => .stuck
def cNotV (a : CExp) : CExp := fun ρ => (a ρ).bind fun x ρ1 => match x.1 with
  | .bl b => .ok (.bl (!b), false) ρ1
  | _ => .stuck
theorem SE.andV {t u : TE} {a b : CExp} (h1 : SE Γ W t a) (h2 : SE Γ W u b) : SE Γ W (tAndV t u) (cAndV a b) := by
  intro Z σ ρ H Q f k
  refine h1.val f ?_
  unfold cAndV at k
  revert k
  cases a ρ with
  | ok x ρ1 =>
    obtain ⟨d, o⟩ := x
    cases d with
    | bl c =>
      intro k v H1 f1 s1 r
      have e := r.bl_inv
      subst e
      refine ⟨c, rfl, ?_⟩
      cases c with
      | true =>
        show u σ H1 Q
        exact h2 Z σ ρ1 H1 Q f1 (EndV.on s1 k)
      | false => exact k _ H1 f1 s1 (.bl false)
    | _ => exact fun k => k.elim
  | exc c fs ρ' => exact fun k => k
  | stuck => exact fun k => k
theorem SE.orV {t u : TE} {a b : CExp} (h1 : SE Γ W t a) (h2 : SE Γ W u b) : SE Γ W (tOrV t u) (cOrV a b) := by
  intro Z σ ρ H Q f k
  refine h1.val f ?_
  unfold cOrV at k
  revert k
  cases a ρ with
  | ok x ρ1 =>
    obtain ⟨d, o⟩ := x
    cases d with
    | bl c =>
      intro k v H1 f1 s1 r
      have e := r.bl_inv
      subst e
      refine ⟨c, rfl, ?_⟩
      cases c with
      | false =>
        show u σ H1 Q
        exact h2 Z σ ρ1 H1 Q f1 (EndV.on s1 k)
      | true => exact k _ H1 f1 s1 (.bl true)
    | _ => exact fun k => k.elim
  | exc c fs ρ' => exact fun k => k
  | stuck => exact fun k => k
theorem SE.notV {t : TE} {a : CExp} (h1 : SE Γ W t a) : SE Γ W (tNotV t) (cNotV a) := by
  intro Z σ ρ H Q f k
  refine h1.val f ?_
  unfold cNotV at k
  revert k
  cases a ρ with
  | ok x ρ1 =>
    obtain ⟨d, o⟩ := x
    cases d with
    | bl c =>
      intro k v H1 f1 s1 r
      have e := r.bl_inv
      subst e
      exact ⟨c, rfl, k _ H1 f1 s1 (.bl _)⟩
    | _ => exact fun k => k.elim
  | exc c fs ρ' => exact fun k => k
  | stuck => exact fun k => k
def cIfE (c : CTst) (a b : CExp) : CExp := fun ρ => (c ρ).bind fun x ρ1 => if x = true then a ρ1 else b ρ1
theorem SE.ifE {t : TT} {u v : TE} {c : CTst} {a b : CExp} (h0 : ST Γ W t c) (h1 : SE Γ W u a) (h2 : SE Γ W v b) : SE Γ W (tIf t u v) (cIfE c a b) := by
  intro Z σ ρ H Q f k
  refine h0 Z σ ρ H _ f ?_
  unfold cIfE at k
  revert k
  cases c ρ with
  | ok x ρ1 =>
    cases x with
    | true =>
      intro k H1 f1 s1
      show u σ H1 Q
      exact h1 Z σ ρ1 H1 Q f1 (EndV.on s1 k)
    | false =>
      intro k H1 f1 s1
      show v σ H1 Q
      exact h2 Z σ ρ1 H1 Q f1 (EndV.on s1 k)
  | exc c fs ρ' => exact fun k => k
  | stuck => exact fun k => k

/-! ### statements -/
def cNext : CStm := fun ρ => .ok .nx ρ
def cSeq (a b : CStm) : CStm := fun ρ => match a ρ with
  | .ok .nx ρ1 => b ρ1
  | r => r
def cIf (c : CTst) (a b : CStm) : CStm := fun ρ => (c ρ).bind fun x ρ1 => if x = true then a ρ1 else b ρ1
def cBrk : CStm := fun ρ => .ok .bk ρ
def cCnt : CStm := fun ρ => .ok .ct ρ
def cRet (m : CExp) : CStm := fun ρ => (m ρ).bind fun s ρ' => .ok (.rt s) ρ'
def cRetN : CStm := fun ρ => .ok (.rt (.non, false)) ρ
def cAsg (i : Nat) (m : CExp) : CStm := fun ρ => (m ρ).bind fun s ρ' => .ok .nx (ρ'.set i (some s))
def cDrop (m : CExp) : CStm := fun ρ => (m ρ).bind fun _ ρ' => .ok .nx ρ'
theorem PostX.st {c : Nat} {fs : List (Str × D)} {E : Ends} (p : EndS Γ Z σ ρ H fx (.exc c fs ρ') W E) : PostX Γ Z σ ρ H c fs ρ' W := fun d H' f s x => p d σ H' f s Fx.refl x
theorem SS.next : SS Γ fx W tNext cNext := fun Z σ ρ H E f k => k σ H f Step.refl Fx.refl
theorem SS.brk : SS Γ fx W tBreak cBrk := fun Z σ ρ H E f k => k σ H f Step.refl Fx.refl
theorem SS.cnt : SS Γ fx W tCont cCnt := fun Z σ ρ H E f k => k σ H f Step.refl Fx.refl
theorem SS.retN : SS Γ fx W tRetN cRetN := fun Z σ ρ H E f k => k .non σ H f Step.refl Fx.refl .non
theorem SS.seq {t u : TS} {a b : CStm} (h1 : SS Γ fx W t a) (h2 : SS Γ fx W u b) : SS Γ fx W (tSeq t u) (cSeq a b) := by
  intro Z σ ρ H E f k
  refine h1 Z σ ρ H _ f ?_
  unfold cSeq at k
  revert k
  cases a ρ with
  | ok o ρ1 =>
    cases o with
    | nx => exact fun k σ1 H1 f1 s1 x1 => h2 Z σ1 ρ1 H1 E f1 (EndS.on s1 x1 k)
    | bk => exact fun k => k
    | ct => exact fun k => k
    | rt s =>
      obtain ⟨d, b⟩ := s
      cases b with
      | false => exact fun k => k
      | true => exact fun k => k
  | exc c fs ρ' => exact fun k => k
  | stuck => exact fun k => k
theorem SS.if {c : TT} {t u : TS} {m : CTst} {a b : CStm} (h0 : ST Γ W c m) (h1 : SS Γ fx W t a) (h2 : SS Γ fx W u b) : SS Γ fx W (tIfS c t u) (cIf m a b) := by
  intro Z σ ρ H E f k
  refine h0 Z σ ρ H _ f ?_
  unfold cIf at k
  revert k
  cases m ρ with
  | ok x ρ1 =>
    cases x with
    | true =>
      intro k H1 f1 s1
      show t E σ H1
      exact h1 Z σ ρ1 H1 E f1 (EndS.on s1 Fx.refl k)
    | false =>
      intro k H1 f1 s1
      show u E σ H1
      exact h2 Z σ ρ1 H1 E f1 (EndS.on s1 Fx.refl k)
  | exc c fs ρ' => exact fun k => PostX.st k
  | stuck => exact fun k => k
theorem SS.ret {t : TE} {m : CExp} (h : SE Γ W t m) : SS Γ fx W (tRet t) (cRet m) := by
  intro Z σ ρ H E f k
  refine h Z σ ρ H _ f ?_
  unfold cRet at k
  revert k
  cases m ρ with
  | ok s ρ1 =>
    obtain ⟨d, b⟩ := s
    cases b with
    | false => exact fun k v H' f' s r => k v σ H' f' s Fx.refl r
    | true => exact fun k a H' f' s n q r => k a σ H' f' s Fx.refl n q r
  | exc c fs ρ' => exact fun k => PostX.st k
  | stuck => exact fun k => k
theorem SS.drop {t : TE} {m : CExp} (h : SE Γ W t m) : SS Γ fx W (tDrop t) (cDrop m) := by
  intro Z σ ρ H E f k
  refine h.val f ?_
  unfold cDrop at k
  revert k
  cases m ρ with
  | ok s ρ1 => exact fun k v H' f' s r => k σ H' f' s Fx.refl
  | exc c fs ρ' => exact fun k => PostX.st k
  | stuck => exact fun k => k
theorem Fx.put {i : Nat} {v : Option V} (h : i ∉ fx) : Fx fx σ (σ.set i v) := fun j hj => by
  rw [set_off]
  rintro rfl
  exact h hj
theorem SS.asg {i : Nat} {t : TE} {m : CExp} (h : SE Γ W t m) (hi : i ∉ fx) : SS Γ fx W (tAsg t (gName i)) (cAsg i m) := by
  intro Z σ ρ H E f k
  refine h Z σ ρ H _ f ?_
  unfold cAsg at k
  revert k
  cases m ρ with
  | ok s ρ1 =>
    obtain ⟨d, b⟩ := s
    cases b with
    | false => exact fun k v H' f' s r => k _ H' (f'.put r) (s.trans Step.put) (Fx.put hi)
    | true => exact fun k a H' f' s n q r => k _ H' (f'.putOwn n r) (s.putOwn q) (Fx.put hi)
  | exc c fs ρ' => exact fun k => PostX.st k
  | stuck => exact fun k => k

/-! ### targets -/
def SG (Γ : Gm) (fx : List Nat) (g : TG) (tg : D → Sl → Option Sl) : Prop := ∀ Z σ ρ H v d ρ' (Q : St → Hp → Prop), FR Γ Z σ ρ H → Rep Γ (OA Z σ ρ) H v d → tg d ρ = some ρ' →
  (∀ σ', FR Γ Z σ' ρ' H → Step σ ρ H σ' ρ' H → Fx fx σ σ' → Q σ' H) → g v σ H Q
def tgN (i : Nat) : D → Sl → Option Sl := fun d ρ => some (ρ.set i (some (d, false)))
theorem SG.name {i : Nat} (hi : i ∉ fx) : SG Γ fx (gName i) (tgN i) := fun Z σ ρ H v d ρ' Q f r e k => by
  cases e
  exact k _ (f.put r) Step.put (Fx.put hi)
def SGs (Γ : Gm) (fx : List Nat) (g : TGs) (tg : List D → Sl → Option Sl) : Prop := ∀ Z σ ρ H vs ds ρ' (Q : St → Hp → Prop), FR Γ Z σ ρ H → Reps Γ (OA Z σ ρ) H vs ds → tg ds ρ = some ρ' →
  (∀ σ', FR Γ Z σ' ρ' H → Step σ ρ H σ' ρ' H → Fx fx σ σ' → Q σ' H) → g vs σ H Q
def tgNil : List D → Sl → Option Sl := fun ds ρ => match ds with
  | [] => some ρ
  | _ => none
def tgCons (a : D → Sl → Option Sl) (b : List D → Sl → Option Sl) : List D → Sl → Option Sl := fun ds ρ => match ds with
  | d :: r => match a d ρ with
    | some ρ1 => b r ρ1
    | none => none
  | [] => none
theorem SGs.nil : SGs Γ fx gNil tgNil := fun Z σ ρ H vs ds ρ' Q f r e k => by
  cases r with
  | nil => cases e; exact ⟨rfl, k σ f Step.refl Fx.refl⟩
  | cons h r => cases e
theorem SGs.cons {g : TG} {gs : TGs} {a : D → Sl → Option Sl} {b : List D → Sl → Option Sl} (h1 : SG Γ fx g a) (h2 : SGs Γ fx gs b) : SGs Γ fx (gCons g gs) (tgCons a b) := fun Z σ ρ H vs ds ρ' Q f r e k => by
  cases r with
  | nil => cases e
  | cons h r =>
    unfold tgCons at e
    simp only at e
    revert e
    cases q : a _ ρ with
    | none => intro e; cases e
    | some ρ1 =>
      intro e
      exact ⟨_, _, rfl, h1 Z σ ρ H _ _ ρ1 _ f h q fun σ1 f1 s1 x1 => h2 Z σ1 ρ1 H _ _ ρ' Q f1 (r.to (s1.ov f)) e fun σ2 f2 s2 x2 => k σ2 f2 (s1.trans s2) (x1.trans x2)⟩
def tgTup (n : Nat) (b : List D → Sl → Option Sl) : D → Sl → Option Sl := fun d ρ => match d with
  | .tup ds => if ds.length = n then b ds ρ else none
  | .ktup ds => if ds.length = n then b ds ρ else none
  | _ => none
theorem Reps.length {O : Addr → Prop} : ∀ {vs : List V} {ds : List D}, Reps Γ O H vs ds → vs.length = ds.length
  | _, _, .nil => rfl
  | _, _, .cons _ r => congrArg (· + 1) (Reps.length r)
theorem SG.tup {n : Nat} {gs : TGs} {b : List D → Sl → Option Sl} (h : SGs Γ fx gs b) : SG Γ fx (gTup Γ.K n gs) (tgTup n b) := fun Z σ ρ H v d ρ' Q f r e k => by
  cases r with
  | @tup a vs ds hs rs =>
    unfold tgTup at e
    simp only at e
    by_cases hn : ds.length = n
    · rw [if_pos hn] at e
      exact ⟨a, vs, rfl, SqT.of hs, rs.length.trans hn, h Z σ ρ H vs ds ρ' Q f rs e k⟩
    · rw [if_neg hn] at e; cases e
  | @ktup a vs ds hs rs =>
    unfold tgTup at e
    simp only at e
    by_cases hn : ds.length = n
    · rw [if_pos hn] at e
      exact ⟨a, vs, rfl, .inr hs, rs.length.trans hn, h Z σ ρ H vs ds ρ' Q f rs e k⟩
    · rw [if_neg hn] at e; cases e
  | _ => cases e
def cAsgT (tg : D → Sl → Option Sl) (m : CExp) : CStm := fun ρ => (m ρ).bind fun s ρ' => match tg s.1 ρ' with
  | some ρ2 => .ok .nx ρ2
  | none => .stuck
theorem SS.asgT {g : TG} {tg : D → Sl → Option Sl} {t : TE} {m : CExp} (h : SE Γ W t m) (hg : SG Γ fx g tg) : SS Γ fx W (tAsg t g) (cAsgT tg m) := by
  intro Z σ ρ H E f k
  refine h.val f ?_
  unfold cAsgT at k
  revert k
  cases m ρ with
  | ok s ρ1 =>
    simp only [Res.bind_ok]
    cases q : tg s.1 ρ1 with
    | none => exact fun k => k.elim
    | some ρ2 => exact fun k v H' f' s1 r => hg Z σ ρ1 H' v _ ρ2 _ f' r q fun σ2 f2 s2 x2 => k σ2 H' f2 (s1.trans s2) x2
  | exc c fs ρ' => exact fun k => PostX.st k
  | stuck => exact fun k => k

/-! ### loops -/
def loop (tg : D → Sl → Option Sl) (body : CStm) : List D → CStm
  | [], ρ => .ok .nx ρ
  | d :: ds, ρ => match tg d ρ with
    | none => .stuck
    | some ρ1 => match body ρ1 with
      | .ok .nx ρ2 => loop tg body ds ρ2
      | .ok .ct ρ2 => loop tg body ds ρ2
      | .ok .bk ρ2 => .ok .nx ρ2
      | .ok (.rt s) ρ2 => .ok (.rt s) ρ2
      | .exc c fs ρ2 => .exc c fs ρ2
      | .stuck => .stuck
/-- a walk through ds: G tells that what is walked stands -/
structure Wk (Γ : Gm) (J : It) (G : (Addr → Prop) → Hp → Prop) (ds : List D) : Prop where
  pres : ∀ O O' H H', G O H → Ov O O' H H' → G O' H'
  item : ∀ O H (i : Nat) d, (∀ a, O a → Mut (H a)) → G O H → ds[i]? = some d → J.go i H ∧ ∀ x H', J.yld i H x H' → Ext H H' ∧ Rep Γ O H' x d
  done : ∀ O H, G O H → J.stop ds.length H
abbrev CIt := Sl → Res (List D)
def EndI (Γ : Gm) (Z : Addr → Prop) (σ : St) (ρ : Sl) (H : Hp) (r : Res (List D)) (W : WX) (R : It → Hp → Prop) : Prop := match r with
  | .ok ds ρ' => ∀ J G H', FR Γ Z σ ρ' H' → Step σ ρ H σ ρ' H' → Wk Γ J G ds → G (OA Z σ ρ') H' → R J H'
  | .exc c fs ρ' => PostX Γ Z σ ρ H c fs ρ' W
  | .stuck => False
def SI (Γ : Gm) (W : WX) (wi : TI) (m : CIt) : Prop := ∀ Z σ ρ H R, FR Γ Z σ ρ H → EndI Γ Z σ ρ H (m ρ) W R → wi σ H R
def cFor (it : CIt) (tg : D → Sl → Option Sl) (body : CStm) : CStm := fun ρ => (it ρ).bind fun ds ρ1 => loop tg body ds ρ1
theorem SS.for {wi : TI} {g : TG} {tb : TS} {it : CIt} {tg : D → Sl → Option Sl} {body : CStm} (hi : SI Γ W wi it) (hg : SG Γ fx g tg) (hb : SS Γ fx W tb body) : SS Γ fx W (tFor wi g tb) (cFor it tg body) := by
  intro Z σ ρ H E f k
  refine hi Z σ ρ H _ f ?_
  unfold cFor at k
  revert k
  cases it ρ with
  | exc c fs ρ' => exact fun k => PostX.st k
  | stuck => exact fun k => k
  | ok ds ρ1 =>
    intro k J G H1 f1 s1 wk g1
    have k : EndS Γ Z σ ρ H fx (loop tg body ds ρ1) W E := k
    refine ⟨fun i m σ' H' => m = ds.length - i ∧ i ≤ ds.length ∧ ∃ ρi, FR Γ Z σ' ρi H' ∧ G (OA Z σ' ρi) H' ∧ EndS Γ Z σ' ρi H' fx (loop tg body (ds.drop i) ρi) W E, ⟨ds.length, rfl, Nat.zero_le _, ρ1, f1, g1, EndS.on s1 Fx.refl k⟩, ?_⟩
    rintro i m σ' H' ⟨rfl, hle, ρi, fi, gi, ki⟩
    by_cases hlt : i < ds.length
    · right
      have hd : ds[i]? = some ds[i] := List.getElem?_eq_getElem hlt
      obtain ⟨go, yl⟩ := wk.item _ H' i _ fi.mu gi hd
      refine ⟨go, fun σ2 H2 => ∃ ρ2, FR Γ Z σ2 ρ2 H2 ∧ G (OA Z σ2 ρ2) H2 ∧ EndS Γ Z σ2 ρ2 H2 fx (loop tg body (ds.drop (i + 1)) ρ2) W E, fun σ2 H2 ⟨ρ2, f2, g2, k2⟩ => ⟨ds.length - (i + 1), by omega, rfl, hlt, ρ2, f2, g2, k2⟩, fun x H2 hy => ?_⟩
      obtain ⟨ex, rx⟩ := yl x H2 hy
      have f2 := fi.ext ex
      have s2 : Step σ' ρi H' σ' ρi H2 := ex.step
      rw [List.drop_eq_getElem_cons hlt] at ki
      unfold loop at ki
      cases q : tg ds[i] ρi with
      | none => rw [q] at ki; exact ki.elim
      | some ρ3 =>
        rw [q] at ki
        simp only at ki
        refine hg Z σ' ρi H2 x _ ρ3 _ f2 rx q fun σ3 f3 s3 x3 => ?_
        have g3 : G (OA Z σ3 ρ3) H2 := wk.pres _ _ _ _ gi ((s2.trans s3).ov fi)
        refine hb Z σ3 ρ3 H2 _ f3 ?_
        have s23 := s2.trans s3
        revert ki
        cases body ρ3 with
        | ok o ρ4 =>
          cases o with
          | nx => exact fun ki σ4 H4 f4 s4 x4 => ⟨ρ4, f4, wk.pres _ _ _ _ g3 (s4.ov f3), EndS.on (s23.trans s4) (x3.trans x4) ki⟩
          | ct => exact fun ki σ4 H4 f4 s4 x4 => ⟨ρ4, f4, wk.pres _ _ _ _ g3 (s4.ov f3), EndS.on (s23.trans s4) (x3.trans x4) ki⟩
          | bk => exact fun ki σ4 H4 f4 s4 x4 => ki σ4 H4 f4 (s23.trans s4) (x3.trans x4)
          | rt s =>
            obtain ⟨d, b⟩ := s
            cases b with
            | false => exact fun ki v σ4 H4 f4 s4 x4 r => ki v σ4 H4 f4 (s23.trans s4) (x3.trans x4) r
            | true => exact fun ki a σ4 H4 f4 s4 x4 n q r => ki a σ4 H4 f4 (s23.trans s4) (x3.trans x4) n (s23.root q) r
        | exc c fs ρ4 => exact fun ki d σ4 H4 f4 s4 x4 r => ki d σ4 H4 f4 (s23.trans s4) (x3.trans x4) r
        | stuck => exact fun ki => ki
    · left
      have e : i = ds.length := by omega
      subst e
      refine ⟨wk.done _ H' gi, ?_⟩
      rw [List.drop_length] at ki
      exact ki σ' H' fi Step.refl Fx.refl
def whl (c : CTst) (body : CStm) : Nat → CStm
  | 0, _ => .stuck
  | n + 1, ρ => (c ρ).bind fun b ρ1 => if b = true then (match body ρ1 with
      | .ok .nx ρ2 => whl c body n ρ2
      | .ok .ct ρ2 => whl c body n ρ2
      | .ok .bk ρ2 => .ok .nx ρ2
      | .ok (.rt s) ρ2 => .ok (.rt s) ρ2
      | .exc c fs ρ2 => .exc c fs ρ2
      | .stuck => .stuck) else .ok .nx ρ1
theorem SS.whl {tc : TT} {tb : TS} {c : CTst} {body : CStm} {n : Nat} (hc : ST Γ W tc c) (hb : SS Γ fx W tb body) : SS Γ fx W (tWhile tc tb) (whl c body n) := by
  intro Z σ ρ H E f k
  refine ⟨fun m σ' H' => ∃ ρi, FR Γ Z σ' ρi H' ∧ EndS Γ Z σ' ρi H' fx (VS.whl c body m ρi) W E, ⟨n, ρ, f, k⟩, ?_⟩
  rintro m σ' H' ⟨ρi, fi, ki⟩
  cases m with
  | zero => exact ki.elim
  | succ m =>
    unfold VS.whl at ki
    refine hc Z σ' ρi H' _ fi ?_
    revert ki
    cases c ρi with
    | exc c fs ρ' => exact fun ki => PostX.st ki
    | stuck => exact fun ki => ki
    | ok b ρ1 =>
      cases b with
      | false => exact fun ki H1 f1 s1 => ki σ' H1 f1 s1 Fx.refl
      | true =>
        intro ki H1 f1 s1
        show ∃ N : St → Hp → Prop, _
        refine ⟨fun σ2 H2 => ∃ ρ2, FR Γ Z σ2 ρ2 H2 ∧ EndS Γ Z σ2 ρ2 H2 fx (VS.whl c body m ρ2) W E, fun σ2 H2 h => ⟨m, Nat.lt_succ_self _, h⟩, hb Z σ' ρ1 H1 _ f1 ?_⟩
        simp only [Res.bind_ok, if_true] at ki
        revert ki
        cases body ρ1 with
        | ok o ρ4 =>
          cases o with
          | nx => exact fun ki σ4 H4 f4 s4 x4 => ⟨ρ4, f4, EndS.on (s1.trans s4) x4 ki⟩
          | ct => exact fun ki σ4 H4 f4 s4 x4 => ⟨ρ4, f4, EndS.on (s1.trans s4) x4 ki⟩
          | bk => exact fun ki σ4 H4 f4 s4 x4 => ki σ4 H4 f4 (s1.trans s4) x4
          | rt s =>
            obtain ⟨d, b⟩ := s
            cases b with
            | false => exact fun ki v σ4 H4 f4 s4 x4 r => ki v σ4 H4 f4 (s1.trans s4) x4 r
            | true => exact fun ki a σ4 H4 f4 s4 x4 n q r => ki a σ4 H4 f4 (s1.trans s4) x4 n (s1.root q) r
        | exc c fs ρ4 => exact fun ki d σ4 H4 f4 s4 x4 r => ki d σ4 H4 f4 (s1.trans s4) x4 r
        | stuck => exact fun ki => ki
end
end VS

namespace VS
open PySem L2
/-! ### defs -/
inductive CRes where
  | ok (s : Slot) (as : List (Option Slot))
  | exc (c : Nat) (fs : List (Str × D)) (as : List (Option Slot))
  | stuck
abbrev CFun := List Slot → CRes
def maskF (fx : List Nat) : Nat → List Slot → List Slot
  | _, [] => []
  | k, s :: r => (if k ∈ fx then s else (s.1, false)) :: maskF fx (k + 1) r
def outsF (fx : List Nat) (ρ : Sl) : Nat → List Slot → List (Option Slot)
  | _, [] => []
  | k, s :: r => (if k ∈ fx then (match ρ[k]? with | some x => x | none => none) else some (s.1, false)) :: outsF fx ρ (k + 1) r
def bodyF (fx : List Nat) (n : Nat) (m : CStm) : CFun := fun args => match m ((maskF fx 0 args).map some ++ List.replicate (n - args.length) none) with
  | .ok .nx ρ' => .ok (.non, false) (outsF fx ρ' 0 args)
  | .ok (.rt s) ρ' => .ok s (outsF fx ρ' 0 args)
  | .exc c fs ρ' => .exc c fs (outsF fx ρ' 0 args)
  | _ => .stuck
def EndF (Γ : Gm) (Z : Addr → Prop) (σ : St) (ρ : Sl) (H : Hp) (r : CRes) (Q : VK) (E : XK) : Prop := match r with
  | .ok (d, false) as => ∀ v H', FR Γ Z σ as H' → Step σ ρ H σ as H' → Rep Γ (OA Z σ as) H' v d → Q v H'
  | .ok (d, true) as => ∀ a H', FR Γ (Zadd Z a) σ as H' → Step σ ρ H σ as H' → ¬ Z a → (H a = none ∨ roots σ ρ a) → Own Γ (OA (Zadd Z a) σ as) H' (.ref a) d → Q (.ref a) H'
  | .exc c fs as => ∀ d H', FR Γ Z σ as H' → Step σ ρ H σ as H' → XRep Γ (OA Z σ as) H' d fs → E (.ref (Γ.ct c)) d H'
  | .stuck => False
def spD (Γ : Gm) (F : CFun) (np : Nat) : Sp := fun vs H Q E => vs.length = np ∧ ∃ Z args, FR Γ Z (vs.map some) (args.map some) H ∧ EndF Γ Z (vs.map some) (args.map some) H (F args) Q E
section
variable {Γ : Gm} {W : WX} {Z : Addr → Prop} {σ σ1 : St} {ρ ρ1 ρ' : Sl} {H H1 : Hp} {fx : List Nat}
theorem maskF_len : ∀ (k : Nat) (l : List Slot), (maskF fx k l).length = l.length
  | _, [] => rfl
  | k, s :: r => by simp [maskF, maskF_len (k + 1) r]
theorem maskF_at : ∀ (k : Nat) (l : List Slot) (i : Nat), (maskF fx k l)[i]? = (l[i]?).map fun s => if k + i ∈ fx then s else (s.1, false)
  | _, [], i => by simp [maskF]
  | k, s :: r, 0 => by simp [maskF]
  | k, s :: r, i + 1 => by
    have h := maskF_at (k + 1) r i
    have e : k + 1 + i = k + (i + 1) := by omega
    rw [e] at h
    simpa [maskF] using h
theorem outsF_len : ∀ (k : Nat) (l : List Slot), (outsF fx ρ k l).length = l.length
  | _, [] => rfl
  | k, s :: r => by simp [outsF, outsF_len (k + 1) r]
theorem outsF_at : ∀ (k : Nat) (l : List Slot) (i : Nat), (outsF fx ρ k l)[i]? = (l[i]?).map fun s => if k + i ∈ fx then (match ρ[k + i]? with | some x => x | none => none) else some (s.1, false)
  | _, [], i => by simp [outsF]
  | k, s :: r, 0 => by simp [outsF]
  | k, s :: r, i + 1 => by
    have h := outsF_at (k + 1) r i
    have e : k + 1 + i = k + (i + 1) := by omega
    rw [e] at h
    simpa [outsF] using h
theorem pad_at {α : Type} {l : List α} {n i : Nat} {x : α} (h : (l.map some ++ List.replicate n none)[i]? = some (some x)) : l[i]? = some x := by
  rw [List.getElem?_append] at h
  split at h
  · rename_i hl
    rw [List.getElem?_map] at h
    cases e : l[i]? with
    | none => rw [e] at h; cases h
    | some y => rw [e] at h; simpa using h
  · rw [List.getElem?_replicate] at h
    split at h <;> cases h
theorem pad_of {α : Type} {l : List α} {n i : Nat} {x : α} (h : l[i]? = some x) : (l.map some ++ List.replicate n none)[i]? = some (some x) := by
  have hl : i < (l.map some).length := by simpa using lt_of_at h
  rw [List.getElem?_append_left hl, List.getElem?_map, h]
  rfl
theorem map_at {α : Type} {l : List α} {i : Nat} {x : α} : (l.map some)[i]? = some (some x) ↔ l[i]? = some x := by
  rw [List.getElem?_map]
  cases l[i]? with
  | none => simp
  | some y => simp
/-- the entry of a def -/
theorem FR.enter {vs : List V} {args : List Slot} {n : Nat} (f : FR Γ Z (vs.map some) (args.map some) H) : FR Γ Z (vs.map some ++ List.replicate n none) ((maskF fx 0 args).map some ++ List.replicate n none) H ∧
    (∀ a, roots (vs.map some ++ List.replicate n none) ((maskF fx 0 args).map some ++ List.replicate n none) a → roots (vs.map some) (args.map some) a) := by
  have g : FR Γ Z (vs.map some) ((maskF fx 0 args).map some) H := by
    refine f.sub (by simp [maskF_len]) fun i s h => ?_
    rw [map_at] at h
    rw [maskF_at] at h
    cases e : args[i]? with
    | none => rw [e] at h; cases h
    | some t =>
      rw [e] at h
      simp only [Option.map_some, Option.some.injEq] at h
      obtain ⟨d, b⟩ := t
      by_cases hi : 0 + i ∈ fx
      · rw [if_pos hi] at h
        subst h
        exact .inl (map_at.mpr e)
      · rw [if_neg hi] at h
        subst h
        cases b with
        | false => exact .inl (map_at.mpr e)
        | true => exact .inr ⟨rfl, map_at.mpr e⟩
  have hsub : ∀ a, roots (vs.map some) ((maskF fx 0 args).map some) a → roots (vs.map some) (args.map some) a := fun a r => by
    obtain ⟨i, d, e1, e2⟩ := r
    rw [map_at, maskF_at] at e1
    cases e : args[i]? with
    | none => rw [e] at e1; cases e1
    | some t =>
      rw [e] at e1
      simp only [Option.map_some, Option.some.injEq] at e1
      by_cases hi : 0 + i ∈ fx
      · rw [if_pos hi] at e1
        subst e1
        exact ⟨i, d, map_at.mpr e, e2⟩
      · rw [if_neg hi] at e1
        cases e1
  have hr : ∀ a, roots (vs.map some ++ List.replicate n none) ((maskF fx 0 args).map some ++ List.replicate n none) a ↔ roots (vs.map some) ((maskF fx 0 args).map some) a := fun a => by
    constructor
    · rintro ⟨i, d, e1, e2⟩
      exact ⟨i, d, map_at.mpr (pad_at e1), map_at.mpr (pad_at e2)⟩
    · rintro ⟨i, d, e1, e2⟩
      exact ⟨i, d, pad_of (map_at.mp e1), pad_of (map_at.mp e2)⟩
  have oa : OA Z (vs.map some ++ List.replicate n none) ((maskF fx 0 args).map some ++ List.replicate n none) = OA Z (vs.map some) ((maskF fx 0 args).map some) := by
    funext a
    exact propext ⟨fun z => z.imp id (hr a).mp, fun z => z.imp id (hr a).mpr⟩
  refine ⟨⟨?_, ?_, fun i d h => ?_, fun i d h => ?_, fun i j d e a h1 h2 h3 h4 => ?_, fun a z r => g.dis a z ((hr a).mp r)⟩, fun a r => hsub a ((hr a).mp r)⟩
  · have := g.len
    simp only [List.length_append, List.length_replicate]
    omega
  · rw [oa]; exact g.mu
  · rw [oa]
    obtain ⟨v, e1, r⟩ := g.sh i d (map_at.mpr (pad_at h))
    exact ⟨v, pad_of (map_at.mp e1), r⟩
  · rw [oa]
    obtain ⟨v, e1, r⟩ := g.ow i d (map_at.mpr (pad_at h))
    exact ⟨v, pad_of (map_at.mp e1), r⟩
  · exact g.inj i j d e a (map_at.mpr (pad_at h1)) (map_at.mpr (pad_at h2)) (map_at.mpr (pad_at h3)) (map_at.mpr (pad_at h4))
/-- the end of a def: its parameters as they stand -/
theorem FR.leave {vs : List V} {args : List Slot} {n : Nat} (f : FR Γ Z (vs.map some) (args.map some) H) {Z1 : Addr → Prop} (hZ : ∀ a, Z1 a → Z a ∨ H a = none ∨ roots (vs.map some ++ List.replicate n none) ((maskF fx 0 args).map some ++ List.replicate n none) a) (f1 : FR Γ Z1 σ1 ρ1 H1) (s : Step (vs.map some ++ List.replicate n none) ((maskF fx 0 args).map some ++ List.replicate n none) H σ1 ρ1 H1) (x : Fx fx (vs.map some ++ List.replicate n none) σ1) :
    FR Γ Z1 (vs.map some) (outsF fx ρ1 0 args) H1 ∧ Step (vs.map some) (args.map some) H (vs.map some) (outsF fx ρ1 0 args) H1 ∧ ∀ a, roots (vs.map some) (outsF fx ρ1 0 args) a → roots σ1 ρ1 a := by
  obtain ⟨g, hg⟩ := f.enter (fx := fx) (n := n)
  have hlen : vs.length = args.length := by simpa using f.len
  have at_fx : ∀ (i : Nat) (t : Slot), (outsF fx ρ1 0 args)[i]? = some (some t) → (i ∈ fx ∧ ρ1[i]? = some (some t) ∧ ∃ v, vs[i]? = some v ∧ σ1[i]? = some (some v)) ∨ (i ∉ fx ∧ ∃ t', args[i]? = some t' ∧ t = (t'.1, false)) := fun i t h => by
    rw [outsF_at] at h
    cases e : args[i]? with
    | none => rw [e] at h; cases h
    | some t' =>
      rw [e] at h
      simp only [Option.map_some, Option.some.injEq, Nat.zero_add] at h
      by_cases hi : i ∈ fx
      · rw [if_pos hi] at h
        refine .inl ⟨hi, ?_, ?_⟩
        · cases q : ρ1[i]? with
          | none => rw [q] at h; cases h
          | some y => rw [q] at h; rw [← h]
        · have hv : i < vs.length := by rw [hlen]; exact lt_of_at e
          refine ⟨vs[i], List.getElem?_eq_getElem hv, ?_⟩
          rw [x i hi]
          exact pad_of (List.getElem?_eq_getElem hv)
      · rw [if_neg hi] at h
        exact .inr ⟨hi, t', rfl, (Option.some.inj h).symm⟩
  have hr : ∀ a, roots (vs.map some) (outsF fx ρ1 0 args) a → roots σ1 ρ1 a := fun a ⟨i, d, e1, e2⟩ => by
    rcases at_fx i _ e1 with ⟨_, q, v, q2, q3⟩ | ⟨_, t', _, q⟩
    · rw [map_at, q2] at e2
      cases e2
      exact ⟨i, d, q, q3⟩
    · cases q
  have ov : Ov (OA Z1 σ1 ρ1) (OA Z1 (vs.map some) (outsF fx ρ1 0 args)) H1 H1 := ⟨fun a o _ z => z.imp id (hr a), f1.mu, fun _ _ h _ => h⟩
  refine ⟨⟨by simp [outsF_len, hlen], fun a z => f1.mu a (z.imp id (hr a)), fun i d h => ?_, fun i d h => ?_, fun i j d e a h1 h2 h3 h4 => ?_, fun a z r => f1.dis a z (hr a r)⟩, ⟨fun a o h nr => s.keep a o h fun z => nr (hg a z), s.dom, fun a z => ?_⟩, hr⟩
  · rcases at_fx i _ h with ⟨_, q, v, q2, q3⟩ | ⟨hi, t', q, q2⟩
    · obtain ⟨v', e1, r⟩ := f1.sh i d q
      rw [q3] at e1
      cases e1
      exact ⟨v, map_at.mpr q2, r.to ov⟩
    · have hv : i < vs.length := by rw [hlen]; exact lt_of_at q
      have hm : ((maskF fx 0 args).map some ++ List.replicate n none)[i]? = some (some (d, false)) := by
        refine pad_of ?_
        rw [maskF_at, q]
        simp only [Option.map_some, Nat.zero_add, if_neg hi]
        rw [q2]
      obtain ⟨v, e1, r⟩ := g.sh i d hm
      refine ⟨v, map_at.mpr (pad_at e1), ?_⟩
      refine Rep.to ov (r.to ⟨fun a o ha z => ?_, g.mu, fun a o h n => s.keep a o h fun z => n (.inr z)⟩)
      rcases z with z | z
      · rcases hZ a z with z | z | z
        · exact .inl z
        · rw [ha] at z; cases z
        · exact .inr z
      · rcases s.new a z with z | z
        · exact .inr z
        · rw [ha] at z; cases z
  · rcases at_fx i _ h with ⟨_, q, v, q2, q3⟩ | ⟨_, t', _, q⟩
    · obtain ⟨v', e1, r⟩ := f1.ow i d q
      rw [q3] at e1
      cases e1
      obtain ⟨a, rfl, o, _⟩ := r.ref
      have e2 : (vs.map some)[i]? = some (some (V.ref a)) := map_at.mpr q2
      exact ⟨_, e2, r.to ov (.inr ⟨i, d, h, e2⟩) fun _ h => h⟩
    · cases q
  · rcases at_fx i _ h1 with ⟨_, q, v, q2, q3⟩ | ⟨_, t', _, q⟩
    · rcases at_fx j _ h2 with ⟨_, p, u, p2, p3⟩ | ⟨_, t', _, p⟩
      · rw [map_at, q2] at h3
        cases h3
        rw [map_at, p2] at h4
        cases h4
        exact f1.inj i j d e a q p q3 p3
      · cases p
    · cases q
  · rcases s.new a (hr a z) with q | q
    · exact .inl (hg a q)
    · exact .inr q
/-- a def's promise from its body's reading -/
theorem def_ok {N : List Str} {np : Nat} {t : TS} {m : CStm} {vs : List V} {Q : VK} {E : XK} (hb : SS Γ fx (fun cls d _ H => E cls d H) t m) (h : spD Γ (bodyF fx N.length m) np vs H Q E) :
    t { nx := fun _ H' => Q .non H', rt := Q } (L2.start N vs) H := by
  obtain ⟨hl, Z, args, f, k⟩ := h
  have hlen : vs.length = args.length := by simpa using f.len
  obtain ⟨g, hg⟩ := f.enter (fx := fx) (n := N.length - vs.length)
  unfold L2.start
  refine hb Z _ _ H _ g ?_
  unfold bodyF at k
  rw [← hlen] at k
  revert k
  cases m ((maskF fx 0 args).map some ++ List.replicate (N.length - vs.length) none) with
  | ok o ρ' =>
    cases o with
    | nx =>
      intro k σ1 H1 f1 s1 x1
      obtain ⟨f2, s2, _⟩ := f.leave (fun a z => .inl z) f1 s1 x1
      exact k .non H1 f2 s2 .non
    | bk => exact fun k => k.elim
    | ct => exact fun k => k.elim
    | rt s =>
      obtain ⟨d, b⟩ := s
      cases b with
      | false =>
        intro k v σ1 H1 f1 s1 x1 r
        obtain ⟨f2, s2, hr⟩ := f.leave (fun a z => .inl z) f1 s1 x1
        exact k v H1 f2 s2 (r.to ⟨fun a o _ z => z.imp id (hr a), f1.mu, fun _ _ h _ => h⟩)
      | true =>
        intro k a σ1 H1 f1 s1 x1 n q r
        obtain ⟨f2, s2, hr⟩ := f.leave (fun b z => by
          rcases z with z | z
          · exact .inl z
          · rw [z]; exact .inr q) f1 s1 x1
        exact k a H1 f2 s2 n (q.imp id (hg a)) (r.to ⟨fun b o _ z => z.imp id (hr b), f1.mu, fun _ _ h _ => h⟩ (.inl (.inr rfl)) fun _ h => h)
  | exc c fs ρ' =>
    intro k d σ1 H1 f1 s1 x1 r
    obtain ⟨f2, s2, hr⟩ := f.leave (fun a z => .inl z) f1 s1 x1
    refine k d H1 f2 s2 ?_
    cases d with
    | none => exact r
    | some dx =>
      obtain ⟨us, h1, h2, h3⟩ := r
      exact ⟨us, h1, h2, h3.to ⟨fun a o _ z => z.imp id (hr a), f1.mu, fun _ _ h _ => h⟩⟩
  | stuck => exact fun k => k.elim
/-! ### a call -/
def hasV : List Opd → Nat → Bool
  | [], _ => false
  | .v i :: os, j => decide (i = j) || hasV os j
  | .e _ :: os, j => hasV os j
def noDup : List Opd → Sl → Bool
  | [], _ => true
  | .v i :: os, ρ => (match ρ[i]? with
    | some (some (_, true)) => !hasV os i
    | _ => true) && noDup os ρ
  | .e _ :: os, ρ => noDup os ρ
def argS : List Opd → List (Option D) → Sl → Option (List Slot)
  | [], [], _ => some []
  | .v i :: os, none :: xs, ρ => match ρ[i]?, argS os xs ρ with
    | some (some s), some r => some (s :: r)
    | _, _ => none
  | .e _ :: os, some d :: xs, ρ => match argS os xs ρ with
    | some r => some ((d, false) :: r)
    | none => none
  | _, _, _ => none
def findA : List Opd → List (Option Slot) → Nat → Option (Option Slot)
  | .v i :: os, a :: as, j => if i = j then some a else findA os as j
  | .e _ :: os, _ :: as, j => findA os as j
  | _, _, _ => none
def updA (os : List Opd) (as : List (Option Slot)) (j : Nat) (s : Option Slot) : Option Slot := match s with
  | some (_, true) => (match findA os as j with
    | some a => a
    | none => s)
  | _ => s
def backF (os : List Opd) (as : List (Option Slot)) : Nat → Sl → Sl
  | _, [] => []
  | k, s :: r => updA os as k s :: backF os as (k + 1) r
def cCall (F : CFun) (os : List Opd) : CExp := fun ρ => (evO os ρ).bind fun xs ρ1 => match argS os xs ρ1, noDup os ρ1 with
  | some args, true => match F args with
    | .ok s as => .ok s (backF os as 0 ρ1)
    | .exc c fs as => .exc c fs (backF os as 0 ρ1)
    | .stuck => .stuck
  | _, _ => .stuck
theorem backF_len {os : List Opd} {as : List (Option Slot)} : ∀ (k : Nat) (l : Sl), (backF os as k l).length = l.length
  | _, [] => rfl
  | k, s :: r => by simp [backF, backF_len (k + 1) r]
theorem backF_at {os : List Opd} {as : List (Option Slot)} : ∀ (k : Nat) (l : Sl) (i : Nat), (backF os as k l)[i]? = (l[i]?).map fun s => updA os as (k + i) s
  | _, [], i => by simp [backF]
  | k, s :: r, 0 => by simp [backF]
  | k, s :: r, i + 1 => by
    have h := backF_at (os := os) (as := as) (k + 1) r i
    have e : k + 1 + i = k + (i + 1) := by omega
    rw [e] at h
    simpa [backF] using h
inductive AR (Γ : Gm) (Z : Addr → Prop) (σ : St) (ρ : Sl) (H : Hp) : List Opd → List V → List Slot → Prop
  | nil : AR Γ Z σ ρ H [] [] []
  | v {i : Nat} {v : V} {s : Slot} {os : List Opd} {vs : List V} {r : List Slot} : σ[i]? = some (some v) → ρ[i]? = some (some s) → AR Γ Z σ ρ H os vs r → AR Γ Z σ ρ H (.v i :: os) (v :: vs) (s :: r)
  | e {m : CExp} {d : D} {v : V} {os : List Opd} {vs : List V} {r : List Slot} : Rep Γ (OA Z σ ρ) H v d → AR Γ Z σ ρ H os vs r → AR Γ Z σ ρ H (.e m :: os) (v :: vs) ((d, false) :: r)
theorem OR.ar {os : List Opd} {xs : List (Option D)} {vs : List V} (h : OR Γ Z σ ρ H os xs vs) : ∀ {args : List Slot}, argS os xs ρ = some args → AR Γ Z σ ρ H os vs args := by
  induction h with
  | nil => intro args e; cases e; exact .nil
  | @v i v os xs vs hv _ ih =>
    intro args e
    unfold argS at e
    cases q : ρ[i]? with
    | none => rw [q] at e; cases e
    | some w =>
      cases w with
      | none => rw [q] at e; cases e
      | some sl =>
        rw [q] at e
        cases q2 : argS os xs ρ with
        | none => rw [q2] at e; cases e
        | some r =>
          rw [q2] at e
          cases e
          exact .v hv q (ih q2)
  | @e m d v os xs vs hr _ ih =>
    intro args e
    unfold argS at e
    cases q2 : argS os xs ρ with
    | none => rw [q2] at e; cases e
    | some r =>
      rw [q2] at e
      cases e
      exact .e hr (ih q2)
theorem AR.len {os : List Opd} {vs : List V} {args : List Slot} (h : AR Γ Z σ ρ H os vs args) : vs.length = args.length ∧ os.length = args.length := by
  induction h with
  | nil => exact ⟨rfl, rfl⟩
  | v _ _ _ ih => exact ⟨congrArg (· + 1) ih.1, congrArg (· + 1) ih.2⟩
  | e _ _ ih => exact ⟨congrArg (· + 1) ih.1, congrArg (· + 1) ih.2⟩
theorem AR.own {os : List Opd} {vs : List V} {args : List Slot} (h : AR Γ Z σ ρ H os vs args) : ∀ {k : Nat} {d : D}, args[k]? = some (d, true) → ∃ i v, os[k]? = some (.v i) ∧ ρ[i]? = some (some (d, true)) ∧ vs[k]? = some v ∧ σ[i]? = some (some v) := by
  induction h with
  | nil => intro k d e; cases k <;> cases e
  | @v i v s os vs r h1 h2 _ ih =>
    intro k d e
    cases k with
    | zero =>
      cases e
      exact ⟨i, v, rfl, h2, rfl, h1⟩
    | succ k => exact ih (k := k) e
  | @e m d' v os vs r hr _ ih =>
    intro k d e
    cases k with
    | zero => cases e
    | succ k => exact ih (k := k) e
theorem AR.sh (f : FR Γ Z σ ρ H) {os : List Opd} {vs : List V} {args : List Slot} (h : AR Γ Z σ ρ H os vs args) : ∀ {k : Nat} {d : D}, args[k]? = some (d, false) → ∃ v, vs[k]? = some v ∧ Rep Γ (OA Z σ ρ) H v d := by
  induction h with
  | nil => intro k d e; cases k <;> cases e
  | @v i v s os vs r h1 h2 _ ih =>
    intro k d e
    cases k with
    | zero =>
      cases e
      obtain ⟨v', e1, r⟩ := f.sh i d h2
      rw [h1] at e1
      cases e1
      exact ⟨v, rfl, r⟩
    | succ k => exact ih (k := k) e
  | @e m d' v os vs r hr _ ih =>
    intro k d e
    cases k with
    | zero => cases e; exact ⟨v, rfl, hr⟩
    | succ k => exact ih (k := k) e
theorem AR.pass {os : List Opd} {vs : List V} {args : List Slot} (h : AR Γ Z σ ρ H os vs args) : ∀ {j : Nat} {s : Slot}, hasV os j = true → ρ[j]? = some (some s) → ∃ (k : Nat) (v : V), os[k]? = some (Opd.v j) ∧ args[k]? = some s ∧ vs[k]? = some v ∧ σ[j]? = some (some v) := by
  induction h with
  | nil => intro j s e; cases e
  | @v i v s' os vs r h1 h2 _ ih =>
    intro j s e q
    by_cases hij : i = j
    · subst hij
      rw [h2] at q
      cases q
      exact ⟨0, v, rfl, rfl, rfl, h1⟩
    · have e2 : hasV os j = true := by
        unfold hasV at e
        simpa [hij] using e
      obtain ⟨k, v', a, b, c, d⟩ := ih e2 q
      exact ⟨k + 1, v', a, b, c, d⟩
  | @e m d' v os vs r hr _ ih =>
    intro j s e q
    obtain ⟨k, v', a, b, c, d⟩ := ih (show hasV os j = true from e) q
    exact ⟨k + 1, v', a, b, c, d⟩
theorem hasV_at : ∀ {os : List Opd} {k j : Nat}, os[k]? = some (.v j) → hasV os j = true
  | [], k, j, h => by cases k <;> cases h
  | .v i :: os, 0, j, h => by cases h; simp [hasV]
  | .e _ :: os, 0, j, h => by cases h
  | .v i :: os, k + 1, j, h => by
    have := hasV_at (os := os) (k := k) (j := j) h
    simp [hasV, this]
  | .e _ :: os, k + 1, j, h => hasV_at (os := os) (k := k) (j := j) h
theorem noDup_at : ∀ {os : List Opd} {k l j : Nat} {d : D}, noDup os ρ = true → os[k]? = some (.v j) → os[l]? = some (.v j) → ρ[j]? = some (some (d, true)) → k = l
  | [], k, l, j, d, _, h, _, _ => by cases k <;> cases h
  | o :: os, 0, 0, j, d, _, _, _, _ => rfl
  | .v i :: os, 0, l + 1, j, d, hn, h, h2, h3 => by
    cases h
    unfold noDup at hn
    rw [h3] at hn
    have := hasV_at (os := os) (k := l) h2
    simp [this] at hn
  | .e _ :: os, 0, l + 1, j, d, _, h, _, _ => by cases h
  | .v i :: os, k + 1, 0, j, d, hn, h, h2, h3 => by
    cases h2
    unfold noDup at hn
    rw [h3] at hn
    have := hasV_at (os := os) (k := k) h
    simp [this] at hn
  | .e _ :: os, k + 1, 0, j, d, _, _, h, _ => by cases h
  | .v i :: os, k + 1, l + 1, j, d, hn, h, h2, h3 => by
    unfold noDup at hn
    exact congrArg (· + 1) (noDup_at (os := os) (k := k) (l := l) (Bool.and_eq_true_iff.mp hn).2 h h2 h3)
  | .e _ :: os, k + 1, l + 1, j, d, hn, h, h2, h3 => congrArg (· + 1) (noDup_at (os := os) (k := k) (l := l) (show noDup os ρ = true from hn) h h2 h3)
theorem findA_at : ∀ {os : List Opd} {as : List (Option Slot)} {j : Nat} {a : Option Slot}, findA os as j = some a → ∃ k : Nat, os[k]? = some (Opd.v j) ∧ as[k]? = some a
  | [], _, _, _, h => by cases h
  | .v i :: os, [], _, _, h => by cases h
  | .e _ :: os, [], _, _, h => by cases h
  | .v i :: os, b :: as, j, a, h => by
    unfold findA at h
    by_cases e : i = j
    · rw [if_pos e] at h
      cases h
      subst e
      exact ⟨0, rfl, rfl⟩
    · rw [if_neg e] at h
      obtain ⟨k, h1, h2⟩ := findA_at (os := os) (as := as) h
      exact ⟨k + 1, h1, h2⟩
  | .e _ :: os, b :: as, j, a, h => by
    obtain ⟨k, h1, h2⟩ := findA_at (os := os) (as := as) (show findA os as j = some a from h)
    exact ⟨k + 1, h1, h2⟩
theorem findA_has : ∀ {os : List Opd} {as : List (Option Slot)} {j : Nat}, hasV os j = true → os.length = as.length → ∃ a, findA os as j = some a
  | [], _, _, h, _ => by cases h
  | .v i :: os, [], _, _, h => by cases h
  | .e _ :: os, [], _, _, h => by cases h
  | .v i :: os, b :: as, j, h, hl => by
    unfold findA
    by_cases e : i = j
    · exact ⟨b, by rw [if_pos e]⟩
    · rw [if_neg e]
      exact findA_has (os := os) (as := as) (by unfold hasV at h; simpa [e] using h) (by simpa using hl)
  | .e _ :: os, b :: as, j, h, hl => findA_has (os := os) (as := as) (show hasV os j = true from h) (by simpa using hl)
def Psd (os : List Opd) (σ : St) (ρ : Sl) (a : Addr) : Prop := ∃ j d, hasV os j = true ∧ ρ[j]? = some (some (d, true)) ∧ σ[j]? = some (some (V.ref a))
def Zc (Z : Addr → Prop) (os : List Opd) (σ : St) (ρ : Sl) (a : Addr) : Prop := OA Z σ ρ a ∧ ¬ Psd os σ ρ a
theorem AR.roots {os : List Opd} {vs : List V} {args : List Slot} (h : AR Γ Z σ ρ H os vs args) (a : Addr) : VS.roots (vs.map some) (args.map some) a ↔ Psd os σ ρ a := by
  constructor
  · rintro ⟨k, d, e1, e2⟩
    rw [map_at] at e1 e2
    obtain ⟨i, v, q1, q2, q3, q4⟩ := h.own e1
    rw [e2] at q3
    cases q3
    exact ⟨i, d, hasV_at q1, q2, q4⟩
  · rintro ⟨j, d, q1, q2, q3⟩
    obtain ⟨k, v, p1, p2, p3, p4⟩ := h.pass q1 q2
    rw [q3] at p4
    cases p4
    exact ⟨k, d, map_at.mpr p2, map_at.mpr p3⟩
theorem AR.oa {os : List Opd} {vs : List V} {args : List Slot} (h : AR Γ Z σ ρ H os vs args) : OA (Zc Z os σ ρ) (vs.map some) (args.map some) = OA Z σ ρ := by
  funext a
  refine propext ⟨fun z => ?_, fun z => ?_⟩
  · rcases z with z | z
    · exact z.1
    · obtain ⟨j, d, _, q2, q3⟩ := (h.roots a).mp z
      exact .inr ⟨j, d, q2, q3⟩
  · by_cases p : Psd os σ ρ a
    · exact .inr ((h.roots a).mpr p)
    · exact .inl ⟨z, p⟩
theorem AR.fr (f : FR Γ Z σ ρ H) {os : List Opd} {vs : List V} {args : List Slot} (h : AR Γ Z σ ρ H os vs args) (hn : noDup os ρ = true) : FR Γ (Zc Z os σ ρ) (vs.map some) (args.map some) H := by
  refine ⟨by simp [h.len.1], ?_, fun k d e => ?_, fun k d e => ?_, fun k l d e a h1 h2 h3 h4 => ?_, fun a z r => z.2 ((h.roots a).mp r)⟩
  · rw [h.oa]; exact f.mu
  · rw [h.oa]
    obtain ⟨v, q, r⟩ := h.sh f (map_at.mp e)
    exact ⟨v, map_at.mpr q, r⟩
  · rw [h.oa]
    obtain ⟨i, v, q1, q2, q3, q4⟩ := h.own (map_at.mp e)
    obtain ⟨v', p1, p2⟩ := f.ow i d q2
    rw [q4] at p1
    cases p1
    exact ⟨v, map_at.mpr q3, p2⟩
  · obtain ⟨i, v, q1, q2, q3, q4⟩ := h.own (map_at.mp h1)
    obtain ⟨j, u, p1, p2, p3, p4⟩ := h.own (map_at.mp h2)
    rw [map_at.mp h3] at q3
    cases q3
    rw [map_at.mp h4] at p3
    cases p3
    have eij := f.inj i j d e a q2 p2 q4 p4
    subst eij
    exact noDup_at hn q1 p1 q2
theorem AR.same {os : List Opd} {vs : List V} {args : List Slot} (h : AR Γ Z σ ρ H os vs args) : ∀ {k j : Nat}, os[k]? = some (Opd.v j) → ∃ v, vs[k]? = some v ∧ σ[j]? = some (some v) := by
  induction h with
  | nil => intro k j q; cases k <;> cases q
  | @v i v s os vs r h1 h2 _ ih =>
    intro k j q
    cases k with
    | zero => cases q; exact ⟨v, rfl, h1⟩
    | succ k => exact ih (k := k) q
  | @e m d' v os vs r hr _ ih =>
    intro k j q
    cases k with
    | zero => cases q
    | succ k => exact ih (k := k) q
/-- behind the call -/
theorem AR.after {H' : Hp} (f : FR Γ Z σ ρ H) {os : List Opd} {vs : List V} {args : List Slot} {as : List (Option Slot)} (h : AR Γ Z σ ρ H os vs args) {X : Addr → Prop} (fc : FR Γ (fun b => Zc Z os σ ρ b ∨ X b) (vs.map some) as H')
    (st : Step (vs.map some) (args.map some) H (vs.map some) as H') (hX : ∀ b, X b → H b = none ∨ VS.roots (vs.map some) (args.map some) b) (hX2 : ∀ b, X b → ¬ Zc Z os σ ρ b) :
    FR Γ (fun b => Z b ∨ X b) σ (backF os as 0 ρ) H' ∧ Step σ ρ H σ (backF os as 0 ρ) H' ∧ ∀ b, OA (fun b => Z b ∨ X b) σ (backF os as 0 ρ) b → OA (fun b => Zc Z os σ ρ b ∨ X b) (vs.map some) as b := by
  have hla : os.length = as.length := by
    have q := fc.len
    have q2 := h.len
    simp only [List.length_map] at q
    omega
  -- a slot behind the call: as it was (not passed), or what came back
  have at2 : ∀ (j : Nat) (s : Slot), (backF os as 0 ρ)[j]? = some (some s) → (ρ[j]? = some (some s) ∧ (s.2 = true → hasV os j = false)) ∨ (∃ d k v, ρ[j]? = some (some (d, true)) ∧ hasV os j = true ∧ as[k]? = some (some s) ∧ vs[k]? = some v ∧ σ[j]? = some (some v)) := fun j s e => by
    rw [backF_at, Nat.zero_add] at e
    cases q : ρ[j]? with
    | none => rw [q] at e; cases e
    | some w =>
      rw [q] at e
      simp only [Option.map_some, Option.some.injEq] at e
      cases w with
      | none => cases e
      | some t =>
        obtain ⟨d, b⟩ := t
        cases b with
        | false =>
          cases e
          exact .inl ⟨rfl, fun z => by cases z⟩
        | true =>
          cases hh : hasV os j with
          | false =>
            have nf : findA os as j = none := by
              cases q3 : findA os as j with
              | none => rfl
              | some a =>
                obtain ⟨k, q4, _⟩ := findA_at q3
                rw [hasV_at q4] at hh
                cases hh
            unfold updA at e
            rw [nf] at e
            cases e
            exact .inl ⟨rfl, fun _ => rfl⟩
          | true =>
            obtain ⟨a, q3⟩ := findA_has (as := as) hh hla
            unfold updA at e
            rw [q3] at e
            simp only at e
            subst e
            obtain ⟨k, q4, q5⟩ := findA_at q3
            have hk : k < args.length := by rw [← h.len.2]; exact lt_of_at q4
            obtain ⟨k', v', p1, p2, p3, p4⟩ := h.pass hh q
            -- the place k holds the same name
            have hv : k < vs.length := by rw [h.len.1]; exact hk
            have same := h.same q4
            obtain ⟨v, e1, e2⟩ := same
            exact .inr ⟨d, k, v, rfl, rfl, q5, e1, e2⟩
  have own2 : ∀ (j : Nat) (d : D), (backF os as 0 ρ)[j]? = some (some (d, true)) → ∃ d', ρ[j]? = some (some (d', true)) := fun j d e => by
    rcases at2 j _ e with ⟨q, _⟩ | ⟨d', k, v, q, _⟩
    · exact ⟨d, q⟩
    · exact ⟨d', q⟩
  have rt2 : ∀ b, VS.roots σ (backF os as 0 ρ) b → VS.roots σ ρ b := fun b ⟨j, d, e1, e2⟩ => by
    obtain ⟨d', q⟩ := own2 j d e1
    exact ⟨j, d', q, e2⟩
  have rt3 : ∀ b, VS.roots σ (backF os as 0 ρ) b → Zc Z os σ ρ b ∨ VS.roots (vs.map some) as b := fun b ⟨j, d, e1, e2⟩ => by
    rcases at2 j _ e1 with ⟨q, nv⟩ | ⟨d', k, v, q, _, q2, q3, q4⟩
    · refine .inl ⟨.inr ⟨j, d, q, e2⟩, ?_⟩
      rintro ⟨j', d', p1, p2, p3⟩
      have ej := f.inj j j' d d' b q p2 e2 p3
      subst ej
      rw [nv rfl] at p1
      cases p1
    · rw [e2] at q4
      cases q4
      exact .inr ⟨k, d, q2, map_at.mpr q3⟩
  have sub : ∀ b, OA (fun b => Z b ∨ X b) σ (backF os as 0 ρ) b → OA (fun b => Zc Z os σ ρ b ∨ X b) (vs.map some) as b := fun b z => by
    rcases z with (z | z) | z
    · refine .inl (.inl ⟨.inl z, ?_⟩)
      rintro ⟨j, d, _, q2, q3⟩
      exact f.dis b z ⟨j, d, q2, q3⟩
    · exact .inl (.inr z)
    · rcases rt3 b z with q | q
      · exact .inl (.inl q)
      · exact .inr q
  have ov1 : Ov (OA Z σ ρ) (OA (fun b => Z b ∨ X b) σ (backF os as 0 ρ)) H H' := ⟨fun b o hb z => by
    rcases z with (z | z) | z
    · exact .inl z
    · rcases hX b z with q | q
      · rw [hb] at q; cases q
      · obtain ⟨j, d, _, q2, q3⟩ := (h.roots b).mp q
        exact .inr ⟨j, d, q2, q3⟩
    · exact .inr (rt2 b z), f.mu, fun b o hb n => st.keep b o hb fun z => by
      obtain ⟨j, d, _, q2, q3⟩ := (h.roots b).mp z
      exact n (.inr ⟨j, d, q2, q3⟩)⟩
  have ov2 : Ov (OA (fun b => Zc Z os σ ρ b ∨ X b) (vs.map some) as) (OA (fun b => Z b ∨ X b) σ (backF os as 0 ρ)) H' H' := ⟨fun b o _ z => sub b z, fc.mu, fun _ _ h _ => h⟩
  refine ⟨⟨by rw [backF_len]; exact f.len, fun b z => fc.mu b (sub b z), fun j d e => ?_, fun j d e => ?_, fun i j d e a h1 h2 h3 h4 => ?_, fun b z r => ?_⟩, ⟨fun b o hb n => st.keep b o hb fun z => ?_, st.dom, fun b z => .inl (rt2 b z)⟩, sub⟩
  · rcases at2 j _ e with ⟨q, _⟩ | ⟨d', k, v, q, _, q2, q3, q4⟩
    · obtain ⟨v, e1, r⟩ := f.sh j d q
      exact ⟨v, e1, r.to ov1⟩
    · obtain ⟨v', e1, r⟩ := fc.sh k d q2
      rw [map_at.mpr q3] at e1
      cases e1
      exact ⟨v, q4, r.to ov2⟩
  · rcases at2 j _ e with ⟨q, nv⟩ | ⟨d', k, v, q, _, q2, q3, q4⟩
    · obtain ⟨v, e1, r⟩ := f.ow j d q
      obtain ⟨a, rfl, o, _⟩ := r.ref
      refine ⟨_, e1, r.to ov1 (.inr ⟨j, d, e, e1⟩) fun u hu => st.keep a u hu fun z => ?_⟩
      obtain ⟨j', d', p1, p2, p3⟩ := (h.roots a).mp z
      have ej := f.inj j j' d d' a q p2 e1 p3
      subst ej
      rw [nv rfl] at p1
      cases p1
    · obtain ⟨v', e1, r⟩ := fc.ow k d q2
      rw [map_at.mpr q3] at e1
      cases e1
      obtain ⟨a, rfl, o, _⟩ := r.ref
      exact ⟨_, q4, r.to ov2 (.inr ⟨j, d, e, q4⟩) fun _ h => h⟩
  · obtain ⟨d1, q1⟩ := own2 i d h1
    obtain ⟨d2, q2⟩ := own2 j e h2
    exact f.inj i j d1 d2 a q1 q2 h3 h4
  · rcases z with z | z
    · exact f.dis b z (rt2 b r)
    · rcases rt3 b r with q | q
      · exact hX2 b z q
      · exact fc.dis b (.inr z) q
  · obtain ⟨j, d, _, q2, q3⟩ := (h.roots b).mp z
    exact n ⟨j, d, q2, q3⟩
theorem zfalse {P : Addr → Prop} : (fun b => P b ∨ False) = P := by
  funext b
  exact propext ⟨fun z => z.elim id False.elim, .inl⟩
theorem SE.call {F : CFun} {np : Nat} {ta : TA} {os : List Opd} (ha : SA Γ W ta os) (hn : os.length = np) : SE Γ W (tCallS (spD Γ F np) (WE W) ta) (cCall F os) := by
  intro Z σ ρ H Q f k
  refine ha.run f ?_
  unfold cCall at k
  revert k
  cases evO os ρ with
  | exc c fs ρ' => exact fun k => k
  | stuck => exact fun k => k
  | ok xs ρ1 =>
    intro k vs H1 f1 s1 o
    simp only [Res.bind_ok] at k
    cases q1 : argS os xs ρ1 with
    | none => rw [q1] at k; exact k.elim
    | some args =>
      cases q2 : noDup os ρ1 with
      | false => rw [q1, q2] at k; exact k.elim
      | true =>
        rw [q1, q2] at k
        have h := o.ar q1
        refine ⟨by rw [h.len.1, ← h.len.2]; exact hn, Zc Z os σ ρ1, args, h.fr f1 q2, ?_⟩
        simp only at k
        revert k
        cases F args with
        | stuck => exact fun k => k
        | ok s as =>
          obtain ⟨d, b⟩ := s
          cases b with
          | false =>
            intro k v H' fc st r
            obtain ⟨f2, s2, sub⟩ := h.after f1 (X := fun _ => False) (fc.zdrop fun a z => z.elim id False.elim) st (fun b z => z.elim) (fun b z => z.elim)
            rw [zfalse] at f2
            refine k v H' f2 (s1.trans s2) (r.to ⟨fun b o _ z => ?_, fc.mu, fun _ _ h _ => h⟩)
            have z2 := sub b (z.imp (fun y => .inl y) id)
            exact z2.imp (fun y => y.elim id False.elim) id
          | true =>
            intro k a H' fc st n q r
            obtain ⟨f2, s2, sub⟩ := h.after f1 (X := fun b => b = a) fc st (fun b z => by rw [z]; exact q) (fun b z => by rw [z]; exact n)
            refine k a H' f2 (s1.trans s2) (fun z => ?_) (s1.root (q.imp id fun z => ?_)) (r.to ⟨fun b o _ z => sub b z, fc.mu, fun _ _ h _ => h⟩ (.inl (.inr rfl)) fun _ h => h)
            · refine n ⟨.inl z, ?_⟩
              rintro ⟨j, d, _, q2, q3⟩
              exact f1.dis a z ⟨j, d, q2, q3⟩
            · obtain ⟨j, d, _, q2, q3⟩ := (h.roots a).mp z
              exact ⟨j, d, q2, q3⟩
        | exc c fs as =>
          intro k d H' fc st r
          obtain ⟨f2, s2, sub⟩ := h.after f1 (X := fun _ => False) (fc.zdrop fun a z => z.elim id False.elim) st (fun b z => z.elim) (fun b z => z.elim)
          rw [zfalse] at f2
          refine k d H' f2 (s1.trans s2) ?_
          cases d with
          | none => exact r
          | some dx =>
            obtain ⟨us, h1, h2, h3⟩ := r
            refine ⟨us, h1, h2, h3.to ⟨fun b o _ z => ?_, fc.mu, fun _ _ h _ => h⟩⟩
            have z2 := sub b (z.imp (fun y => .inl y) id)
            exact z2.imp (fun y => y.elim id False.elim) id
end
end VS

namespace VS
open PySem L2
section
variable {Γ : Gm} {W : WX} {O : Addr → Prop} {H : Hp} {v : V}
theorem Bor.non_inv (h : Bor Γ O H v .non) : v = .non := by cases h with | rep h => cases h; rfl | own h => cases h
theorem Bor.bl_inv {b : Bool} (h : Bor Γ O H v (.bl b)) : v = .bl b := by cases h with | rep h => cases h; rfl | own h => cases h
theorem Bor.int_inv {i : Int} (h : Bor Γ O H v (.int i)) : v = .int i := by cases h with | rep h => cases h; rfl | own h => cases h
theorem Bor.str_inv {x : Str} (h : Bor Γ O H v (.str x)) : v = .str x ∧ PyData.strOk x = true := by
  cases h with
  | rep h => cases h with | str _ q => exact ⟨rfl, q⟩
  | own h => cases h
theorem Bor.ty_inv {x : String} (h : Bor Γ O H v (.ty x)) : v = .ty x := by cases h with | rep h => cases h; rfl | own h => cases h
theorem Bor.tup_inv {ds : List D} (h : Bor Γ O H v (.tup ds)) : ∃ a vs, v = .ref a ∧ H a = some (.tup vs) ∧ Reps Γ O H vs ds := by
  cases h with
  | rep h => cases h with | tup h r => exact ⟨_, _, rfl, h, r⟩
  | own h => cases h
theorem Bor.ktup_inv {ds : List D} (h : Bor Γ O H v (.ktup ds)) : ∃ a vs, v = .ref a ∧ KT Γ.K a vs ∧ Reps Γ O H vs ds := by
  cases h with
  | rep h => cases h with | ktup h r => exact ⟨_, _, rfl, h, r⟩
  | own h => cases h
theorem Bor.scr_inv {ns : List Int} (h : Bor Γ O H v (.scr ns)) : ∃ a, v = .ref a ∧ Scr Γ.K H a ns := by
  cases h with
  | rep h => cases h with | scr h => exact ⟨_, rfl, h⟩
  | own h => cases h
theorem Bor.lst_inv {ds : List D} (h : Bor Γ O H v (.lst ds)) : ∃ a vs, v = .ref a ∧ H a = some (.lst vs) ∧ Reps Γ O H vs ds := by
  cases h with
  | rep h => cases h with | lst h _ r => exact ⟨_, _, rfl, h, r⟩
  | own h => cases h with | lst h _ r => exact ⟨_, _, rfl, h, r⟩
theorem Bor.dK_inv {ds : List (Key × D)} (h : Bor Γ O H v (.dK ds)) : ∃ a kvs, v = .ref a ∧ H a = some (.dK kvs) ∧ (kvs.map (·.1) = ds.map (·.1) ∧ ksOk ds = true) ∧ Reps Γ O H (kvs.map (·.2)) (ds.map (·.2)) := by
  cases h with
  | rep h => cases h with | dK h _ k r => exact ⟨_, _, rfl, h, k, r⟩
  | own h => cases h with | dK h _ k r => exact ⟨_, _, rfl, h, k, r⟩
theorem Bor.dT_inv {ds : List (List Key × D)} (h : Bor Γ O H v (.dT ds)) : ∃ a kvs, v = .ref a ∧ H a = some (.dT kvs) ∧ (kvs.map (·.1) = ds.map (·.1) ∧ ktOk ds = true) ∧ Reps Γ O H (kvs.map (·.2)) (ds.map (·.2)) := by
  cases h with
  | rep h => cases h with | dT h _ k r => exact ⟨_, _, rfl, h, k, r⟩
  | own h => cases h with | dT h _ k r => exact ⟨_, _, rfl, h, k, r⟩
theorem Bor.obj_inv {c : Nat} {ds : List (Str × D)} (h : Bor Γ O H v (.obj c ds)) : ∃ a dx fs, v = .ref a ∧ H a = some (.ins (Γ.ct c) dx fs) ∧ fs.map (·.1) = ds.map (·.1) ∧ Reps Γ O H (fs.map (·.2)) (ds.map (·.2)) := by
  cases h with
  | rep h => cases h with | obj h _ k r => exact ⟨_, _, _, rfl, h, k, r⟩
  | own h => cases h with | obj h _ k r => exact ⟨_, _, _, rfl, h, k, r⟩
theorem bors1 {vs : List V} {d : D} (h : Bors Γ O H vs [d]) : ∃ v, vs = [v] ∧ Bor Γ O H v d := by cases h with | cons h t => cases t; exact ⟨_, rfl, h⟩
theorem bors2 {vs : List V} {d e : D} (h : Bors Γ O H vs [d, e]) : ∃ v w, vs = [v, w] ∧ Bor Γ O H v d ∧ Bor Γ O H w e := by cases h with | cons h t => cases t with | cons h2 t => cases t; exact ⟨_, _, rfl, h, h2⟩
theorem bors3 {vs : List V} {d e g : D} (h : Bors Γ O H vs [d, e, g]) : ∃ v w u, vs = [v, w, u] ∧ Bor Γ O H v d ∧ Bor Γ O H w e ∧ Bor Γ O H u g := by cases h with | cons h t => cases t with | cons h2 t => cases t with | cons h3 t => cases t; exact ⟨_, _, _, rfl, h, h2, h3⟩
theorem Reps.get : ∀ {vs : List V} {ds : List D} {i : Nat} {d : D}, Reps Γ O H vs ds → ds[i]? = some d → ∃ v, vs[i]? = some v ∧ Rep Γ O H v d
  | _, _, _, _, .nil, e => by simp at e
  | _, _, 0, _, .cons r _, e => by simp at e; subst e; exact ⟨_, rfl, r⟩
  | _, _, i + 1, d, .cons _ t, e => by
    obtain ⟨u, h1, h2⟩ := Reps.get (i := i) (d := d) t (by simpa using e)
    exact ⟨u, by simpa using h1, h2⟩
theorem Reps.append : ∀ {vs ws : List V} {ds es : List D}, Reps Γ O H vs ds → Reps Γ O H ws es → Reps Γ O H (vs ++ ws) (ds ++ es)
  | _, _, _, _, .nil, s => s
  | _, _, _, _, .cons r t, s => .cons r (Reps.append t s)
theorem Reps.take : ∀ {vs : List V} {ds : List D} (n : Nat), Reps Γ O H vs ds → Reps Γ O H (vs.take n) (ds.take n)
  | _, _, 0, _ => .nil
  | _, _, _ + 1, .nil => .nil
  | _, _, n + 1, .cons r t => .cons r (Reps.take n t)
theorem Reps.drop : ∀ {vs : List V} {ds : List D} (n : Nat), Reps Γ O H vs ds → Reps Γ O H (vs.drop n) (ds.drop n)
  | _, _, 0, r => r
  | _, _, _ + 1, .nil => .nil
  | _, _, n + 1, .cons _ t => Reps.drop n t
theorem Reps.set {v : V} {d : D} (r : Rep Γ O H v d) : ∀ {vs : List V} {ds : List D} (i : Nat), Reps Γ O H vs ds → Reps Γ O H (vs.set i v) (ds.set i d)
  | _, _, _, .nil => .nil
  | _, _, 0, .cons _ t => .cons r t
  | _, _, i + 1, .cons q t => .cons q (Reps.set r i t)
theorem Reps.rev : ∀ {vs : List V} {ds : List D}, Reps Γ O H vs ds → Reps Γ O H vs.reverse ds.reverse
  | _, _, .nil => .nil
  | _, _, .cons r t => by
    rw [List.reverse_cons, List.reverse_cons]
    exact (Reps.rev t).append (.cons r .nil)
theorem Reps.dropLast : ∀ {vs : List V} {ds : List D}, Reps Γ O H vs ds → Reps Γ O H vs.dropLast ds.dropLast
  | _, _, .nil => .nil
  | _, _, .cons r .nil => .nil
  | _, _, .cons r (.cons q t) => .cons r (Reps.dropLast (.cons q t))
/-- a value over the grown heap -/
theorem Reps.ext {vs : List V} {ds : List D} {H' : Hp} (r : Reps Γ O H vs ds) (m : ∀ a, O a → Mut (H a)) (e : Ext H H') : Reps Γ O H' vs ds := r.to (e.ov m)
/-- .. avoiding the new root -/
theorem Reps.fresh {vs : List V} {ds : List D} {H' : Hp} {p : Addr} (r : Reps Γ O H vs ds) (m : ∀ a, O a → Mut (H a)) (e : Ext H H') (hp : H p = none) : Reps Γ (fun b => O b ∨ b = p) H' vs ds := r.to ⟨fun a o h z => by
  rcases z with z | z
  · exact z
  · rw [z, hp] at h; exact (nomatch h), m, fun a o h _ => e.ex a o h⟩
/-- a new list, a new tuple -/
theorem new_lst {vs : List V} {ds : List D} {Q : VK} (m : ∀ a, O a → Mut (H a)) (r : Reps Γ O H vs ds) (k : PEnd Γ O H (.lst ds, true) Q) (p : Addr) (hp : H p = none) : Q (.ref p) (upd H p (.lst vs)) :=
  k p _ hp (Ext.new hp) (.lst upd_same (.inr rfl) (r.fresh m (Ext.new hp) hp))
theorem new_tup {vs : List V} {ds : List D} {Q : VK} (m : ∀ a, O a → Mut (H a)) (r : Reps Γ O H vs ds) (k : PEnd Γ O H (.tup ds, false) Q) (p : Addr) (hp : H p = none) : Q (.ref p) (upd H p (.tup vs)) :=
  k (.ref p) _ (Ext.new hp) (.tup upd_same (r.ext m (Ext.new hp)))
theorem Bor.sq {ds : List D} (h : Bor Γ O H v (.lst ds)) : ∃ a vs, v = .ref a ∧ SqL Γ.K H a vs ∧ Reps Γ O H vs ds := by
  obtain ⟨a, vs, e, h, r⟩ := h.lst_inv
  exact ⟨a, vs, e, SqL.of h, r⟩
theorem ints_reps : ∀ ns : List Int, Reps Γ O H (ns.map V.int) (ns.map D.int)
  | [] => .nil
  | n :: r => .cons (.int n) (ints_reps r)

/-! ### arithmetic -/
def pAdd : List D → Option Slot
  | [.int i, .int j] => some (.int (i + j), false)
  | [.str x, .str y] => if x.length + y.length ≤ sizeLine then some (.str (x ++ y), false) else none
  | [.lst xs, .lst ys] => if xs.length + ys.length ≤ sizeLine then some (.lst (xs ++ ys), true) else none
  | [.tup (x :: xs), .tup (y :: ys)] => if (x :: xs).length + (y :: ys).length ≤ sizeLine then some (.tup (x :: xs ++ y :: ys), false) else none
  | _ => none
def rAdd (K : PySem.W.Frag) : R2 := fun x y H Q => rI0 (fun i j => .int (i + j)) x y H Q ∨ (∃ i j, x = .str i ∧ y = .str j ∧ i.length + j.length ≤ sizeLine ∧ Q (.str (i ++ j)) H) ∨ rCat x y H Q ∨ rCatT K x y H Q
theorem opAdd {X : Cx} : OpR X (binaryOp .Add) (rAdd X.K) := op_add.or (op_add_str.or (op_cat.or op_catT))
theorem strOk_append {x y : Str} (hx : PyData.strOk x = true) (hy : PyData.strOk y = true) : PyData.strOk (x ++ y) = true := by
  unfold PyData.strOk at *
  have e : (x ++ y).cps = x.cps ++ y.cps := rfl
  rw [e]
  simp only [Array.all_append, hx, hy, Bool.and_self]
theorem prAdd : PrimR Γ (r2l (rAdd Γ.K)) pAdd := by
  intro O H vs ds s Q m b e k
  match ds, e with
  | [.int i, .int j], e =>
    obtain ⟨v, w, rfl, h1, h2⟩ := bors2 b
    cases e
    rw [h1.int_inv, h2.int_inv]
    exact .inl ⟨i, j, rfl, rfl, k _ H (Ext.refl H) (.int _)⟩
  | [.str x, .str y], e =>
    obtain ⟨v, w, rfl, h1, h2⟩ := bors2 b
    simp only [pAdd] at e
    split at e
    · cases e
      rename_i hz
      rw [h1.str_inv.1, h2.str_inv.1]
      exact .inr (.inl ⟨x, y, rfl, rfl, hz, k _ H (Ext.refl H) (.str _ (strOk_append h1.str_inv.2 h2.str_inv.2))⟩)
    · cases e
  | [.lst xs, .lst ys], e =>
    obtain ⟨v, w, rfl, h1, h2⟩ := bors2 b
    simp only [pAdd] at e
    split at e
    · cases e
      rename_i hz
      obtain ⟨a, us, rfl, ha, ra⟩ := h1.lst_inv
      obtain ⟨c, ws, rfl, hc, rc⟩ := h2.lst_inv
      exact .inr (.inr (.inl ⟨a, c, us, ws, rfl, rfl, ha, hc, by rw [ra.length, rc.length]; exact hz, fun p hp => new_lst m (ra.append rc) k p hp⟩))
    · cases e
  | [.tup (x :: xs), .tup (y :: ys)], e =>
    obtain ⟨v, w, rfl, h1, h2⟩ := bors2 b
    simp only [pAdd] at e
    split at e
    · cases e
      rename_i hz
      obtain ⟨a, us, rfl, ha, ra⟩ := h1.tup_inv
      obtain ⟨c, ws, rfl, hc, rc⟩ := h2.tup_inv
      have l1 := ra.length
      have l2 := rc.length
      refine .inr (.inr (.inr ⟨a, c, us, ws, rfl, rfl, SqT.of ha, SqT.of hc, ?_, by rw [l1, l2]; exact hz, ?_, fun _ p hp => new_tup m (ra.append rc) k p hp⟩))
      · rintro rfl; cases l1
      · rintro rfl; cases l2
    · cases e
def pI2 (c : Int → Int → Bool) (g : Int → Int → D) : List D → Option Slot
  | [.int i, .int j] => if c i j = true then some (g i j, false) else none
  | _ => none
theorem prI {C : Int → Int → Prop} {c : Int → Int → Bool} {g : Int → Int → V} {g' : Int → Int → D} (hc : ∀ i j, c i j = true → C i j) (hg : ∀ i j O H, Rep Γ O H (g i j) (g' i j)) : PrimR Γ (r2l (rI C g)) (pI2 c g') := by
  intro O H vs ds s Q m b e k
  match ds, e with
  | [.int i, .int j], e =>
    obtain ⟨v, w, rfl, h1, h2⟩ := bors2 b
    simp only [pI2] at e
    split at e
    · cases e
      rename_i hz
      rw [h1.int_inv, h2.int_inv]
      exact ⟨i, j, rfl, rfl, hc i j hz, k _ H (Ext.refl H) (hg i j _ _)⟩
    · cases e
def pI0 (g : Int → Int → D) : List D → Option Slot
  | [.int i, .int j] => some (g i j, false)
  | _ => none
theorem prI0 {g : Int → Int → V} {g' : Int → Int → D} (hg : ∀ i j O H, Rep Γ O H (g i j) (g' i j)) : PrimR Γ (r2l (rI0 g)) (pI0 g') := by
  intro O H vs ds s Q m b e k
  match ds, e with
  | [.int i, .int j], e =>
    obtain ⟨v, w, rfl, h1, h2⟩ := bors2 b
    cases e
    rw [h1.int_inv, h2.int_inv]
    exact ⟨i, j, rfl, rfl, k _ H (Ext.refl H) (hg i j _ _)⟩
def pSub := pI0 fun i j => .int (i - j)
theorem prSub : PrimR Γ (r2l (rI0 fun i j => .int (i - j))) pSub := prI0 fun _ _ _ _ => .int _
def cMulB (i j : Int) : Bool := decide (i.natAbs < 2 ^ 64) || decide (j.natAbs < 2 ^ 64)
def pMul := pI2 cMulB fun i j => .int (i * j)
theorem prMul : PrimR Γ (r2l (rI CMul fun i j => .int (i * j))) pMul := prI (fun i j h => by
  unfold cMulB at h
  unfold CMul
  simp only [Bool.or_eq_true, decide_eq_true_eq] at h
  omega) fun _ _ _ _ => .int _
def cDivB (i j : Int) : Bool := decide (0 < j) && decide (j.natAbs < 1073741824)
def pDiv := pI2 cDivB fun i j => .int (i / j)
theorem prDiv : PrimR Γ (r2l (rI CDiv fun i j => .int (i / j))) pDiv := prI (fun i j h => by
  unfold cDivB at h
  unfold CDiv
  simp only [Bool.and_eq_true, decide_eq_true_eq] at h
  omega) fun _ _ _ _ => .int _
def cModB (i j : Int) : Bool := decide (0 < j)
def pMod := pI2 cModB fun i j => .int (i % j)
theorem prMod : PrimR Γ (r2l (rI (fun _ j => 0 < j) fun i j => .int (i % j))) pMod := prI (fun i j h => of_decide_eq_true h) fun _ _ _ _ => .int _
def cPowB (i j : Int) : Bool := decide (0 ≤ j) && decide (j.natAbs ≤ 1000000) && decide (i.natAbs < 2 ^ 64)
def pPow := pI2 cPowB fun i j => .int (i ^ j.toNat)
theorem prPow : PrimR Γ (r2l (rI CPow fun i j => .int (i ^ j.toNat))) pPow := prI (fun i j h => by
  unfold cPowB at h
  unfold CPow
  simp only [Bool.and_eq_true, decide_eq_true_eq] at h
  omega) fun _ _ _ _ => .int _
def pLt := pI0 fun i j => .bl (decide (i < j))
def pLe := pI0 fun i j => .bl (decide (i ≤ j))
def pGt := pI0 fun i j => .bl (decide (j < i))
def pGe := pI0 fun i j => .bl (decide (j ≤ i))
theorem prLt : PrimR Γ (r2l (rI0 fun i j => .bl (decide (i < j)))) pLt := prI0 fun _ _ _ _ => .bl _
theorem prLe : PrimR Γ (r2l (rI0 fun i j => .bl (decide (i ≤ j)))) pLe := prI0 fun _ _ _ _ => .bl _
theorem prGt : PrimR Γ (r2l (rI0 fun i j => .bl (decide (j < i)))) pGt := prI0 fun _ _ _ _ => .bl _
theorem prGe : PrimR Γ (r2l (rI0 fun i j => .bl (decide (j ≤ i)))) pGe := prI0 fun _ _ _ _ => .bl _
def pNeg : List D → Option Slot
  | [.int i] => some (.int (-i), false)
  | _ => none
theorem prNeg : PrimR Γ (r1l (rU fun i => .int (-i))) pNeg := by
  intro O H vs ds s Q m b e k
  match ds, e with
  | [.int i], e =>
    obtain ⟨v, rfl, h1⟩ := bors1 b
    cases e
    rw [h1.int_inv]
    exact ⟨i, rfl, k _ H (Ext.refl H) (.int _)⟩
/-- is None -/
def isNon : D → Bool
  | .non => true
  | _ => false
def pIsN : List D → Option Slot
  | [d, .non] => some (.bl (isNon d), false)
  | _ => none
def pNotN : List D → Option Slot
  | [d, .non] => some (.bl (!isNon d), false)
  | _ => none
theorem Bor.isNon {d : D} (h : Bor Γ O H v d) : decide (v = .non) = VS.isNon d := by
  cases h with
  | rep h => cases h <;> rfl
  | own h => cases h <;> rfl
theorem prIsN : PrimR Γ (r2l (fun x y H Q => y = .non ∧ Q (.bl (decide (x = .non))) H)) pIsN := by
  intro O H vs ds s Q m b e k
  match ds, e with
  | [d, .non], e =>
    obtain ⟨v, w, rfl, h1, h2⟩ := bors2 b
    cases e
    refine ⟨h2.non_inv, ?_⟩
    rw [h1.isNon]
    exact k _ H (Ext.refl H) (.bl _)
theorem prNotN : PrimR Γ (r2l (fun x y H Q => y = .non ∧ Q (.bl (!decide (x = .non))) H)) pNotN := by
  intro O H vs ds s Q m b e k
  match ds, e with
  | [d, .non], e =>
    obtain ⟨v, w, rfl, h1, h2⟩ := bors2 b
    cases e
    refine ⟨h2.non_inv, ?_⟩
    rw [h1.isNon]
    exact k _ H (Ext.refl H) (.bl _)
end
end VS

namespace VS
open PySem L2
/-! ### equality -/
mutual
def toPy : D → PyData
  | .non => .none
  | .bl b => .bool b
  | .int i => .int i
  | .str x => .str x
  | .tup xs => .tuple (toPys xs)
  | .ktup xs => .tuple (toPys xs)
  | .lst xs => .list (toPys xs)
  | .scr ns => .list (ns.map PyData.int)
  | _ => .none
def toPys : List D → List PyData
  | [] => []
  | d :: ds => toPy d :: toPys ds
end
/-- data without dicts and objects, to the depth n -/
def dOk : Nat → D → Bool
  | _, .non => true
  | _, .bl _ => true
  | _, .int _ => true
  | _, .str _ => true
  | n + 1, .tup xs => xs.all (dOk n)
  | n + 1, .ktup xs => xs.all (dOk n)
  | n + 1, .lst xs => xs.all (dOk n)
  | n + 1, .scr _ => true
  | _, _ => false
mutual
def eqD : D → D → Bool
  | .non, .non => true
  | .bl a, .bl b => a == b
  | .bl a, .int j => (if a then 1 else 0) == j
  | .int i, .bl b => i == (if b then 1 else 0)
  | .int i, .int j => i == j
  | .str x, .str y => x == y
  | .tup xs, .tup ys => eqDs xs ys
  | .tup xs, .ktup ys => eqDs xs ys
  | .ktup xs, .tup ys => eqDs xs ys
  | .ktup xs, .ktup ys => eqDs xs ys
  | .lst xs, .lst ys => eqDs xs ys
  | .lst xs, .scr ns => PyData.eqvAll (toPys xs) (ns.map PyData.int)
  | .scr ns, .lst ys => PyData.eqvAll (ns.map PyData.int) (toPys ys)
  | .scr ms, .scr ns => PyData.eqvAll (ms.map PyData.int) (ns.map PyData.int)
  | _, _ => false
def eqDs : List D → List D → Bool
  | [], [] => true
  | x :: xs, y :: ys => eqD x y && eqDs xs ys
  | _, _ => false
end
theorem toPys_eq : ∀ xs : List D, toPys xs = xs.map toPy
  | [] => rfl
  | x :: xs => by simp [toPys, toPys_eq xs]
section
variable {Γ : Gm} {W : WX} {O : Addr → Prop} {H : Hp} {v : V}
theorem dp_ints {K : PySem.W.Frag} : ∀ ns : List Int, DpAll K H (ns.map V.int) (ns.map PyData.int)
  | [] => .nil
  | n :: r => .cons (.int n) (dp_ints r)
mutual
theorem Rep.dp : ∀ {v : V} {d : D}, Rep Γ O H v d → ∀ n, dOk n d = true → Dp Γ.K H v (toPy d)
  | _, _, .non, n, _ => .non
  | _, _, .bl b, n, _ => .bl b
  | _, _, .int i, n, _ => .int i
  | _, _, .str x _, n, _ => .str x
  | _, _, .ty x, n, h => by cases n <;> cases h
  | _, _, .tup h r, 0, k => by cases k
  | _, _, .tup h r, n + 1, k => .tup (SqT.of h) (Reps.dp r n (by simpa [dOk] using k))
  | _, _, .ktup h r, 0, k => by cases k
  | _, _, .ktup h r, n + 1, k => .tup (.inr h) (Reps.dp r n (by simpa [dOk] using k))
  | _, _, .scr h, 0, k => by cases k
  | _, _, .scr h, n + 1, k => .lst h.sq (dp_ints _)
  | _, _, .lst h _ r, 0, k => by cases k
  | _, _, .lst h _ r, n + 1, k => .lst (SqL.of h) (Reps.dp r n (by simpa [dOk] using k))
  | _, _, .dK h _ _ r, n, k => by cases n <;> cases k
  | _, _, .dT h _ _ r, n, k => by cases n <;> cases k
  | _, _, .obj h _ _ r, n, k => by cases n <;> cases k
theorem Reps.dp : ∀ {vs : List V} {ds : List D}, Reps Γ O H vs ds → ∀ n, (∀ d ∈ ds, dOk n d = true) → DpAll Γ.K H vs (toPys ds)
  | _, _, .nil, _, _ => .nil
  | _, _, .cons h r, n, k => .cons (Rep.dp h n (k _ List.mem_cons_self)) (Reps.dp r n fun d hd => k d (List.mem_cons_of_mem _ hd))
end
theorem Bor.dp {d : D} (h : Bor Γ O H v d) (n : Nat) (k : dOk n d = true) : Dp Γ.K H v (toPy d) := by
  cases h with
  | rep h => exact h.dp n k
  | own h =>
    cases h with
    | lst h _ r =>
      cases n with
      | zero => cases k
      | succ n => exact .lst (SqL.of h) (r.dp n (by simpa [dOk] using k))
    | dK => cases n <;> cases k
    | dT => cases n <;> cases k
    | obj => cases n <;> cases k
theorem lay_ints : ∀ ns : List Int, PyData.canLayAll0 (ns.map PyData.int) = true
  | [] => rfl
  | n :: r => by simp [PyData.canLayAll0, PyData.canLay0, lay_ints r]
mutual
theorem Rep.lay : ∀ {v : V} {d : D}, Rep Γ O H v d → (toPy d).canLay0 = true
  | _, _, .non => rfl
  | _, _, .bl b => rfl
  | _, _, .int i => rfl
  | _, _, .str x h => h
  | _, _, .ty x => rfl
  | _, _, .tup h r => by simpa [toPy, PyData.canLay0] using Reps.lay r
  | _, _, .ktup h r => by simpa [toPy, PyData.canLay0] using Reps.lay r
  | _, _, .scr h => by simpa [toPy, PyData.canLay0] using lay_ints _
  | _, _, .lst h _ r => by simpa [toPy, PyData.canLay0] using Reps.lay r
  | _, _, .dK h _ _ r => rfl
  | _, _, .dT h _ _ r => rfl
  | _, _, .obj h _ _ r => rfl
theorem Reps.lay : ∀ {vs : List V} {ds : List D}, Reps Γ O H vs ds → PyData.canLayAll0 (toPys ds) = true
  | _, _, .nil => rfl
  | _, _, .cons h r => by simp [toPys, PyData.canLayAll0, Rep.lay h, Reps.lay r]
end
theorem Bor.lay {d : D} (h : Bor Γ O H v d) : (toPy d).canLay0 = true := by
  cases h with
  | rep h => exact h.lay
  | own h =>
    cases h with
    | lst h _ r => simpa [toPy, PyData.canLay0] using r.lay
    | dK => rfl
    | dT => rfl
    | obj => rfl
theorem depth_ints : ∀ ns : List Int, PyData.depthAll (ns.map PyData.int) = 0
  | [] => rfl
  | n :: r => by simp [PyData.depthAll, PyData.depth, depth_ints r]
theorem depthAll_le {n : Nat} : ∀ (ds : List D), (∀ d ∈ ds, (toPy d).depth ≤ n) → PyData.depthAll (toPys ds) ≤ n
  | [], _ => Nat.zero_le _
  | d :: ds, h => by
    simp only [toPys, PyData.depthAll]
    exact Nat.max_le.mpr ⟨h d List.mem_cons_self, depthAll_le ds fun x hx => h x (List.mem_cons_of_mem _ hx)⟩
theorem dOk_depth : ∀ (n : Nat) (d : D), dOk n d = true → (toPy d).depth ≤ n
  | n, .non, _ => Nat.zero_le _
  | n, .bl _, _ => Nat.zero_le _
  | n, .int _, _ => Nat.zero_le _
  | n, .str _, _ => Nat.zero_le _
  | n, .ty _, _ => Nat.zero_le _
  | n, .dK _, _ => Nat.zero_le _
  | n, .dT _, _ => Nat.zero_le _
  | n, .obj _ _, _ => Nat.zero_le _
  | 0, .tup xs, h => by cases h
  | 0, .ktup xs, h => by cases h
  | 0, .lst xs, h => by cases h
  | 0, .scr xs, h => by cases h
  | n + 1, .tup xs, h => by
    simp only [toPy, PyData.depth]
    exact Nat.succ_le_succ (depthAll_le xs fun d hd => dOk_depth n d (by simp only [dOk, List.all_eq_true] at h; exact h d hd))
  | n + 1, .ktup xs, h => by
    simp only [toPy, PyData.depth]
    exact Nat.succ_le_succ (depthAll_le xs fun d hd => dOk_depth n d (by simp only [dOk, List.all_eq_true] at h; exact h d hd))
  | n + 1, .lst xs, h => by
    simp only [toPy, PyData.depth]
    exact Nat.succ_le_succ (depthAll_le xs fun d hd => dOk_depth n d (by simp only [dOk, List.all_eq_true] at h; exact h d hd))
  | n + 1, .scr xs, h => by simp [toPy, PyData.depth, depth_ints]
theorem Bor.shaped {d : D} (h : Bor Γ O H v d) {n : Nat} (hn : n ≤ 64) (k : dOk n d = true) : SeqAt.shaped (toPy d) = true := by
  unfold SeqAt.shaped
  rw [h.lay]
  exact decide_eq_true (Nat.le_trans (dOk_depth n d k) hn)
end
theorem okOf {n : Nat} {d : D} {P : Prop} (h : dOk n d = true) (e : ∀ m, dOk m d = false) : P := by rw [e] at h; cases h
theorem toPy_eqv : ∀ (n : Nat) (d e : D) (m : Nat), dOk n d = true → dOk m e = true → PyData.eqv (toPy d) (toPy e) = eqD d e := by
  intro n
  induction n with
  | zero =>
    intro d e m h1 h2
    cases d <;> first | (cases h1; done) | (cases e <;> first | rfl | (cases m <;> first | rfl | (cases h2; done)))
  | succ n ih =>
    intro d e m h1 h2
    have all : ∀ (xs ys : List D) (m : Nat), (∀ d ∈ xs, dOk n d = true) → (∀ d ∈ ys, dOk m d = true) → PyData.eqvAll (toPys xs) (toPys ys) = eqDs xs ys := by
      intro xs
      induction xs with
      | nil => intro ys m _ _; cases ys <;> rfl
      | cons x xs ihx =>
        intro ys m hx hy
        cases ys with
        | nil => rfl
        | cons y ys =>
          simp only [toPys, PyData.eqvAll, eqDs]
          rw [ih x y m (hx x List.mem_cons_self) (hy y List.mem_cons_self), ihx ys m (fun d hd => hx d (List.mem_cons_of_mem _ hd)) (fun d hd => hy d (List.mem_cons_of_mem _ hd))]
    have go : ∀ xs : List D, xs.all (dOk n) = true → ∀ d ∈ xs, dOk n d = true := fun xs h => by simpa using h
    cases d with
    | tup xs =>
      cases m with
      | zero => cases e <;> first | rfl | (cases h2; done)
      | succ m => cases e with
        | tup ys => exact all xs ys m (go xs h1) (by simpa [dOk] using h2)
        | ktup ys => exact all xs ys m (go xs h1) (by simpa [dOk] using h2)
        | _ => first | rfl | (cases h2; done)
    | ktup xs =>
      cases m with
      | zero => cases e <;> first | rfl | (cases h2; done)
      | succ m => cases e with
        | tup ys => exact all xs ys m (go xs h1) (by simpa [dOk] using h2)
        | ktup ys => exact all xs ys m (go xs h1) (by simpa [dOk] using h2)
        | _ => first | rfl | (cases h2; done)
    | lst xs =>
      cases m with
      | zero => cases e <;> first | rfl | (cases h2; done)
      | succ m => cases e with
        | lst ys => exact all xs ys m (go xs h1) (by simpa [dOk] using h2)
        | scr ns => rfl
        | _ => first | rfl | (cases h2; done)
    | scr ns => cases m <;> (cases e <;> first | rfl | (cases h2; done))
    | _ => first | (cases h1; done) | (cases m <;> (cases e <;> first | rfl | (cases h2; done)))
section
variable {Γ : Gm} {W : WX} {O : Addr → Prop} {H : Hp} {v : V}
def pEq : List D → Option Slot
  | [d, e] => if (dOk 40 d && dOk 40 e) = true then some (.bl (eqD d e), false) else none
  | _ => none
def pNe : List D → Option Slot
  | [d, e] => if (dOk 40 d && dOk 40 e) = true then some (.bl (!eqD d e), false) else none
  | _ => none
theorem prEq : PrimR Γ (r2l (rEqD Γ.K)) pEq := by
  intro O H vs ds s Q m b e k
  match ds, e with
  | [d, g], e =>
    obtain ⟨v, w, rfl, h1, h2⟩ := bors2 b
    simp only [pEq] at e
    split at e
    · rename_i hz
      cases e
      obtain ⟨z1, z2⟩ := Bool.and_eq_true_iff.mp hz
      refine ⟨toPy d, toPy g, h1.dp 40 z1, h2.dp 40 z2, h1.shaped (by decide) z1, h2.shaped (by decide) z2, ?_⟩
      rw [toPy_eqv 40 d g 40 z1 z2]
      exact k _ H (Ext.refl H) (.bl _)
    · cases e
theorem prNe : PrimR Γ (r2l (rNeD Γ.K)) pNe := by
  intro O H vs ds s Q m b e k
  match ds, e with
  | [d, g], e =>
    obtain ⟨v, w, rfl, h1, h2⟩ := bors2 b
    simp only [pNe] at e
    split at e
    · rename_i hz
      cases e
      obtain ⟨z1, z2⟩ := Bool.and_eq_true_iff.mp hz
      refine ⟨toPy d, toPy g, h1.dp 40 z1, h2.dp 40 z2, h1.shaped (by decide) z1, h2.shaped (by decide) z2, ?_⟩
      rw [toPy_eqv 40 d g 40 z1 z2]
      exact k _ H (Ext.refl H) (.bl _)
    · cases e
end
end VS

namespace VS
open PySem L2 PySem.Spec PyProof.Rows
/-! ### dicts, as data -/
section
variable {κ α : Type} [DecidableEq κ]
def dGet (kvs : List (κ × α)) (k : κ) : Option α := match kvs with
  | [] => none
  | (k', v) :: r => if k' = k then some v else dGet r k
def dSet (kvs : List (κ × α)) (k : κ) (v : α) : List (κ × α) := match kvs with
  | [] => []
  | (k', v') :: r => (if k' = k then (k', v) else (k', v')) :: dSet r k v
def dHas (kvs : List (κ × α)) (k : κ) : Bool := match kvs with
  | [] => false
  | (k', _) :: r => decide (k' = k) || dHas r k
def dPut (kvs : List (κ × α)) (k : κ) (v : α) : List (κ × α) := if dHas kvs k = true then dSet kvs k v else kvs ++ [(k, v)]
end
def dkey : D → Option Key
  | .int i => some (.inl i)
  | .str x => some (.inr x)
  | _ => none
def dkeys : List D → Option (List Key)
  | [] => some []
  | d :: ds => match dkey d, dkeys ds with
    | some k, some ks => some (k :: ks)
    | _, _ => none
section
variable {Γ : Gm} {W : WX} {O : Addr → Prop} {H : Hp} {v : V}
theorem Bor.key {d : D} {k : Key} (h : Bor Γ O H v d) (e : dkey d = some k) : v = kV k := by
  cases d with
  | int i => cases e; exact h.int_inv
  | str x => cases e; exact h.str_inv.1
  | _ => cases e
theorem Reps.keys : ∀ {vs : List V} {ds : List D} {ks : List Key}, Reps Γ O H vs ds → dkeys ds = some ks → vs = ks.map kV
  | _, _, _, .nil, e => by cases e; rfl
  | _, _, ks, .cons h r, e => by
    rename_i v vs d ds
    unfold dkeys at e
    cases q1 : dkey d with
    | none => rw [q1] at e; cases e
    | some k =>
      cases q2 : dkeys ds with
      | none => rw [q1, q2] at e; cases e
      | some ks' =>
        rw [q1, q2] at e
        cases e
        rw [List.map_cons, ← Reps.keys r q2, Bor.key (.rep h) q1]
/-- pairs of a dict and its data -/
inductive KR {κ : Type} (Γ : Gm) (O : Addr → Prop) (H : Hp) : List (κ × V) → List (κ × D) → Prop
  | nil : KR Γ O H [] []
  | cons {k : κ} {v : V} {d : D} {kvs : List (κ × V)} {ds : List (κ × D)} : Rep Γ O H v d → KR Γ O H kvs ds → KR Γ O H ((k, v) :: kvs) ((k, d) :: ds)
theorem KR.of {κ : Type} : ∀ {kvs : List (κ × V)} {ds : List (κ × D)}, kvs.map (·.1) = ds.map (·.1) → Reps Γ O H (kvs.map (·.2)) (ds.map (·.2)) → KR Γ O H kvs ds
  | [], [], _, _ => .nil
  | [], _ :: _, e, _ => by cases e
  | _ :: _, [], e, _ => by cases e
  | (k, v) :: kvs, (k', d) :: ds, e, r => by
    simp only [List.map_cons, List.cons.injEq] at e
    obtain ⟨rfl, e⟩ := e
    cases r with
    | cons h r => exact .cons h (KR.of e r)
theorem KR.to {κ : Type} {kvs : List (κ × V)} {ds : List (κ × D)} (h : KR Γ O H kvs ds) : kvs.map (·.1) = ds.map (·.1) ∧ Reps Γ O H (kvs.map (·.2)) (ds.map (·.2)) := by
  induction h with
  | nil => exact ⟨rfl, .nil⟩
  | cons r _ ih => exact ⟨by simp [ih.1], .cons r ih.2⟩
theorem KR.len {κ : Type} {kvs : List (κ × V)} {ds : List (κ × D)} (h : KR Γ O H kvs ds) : kvs.length = ds.length := by
  induction h with
  | nil => rfl
  | cons r _ ih => simp [ih]
theorem KR.get {κ : Type} [DecidableEq κ] {k : κ} {kvs : List (κ × V)} {ds : List (κ × D)} (h : KR Γ O H kvs ds) : (∃ v d, valV kvs k = some v ∧ dGet ds k = some d ∧ Rep Γ O H v d) ∨ (valV kvs k = none ∧ dGet ds k = none) := by
  induction h with
  | nil => exact .inr ⟨rfl, rfl⟩
  | @cons k' v d kvs ds r _ ih =>
    by_cases e : k' = k
    · exact .inl ⟨v, d, by rw [valV_pos e], by unfold dGet; rw [if_pos e], r⟩
    · have e1 : valV ((k', v) :: kvs) k = valV kvs k := by simp [valV, List.find?_cons, e]
      have e2 : dGet ((k', d) :: ds) k = dGet ds k := by
        conv => lhs; unfold dGet
        rw [if_neg e]
      rw [e1, e2]
      exact ih
theorem KR.has {κ : Type} [DecidableEq κ] {k : κ} {kvs : List (κ × V)} {ds : List (κ × D)} (h : KR Γ O H kvs ds) : (kvs.any fun kv => decide (kv.1 = k)) = dHas ds k := by
  induction h with
  | nil => rfl
  | @cons k' v d kvs ds r _ ih => simp only [List.any_cons, dHas, ih]
theorem KR.set {κ : Type} [DecidableEq κ] {k : κ} {v : V} {d : D} (r : Rep Γ O H v d) {kvs : List (κ × V)} {ds : List (κ × D)} (h : KR Γ O H kvs ds) : KR Γ O H (kvs.map fun kv => if kv.1 = k then (kv.1, v) else kv) (dSet ds k d) := by
  induction h with
  | nil => exact .nil
  | @cons k' v' d' kvs ds r' _ ih =>
    by_cases e : k' = k
    · simp only [List.map_cons, dSet, e, if_true]
      exact .cons r ih
    · simp only [List.map_cons, dSet, if_neg e]
      exact .cons r' ih
theorem KR.append {κ : Type} {kvs ls : List (κ × V)} {ds es : List (κ × D)} (h : KR Γ O H kvs ds) (g : KR Γ O H ls es) : KR Γ O H (kvs ++ ls) (ds ++ es) := by
  induction h with
  | nil => exact g
  | cons r _ ih => exact .cons r ih
theorem KR.put {κ : Type} [DecidableEq κ] {k : κ} {v : V} {d : D} (r : Rep Γ O H v d) {kvs : List (κ × V)} {ds : List (κ × D)} (h : KR Γ O H kvs ds) : KR Γ O H (putK kvs k v) (dPut ds k d) := by
  unfold putK dPut
  rw [h.has]
  cases dHas ds k with
  | true => exact h.set r
  | false => exact h.append (.cons r .nil)

/-! ### subscripts -/
def atD (xs : List D) (i : Int) : Option D := atI xs i
def dAt : D → D → Option D
  | .lst xs, .int i => atI xs i
  | .tup xs, .int i => atI xs i
  | .ktup xs, .int i => atI xs i
  | .scr ns, .int i => (atI ns i).map D.int
  | .str x, .int i => if x.length ≤ sizeLine then (atI x.cps.toList i).map fun c => .str ⟨#[c]⟩ else none
  | .dK kvs, k => match dkey k with
    | some k => dGet kvs k
    | none => none
  | .dT kvs, .tup ks => match dkeys ks with
    | some k => dGet kvs k
    | none => none
  | _, _ => none
def pIdx : List D → Option Slot
  | [d, i] => (dAt d i).map fun z => (z, false)
  | _ => none
def rDAt : R2 := fun x y H Q => ∃ a v, x = .ref a ∧ DGet H a y (some v) ∧ Q v H
theorem ix_dict {X : Cx} (hu : X.A.units + 1 < cLine) : IxR X rDAt := by
  intro value slice pins s σ H x y v u Q I rx ry h hs
  obtain ⟨a, z, rfl, g, q⟩ := h
  obtain rfl : v = Value.ref a := rx
  have hT := dict_typeIs I g
  unfold subscriptTail
  refine wpAny_bind ?_
  rw [getitemInPython_of_ne hT.not_modules]
  refine wpAny_bind (wpAny_specialOf hT PySem.F.slot_dict_getitem.lookup ?_)
  have fin : wpAny (model X.prog X.w) X.A (subscripted slice false (.ref a) u) (fun r s₃ => wpAny (model X.prog X.w) X.A (letTemporaryGo value (.ref a) r >>= fun _ => pure r) (EP X pins σ Q) X.xe s₃) X.xe s := by
    rw [hs]
    exact wpAny_operating (d_getItem hu I g ry fun w' s3 I3 rw' => wpAny_bind (wpAny_letTemporaryGo (wpAny_pure ⟨z, H, I3, rw', q⟩)))
  first
    | exact wpAny_pure (wpAny_bind fin)
    | exact wpAny_bind (wpAny_pure (wpAny_bind fin))
    | exact wpAny_bind fin
def rIdx (K : PySem.W.Frag) : R2 := fun x y H Q => rIx K x y H Q ∨ rDAt x y H Q
theorem ix_any {X : Cx} (hu : X.A.units + 1 < cLine) : IxR X (rIdx X.K) := ix_seq.or (ix_dict hu)
theorem Reps.at {vs : List V} {ds : List D} {i : Int} {d : D} (r : Reps Γ O H vs ds) (e : atI ds i = some d) : ∃ v, atI vs i = some v ∧ Rep Γ O H v d := by
  unfold atI at e
  cases q : ixN ds.length i with
  | none => rw [q] at e; cases e
  | some j =>
    rw [q] at e
    obtain ⟨v, h1, h2⟩ := r.get (show ds[j]? = some d from e)
    refine ⟨v, ?_, h2⟩
    unfold atI
    rw [r.length, q]
    exact h1
theorem strOk_at {x : Str} {i : Int} {c : Nat} (h : PyData.strOk x = true) (e : atI x.cps.toList i = some c) : PyData.strOk ⟨#[c]⟩ = true := by
  unfold atI at e
  cases q : ixN x.cps.toList.length i with
  | none => rw [q] at e; cases e
  | some j =>
    rw [q] at e
    have e : x.cps.toList[j]? = some c := e
    unfold PyData.strOk at *
    rw [Array.all_eq_true] at h
    have hm : c ∈ x.cps.toList := List.mem_of_getElem? e
    have hm2 : c ∈ x.cps := by simpa using hm
    obtain ⟨k, hk, e2⟩ := Array.getElem_of_mem hm2
    have := h k hk
    rw [e2] at this
    simpa using this
theorem prIdx : PrimR Γ (r2l (rIdx Γ.K)) pIdx := by
  intro O H vs ds s Q m b e k
  match ds, e with
  | [d, i], e =>
    obtain ⟨v, w, rfl, h1, h2⟩ := bors2 b
    simp only [pIdx] at e
    cases q : dAt d i with
    | none => rw [q] at e; cases e
    | some z =>
      rw [q] at e
      cases e
      cases d with
      | lst xs =>
        cases i with
        | int i =>
          obtain ⟨a, us, rfl, ha, ra⟩ := h1.lst_inv
          rw [h2.int_inv]
          obtain ⟨v, q1, q2⟩ := ra.at q
          exact .inl (.inl ⟨a, us, i, v, rfl, rfl, SqL.of ha, q1, k _ H (Ext.refl H) q2⟩)
        | _ => cases q
      | tup xs =>
        cases i with
        | int i =>
          obtain ⟨a, us, rfl, ha, ra⟩ := h1.tup_inv
          rw [h2.int_inv]
          obtain ⟨v, q1, q2⟩ := ra.at q
          exact .inl (.inr (.inl ⟨a, us, i, v, rfl, rfl, SqT.of ha, q1, k _ H (Ext.refl H) q2⟩))
        | _ => cases q
      | ktup xs =>
        cases i with
        | int i =>
          obtain ⟨a, us, rfl, ha, ra⟩ := h1.ktup_inv
          rw [h2.int_inv]
          obtain ⟨v, q1, q2⟩ := ra.at q
          exact .inl (.inr (.inl ⟨a, us, i, v, rfl, rfl, .inr ha, q1, k _ H (Ext.refl H) q2⟩))
        | _ => cases q
      | scr ns =>
        cases i with
        | int i =>
          obtain ⟨a, rfl, ha⟩ := h1.scr_inv
          rw [h2.int_inv]
          simp only [dAt] at q
          cases q0 : atI ns i with
          | none => rw [q0] at q; cases q
          | some n =>
            rw [q0] at q
            cases q
            have q1 : atI (ns.map V.int) i = some (V.int n) := by
              unfold atI at *
              rw [List.length_map]
              cases q3 : ixN ns.length i with
              | none => rw [q3] at q0; cases q0
              | some j =>
                rw [q3] at q0
                have q0 : ns[j]? = some n := q0
                simp [q0]
            exact .inl (.inl ⟨a, _, i, _, rfl, rfl, ha.sq, q1, k _ H (Ext.refl H) (.int n)⟩)
        | _ => cases q
      | str x =>
        cases i with
        | int i =>
          rw [h2.int_inv, h1.str_inv.1]
          simp only [dAt] at q
          split at q
          · rename_i hz
            cases q0 : atI x.cps.toList i with
            | none => rw [q0] at q; cases q
            | some c =>
              rw [q0] at q
              cases q
              exact .inl (.inr (.inr ⟨x, i, c, rfl, rfl, hz, q0, k _ H (Ext.refl H) (.str _ (strOk_at h1.str_inv.2 q0))⟩))
          · cases q
        | _ => cases q
      | dK kvs =>
        obtain ⟨a, us, rfl, ha, ka, ra⟩ := h1.dK_inv
        simp only [dAt] at q
        cases q0 : dkey i with
        | none => rw [q0] at q; cases q
        | some ky =>
          rw [q0] at q
          have q : dGet kvs ky = some z := q
          rcases (KR.of ka.1 ra).get (k := ky) with ⟨v, d, g1, g2, g3⟩ | ⟨g1, g2⟩
          · rw [g2] at q
            cases q
            have g : DGet H a (kV ky) (some v) := by rw [← g1]; exact DGet.k ha
            rw [h2.key q0]
            exact .inr ⟨a, v, rfl, g, k _ H (Ext.refl H) g3⟩
          · rw [g2] at q; cases q
      | dT kvs =>
        cases i with
        | tup ks =>
          obtain ⟨a, us, rfl, ha, ka, ra⟩ := h1.dT_inv
          simp only [dAt] at q
          cases q0 : dkeys ks with
          | none => rw [q0] at q; cases q
          | some ky =>
            rw [q0] at q
            have q : dGet kvs ky = some z := q
            rcases (KR.of ka.1 ra).get (k := ky) with ⟨v, d, g1, g2, g3⟩ | ⟨g1, g2⟩
            · rw [g2] at q
              cases q
              obtain ⟨bb, ws, rfl, hb, rb⟩ := h2.tup_inv
              have ew := rb.keys q0
              subst ew
              have g : DGet H a (.ref bb) (some v) := by rw [← g1]; exact DGet.t ha hb
              exact .inr ⟨a, v, rfl, g, k _ H (Ext.refl H) g3⟩
            · rw [g2] at q; cases q
        | _ => cases q
      | _ => cases i <;> cases q
/-- what a dict says of a key -/
def dLook : D → D → Option (Option D)
  | .dK kvs, k => match dkey k with
    | some k => some (dGet kvs k)
    | none => none
  | .dT kvs, .tup ks => match dkeys ks with
    | some k => some (dGet kvs k)
    | none => none
  | _, _ => none
def OptRep (Γ : Gm) (O : Addr → Prop) (H : Hp) : Option D → Option V → Prop
  | some d, some v => Rep Γ O H v d
  | none, none => True
  | _, _ => False
theorem dLook_ok {x y : V} {d i : D} {o : Option D} (h1 : Bor Γ O H x d) (h2 : Bor Γ O H y i) (q : dLook d i = some o) : ∃ a ov, x = .ref a ∧ DGet H a y ov ∧ IsD H a ∧ OptRep Γ O H o ov := by
  cases d with
  | dK kvs =>
    obtain ⟨a, us, rfl, ha, ka, ra⟩ := h1.dK_inv
    simp only [dLook] at q
    cases q0 : dkey i with
    | none => rw [q0] at q; cases q
    | some ky =>
      rw [q0] at q
      cases q
      rw [h2.key q0]
      rcases (KR.of ka.1 ra).get (k := ky) with ⟨v, d, g1, g2, g3⟩ | ⟨g1, g2⟩
      · exact ⟨a, some v, rfl, by rw [← g1]; exact DGet.k ha, .inl ⟨_, .inl ha⟩, by rw [g2]; exact g3⟩
      · exact ⟨a, none, rfl, by rw [← g1]; exact DGet.k ha, .inl ⟨_, .inl ha⟩, by rw [g2]; trivial⟩
  | dT kvs =>
    cases i with
    | tup ks =>
      obtain ⟨a, us, rfl, ha, ka, ra⟩ := h1.dT_inv
      simp only [dLook] at q
      cases q0 : dkeys ks with
      | none => rw [q0] at q; cases q
      | some ky =>
        rw [q0] at q
        cases q
        obtain ⟨b, ws, rfl, hb, rb⟩ := h2.tup_inv
        have ew := rb.keys q0
        subst ew
        rcases (KR.of ka.1 ra).get (k := ky) with ⟨v, d, g1, g2, g3⟩ | ⟨g1, g2⟩
        · exact ⟨a, some v, rfl, by rw [← g1]; exact DGet.t ha hb, .inr ⟨_, .inl ha⟩, by rw [g2]; exact g3⟩
        · exact ⟨a, none, rfl, by rw [← g1]; exact DGet.t ha hb, .inr ⟨_, .inl ha⟩, by rw [g2]; trivial⟩
    | _ => cases q
  | _ => cases i <;> cases q

/-! ### in -/
def inD (x : D) : D → Option Bool
  | .lst xs => if (dOk 40 x && dOk 40 (.lst xs)) = true then some (xs.any fun z => eqD z x) else none
  | .str z => match x with
    | .str y => if y.cps.size = 1 then some (decide (y.cps.getD 0 0 ∈ z.cps.toList)) else none
    | _ => none
  | .dK kvs => (dLook (.dK kvs) x).map Option.isSome
  | .dT kvs => (dLook (.dT kvs) x).map Option.isSome
  | _ => none
end
end VS

namespace VS
open PySem L2 PySem.Spec PyProof.Rows
section
variable {Γ : Gm} {W : WX} {O : Addr → Prop} {H : Hp} {v : V}
/-! ### in -/
def rInT (K : PySem.W.Frag) : R2 := fun x y H Q => ∃ d ds, Dp K H x d ∧ Dp K H y (.tuple ds) ∧ SeqAt.shaped d = true ∧ SeqAt.shaped (.tuple ds) = true ∧ Q (.bl (ds.any fun z => PyData.eqv z d)) H
def rNiT (K : PySem.W.Frag) : R2 := fun x y H Q => ∃ d ds, Dp K H x d ∧ Dp K H y (.tuple ds) ∧ SeqAt.shaped d = true ∧ SeqAt.shaped (.tuple ds) = true ∧ Q (.bl (!ds.any fun z => PyData.eqv z d)) H
theorem op_inT {X : Cx} (hu : X.A.units + 65 < cLine) : OpR X (compareOp .In) (rInT X.K) := by
  intro pins s σ H x y v u Q I rx ry h
  obtain ⟨d, ds, hd, he, sd, se, q⟩ := h
  obtain ⟨as, r1⟩ := Dp.reads I d x v hd rx
  obtain ⟨bs, r2⟩ := Dp.reads I (.tuple ds) y u he ry
  exact SeqAt.in_tuple_reads r2 r1 (SeqAt.canLay_of_shaped se) (SeqAt.canLay_of_shaped sd) (room_in_shaped sd hu) ⟨.bl _, H, I, rfl, q⟩
theorem op_niT {X : Cx} (hu : X.A.units + 65 < cLine) : OpR X (compareOp .NotIn) (rNiT X.K) := by
  intro pins s σ H x y v u Q I rx ry h
  obtain ⟨d, ds, hd, he, sd, se, q⟩ := h
  obtain ⟨as, r1⟩ := Dp.reads I d x v hd rx
  obtain ⟨bs, r2⟩ := Dp.reads I (.tuple ds) y u he ry
  exact SeqAt.notIn_tuple_reads r2 r1 (SeqAt.canLay_of_shaped se) (SeqAt.canLay_of_shaped sd) (room_in_shaped sd hu) ⟨.bl _, H, I, rfl, q⟩
def rIn1 (K : PySem.W.Frag) : R2 := fun x y H Q => rInD K x y H Q ∨ (∃ (c : Nat) (z : Str), x = .str ⟨#[c]⟩ ∧ y = .str z ∧ Q (.bl (decide (c ∈ z.cps.toList))) H) ∨ (∃ a o, y = .ref a ∧ DGet H a x o ∧ Q (.bl o.isSome) H) ∨ rInT K x y H Q
def rNi1 (K : PySem.W.Frag) : R2 := fun x y H Q => rNotInD K x y H Q ∨ (∃ (c : Nat) (z : Str), x = .str ⟨#[c]⟩ ∧ y = .str z ∧ Q (.bl (!decide (c ∈ z.cps.toList))) H) ∨ (∃ a o, y = .ref a ∧ DGet H a x o ∧ Q (.bl (!o.isSome)) H) ∨ rNiT K x y H Q
theorem op_inDict {X : Cx} (hu : X.A.units + 1 < cLine) : OpR X (compareOp .In) (fun x y H Q => ∃ a o, y = .ref a ∧ DGet H a x o ∧ Q (.bl o.isSome) H) := by
  intro pins s σ H x y v u Q I rx ry h
  obtain ⟨a, o, rfl, g, q⟩ := h
  obtain rfl : u = Value.ref a := ry
  exact d_in hu I g rx fun s3 I3 => ⟨.bl o.isSome, H, I3, rfl, q⟩
theorem op_niDict {X : Cx} (hu : X.A.units + 1 < cLine) : OpR X (compareOp .NotIn) (fun x y H Q => ∃ a o, y = .ref a ∧ DGet H a x o ∧ Q (.bl (!o.isSome)) H) := by
  intro pins s σ H x y v u Q I rx ry h
  obtain ⟨a, o, rfl, g, q⟩ := h
  obtain rfl : u = Value.ref a := ry
  exact d_notIn hu I g rx fun s3 I3 => ⟨.bl (!o.isSome), H, I3, rfl, q⟩
theorem opIn {X : Cx} (hu : X.A.units + 65 < cLine) : OpR X (compareOp .In) (rIn1 X.K) := (op_inD hu).or (op_in_sign.or ((op_inDict (by omega)).or (op_inT hu)))
theorem opNi {X : Cx} (hu : X.A.units + 65 < cLine) : OpR X (compareOp .NotIn) (rNi1 X.K) := (op_notInD hu).or (op_notIn_sign.or ((op_niDict (by omega)).or (op_niT hu)))
def inD' (x : D) : D → Option Bool
  | .tup xs => if (dOk 40 x && dOk 40 (.tup xs)) = true then some (xs.any fun z => eqD z x) else none
  | .ktup xs => if (dOk 40 x && dOk 40 (.tup xs)) = true then some (xs.any fun z => eqD z x) else none
  | d => inD x d
def pIn : List D → Option Slot
  | [x, d] => (inD' x d).map fun b => (.bl b, false)
  | _ => none
def pNi : List D → Option Slot
  | [x, d] => (inD' x d).map fun b => (.bl (!b), false)
  | _ => none
theorem OptRep.some_eq {o : Option D} {ov : Option V} (h : OptRep Γ O H o ov) : ov.isSome = o.isSome := by
  cases o <;> cases ov <;> first | rfl | exact h.elim
theorem any_eqv {d : D} {xs : List D} (z1 : dOk 40 d = true) (hx : ∀ z ∈ xs, dOk 39 z = true) : ((toPys xs).any fun z => PyData.eqv z (toPy d)) = xs.any fun z => eqD z d := by
  induction xs with
  | nil => rfl
  | cons z xs ih =>
    simp only [toPys, List.any_cons]
    rw [toPy_eqv 39 z d 40 (hx z List.mem_cons_self) z1, ih fun w hw => hx w (List.mem_cons_of_mem _ hw)]
theorem in_ok {x y : V} {d e : D} {b : Bool} {Q Q' : VK} (h1 : Bor Γ O H x d) (h2 : Bor Γ O H y e) (q : inD' d e = some b) (k : Q (.bl b) H) (k' : Q' (.bl (!b)) H) : rIn1 Γ.K x y H Q ∧ rNi1 Γ.K x y H Q' := by
  cases e with
  | tup xs =>
    simp only [inD', inD] at q
    split at q
    · rename_i hz
      cases q
      obtain ⟨z1, z2⟩ := Bool.and_eq_true_iff.mp hz
      have e1 := any_eqv z1 (by simpa [dOk] using z2)
      have d1 := h1.dp 40 z1
      have d2 : Dp Γ.K H y (.tuple (toPys xs)) := h2.dp 40 z2
      have s1 := h1.shaped (by decide) z1
      have s2 : SeqAt.shaped (.tuple (toPys xs)) = true := h2.shaped (n := 40) (by decide) z2
      exact ⟨.inr (.inr (.inr ⟨_, _, d1, d2, s1, s2, by rw [e1]; exact k⟩)), .inr (.inr (.inr ⟨_, _, d1, d2, s1, s2, by rw [e1]; exact k'⟩))⟩
    · cases q
  | ktup xs =>
    simp only [inD', inD] at q
    split at q
    · rename_i hz
      cases q
      obtain ⟨z1, z2⟩ := Bool.and_eq_true_iff.mp hz
      have e1 := any_eqv z1 (by simpa [dOk] using z2)
      have d1 := h1.dp 40 z1
      have d2 : Dp Γ.K H y (.tuple (toPys xs)) := h2.dp 40 z2
      have s1 := h1.shaped (by decide) z1
      have s2 : SeqAt.shaped (.tuple (toPys xs)) = true := h2.shaped (n := 40) (by decide) z2
      exact ⟨.inr (.inr (.inr ⟨_, _, d1, d2, s1, s2, by rw [e1]; exact k⟩)), .inr (.inr (.inr ⟨_, _, d1, d2, s1, s2, by rw [e1]; exact k'⟩))⟩
    · cases q
  | lst xs =>
    simp only [inD', inD] at q
    split at q
    · rename_i hz
      cases q
      obtain ⟨z1, z2⟩ := Bool.and_eq_true_iff.mp hz
      have e1 := any_eqv z1 (by simpa [dOk] using z2)
      have d1 := h1.dp 40 z1
      have d2 : Dp Γ.K H y (.list (toPys xs)) := h2.dp 40 z2
      have s1 := h1.shaped (by decide) z1
      have s2 : SeqAt.shaped (.list (toPys xs)) = true := h2.shaped (n := 40) (by decide) z2
      exact ⟨.inl ⟨_, _, d1, d2, s1, s2, by rw [e1]; exact k⟩, .inl ⟨_, _, d1, d2, s1, s2, by rw [e1]; exact k'⟩⟩
    · cases q
  | str z =>
    cases d with
    | str yy =>
      simp only [inD', inD] at q
      split at q
      · rename_i hz
        cases q
        have ey : yy = ⟨#[yy.cps.getD 0 0]⟩ := by
          obtain ⟨cps⟩ := yy
          obtain ⟨l⟩ := cps
          match l, hz with
          | [c], _ => rfl
        rw [h2.str_inv.1, h1.str_inv.1]
        refine ⟨.inr (.inl ⟨yy.cps.getD 0 0, z, by rw [← ey], rfl, k⟩), .inr (.inl ⟨yy.cps.getD 0 0, z, by rw [← ey], rfl, k'⟩)⟩
      · cases q
    | _ => cases q
  | dK kvs =>
    simp only [inD', inD] at q
    cases q0 : dLook (.dK kvs) d with
    | none => rw [q0] at q; cases q
    | some o =>
      rw [q0] at q
      cases q
      obtain ⟨a, ov, rfl, g, _, r⟩ := dLook_ok h2 h1 q0
      refine ⟨.inr (.inr (.inl ⟨a, ov, rfl, g, ?_⟩)), .inr (.inr (.inl ⟨a, ov, rfl, g, ?_⟩))⟩
      · rw [r.some_eq]; exact k
      · rw [r.some_eq]; exact k'
  | dT kvs =>
    simp only [inD', inD] at q
    cases q0 : dLook (.dT kvs) d with
    | none => rw [q0] at q; cases q
    | some o =>
      rw [q0] at q
      cases q
      obtain ⟨a, ov, rfl, g, _, r⟩ := dLook_ok h2 h1 q0
      refine ⟨.inr (.inr (.inl ⟨a, ov, rfl, g, ?_⟩)), .inr (.inr (.inl ⟨a, ov, rfl, g, ?_⟩))⟩
      · rw [r.some_eq]; exact k
      · rw [r.some_eq]; exact k'
  | _ => cases q
theorem prIn : PrimR Γ (r2l (rIn1 Γ.K)) pIn := by
  intro O H vs ds s Q m b e k
  match ds, e with
  | [x, d], e =>
    obtain ⟨v, w, rfl, h1, h2⟩ := bors2 b
    simp only [pIn] at e
    cases q : inD' x d with
    | none => rw [q] at e; cases e
    | some c =>
      rw [q] at e
      cases e
      exact (in_ok (Q' := fun _ _ => True) h1 h2 q (k _ H (Ext.refl H) (.bl _)) trivial).1
theorem prNi : PrimR Γ (r2l (rNi1 Γ.K)) pNi := by
  intro O H vs ds s Q m b e k
  match ds, e with
  | [x, d], e =>
    obtain ⟨v, w, rfl, h1, h2⟩ := bors2 b
    simp only [pNi] at e
    cases q : inD' x d with
    | none => rw [q] at e; cases e
    | some c =>
      rw [q] at e
      cases e
      exact (in_ok (Q := fun _ _ => True) h1 h2 q trivial (k _ H (Ext.refl H) (.bl _))).2

/-! ### len, abs, int, isinstance -/
def dLen : D → Option Nat
  | .lst xs => some xs.length
  | .tup xs => some xs.length
  | .ktup xs => some xs.length
  | .scr ns => some ns.length
  | .str x => if x.length ≤ sizeLine then some x.length else none
  | .dK kvs => some kvs.length
  | _ => none
def pLen : List D → Option Slot
  | [d] => (dLen d).map fun (n : Nat) => (.int (n : Int), false)
  | _ => none
def rLen1 (K : PySem.W.Frag) : List V → Hp → VK → Prop := fun xs H Q => (∃ x n, xs = [x] ∧ LenV K x H n ∧ Q (.int n) H) ∨ (∃ d kvs, xs = [.ref d] ∧ H d = some (.dK kvs) ∧ Q (.int (kvs.length : Int)) H)
theorem callOr {X : Cx} {f : Value} {r r' : List V → Hp → VK → Prop} (h : CallR X f r) (h' : CallR X f r') : CallR X f (fun xs H Q => r xs H Q ∨ r' xs H Q) := by
  intro pins s σ H xs us Q I rs q
  rcases q with q | q
  · exact h pins s σ H xs us Q I rs q
  · exact h' pins s σ H xs us Q I rs q
theorem prLen : PrimR Γ (rLen1 Γ.K) pLen := by
  intro O H vs ds s Q m b e k
  match ds, e with
  | [d], e =>
    obtain ⟨v, rfl, h1⟩ := bors1 b
    simp only [pLen] at e
    cases q : dLen d with
    | none => rw [q] at e; cases e
    | some n =>
      rw [q] at e
      cases e
      have k := k _ H (Ext.refl H) (.int _)
      cases d with
      | lst xs => cases q; obtain ⟨a, us, rfl, ha, ra⟩ := h1.lst_inv; exact .inl ⟨_, _, rfl, .inl ⟨us, SqL.of ha, ra.length.symm⟩, k⟩
      | tup xs => cases q; obtain ⟨a, us, rfl, ha, ra⟩ := h1.tup_inv; exact .inl ⟨_, _, rfl, .inr ⟨us, SqT.of ha, ra.length.symm⟩, k⟩
      | ktup xs => cases q; obtain ⟨a, us, rfl, ha, ra⟩ := h1.ktup_inv; exact .inl ⟨_, _, rfl, .inr ⟨us, .inr ha, ra.length.symm⟩, k⟩
      | scr ns => cases q; obtain ⟨a, rfl, ha⟩ := h1.scr_inv; exact .inl ⟨_, _, rfl, .inl ⟨_, ha.sq, by simp⟩, k⟩
      | str x =>
        simp only [dLen] at q
        split at q
        · rename_i hz
          cases q
          rw [h1.str_inv.1]
          exact .inl ⟨_, _, rfl, ⟨hz, rfl⟩, k⟩
        · cases q
      | dK kvs =>
        cases q
        obtain ⟨a, us, rfl, ha, ka, ra⟩ := h1.dK_inv
        refine .inr ⟨a, us, rfl, ha, ?_⟩
        rw [(KR.of ka.1 ra).len]
        exact k
      | _ => cases q
def pAbs : List D → Option Slot
  | [.int i] => some (.int (if i < 0 then -i else i), false)
  | _ => none
theorem prAbs : PrimR Γ (fun xs H Q => ∃ i, xs = [.int i] ∧ Q (.int (if i < 0 then -i else i)) H) pAbs := by
  intro O H vs ds s Q m b e k
  match ds, e with
  | [.int i], e =>
    obtain ⟨v, rfl, h1⟩ := bors1 b
    cases e
    rw [h1.int_inv]
    exact ⟨i, rfl, k _ H (Ext.refl H) (.int _)⟩
def pInt : List D → Option Slot
  | [.int i] => some (.int i, false)
  | [.bl b] => some (.int (if b then 1 else 0), false)
  | _ => none
theorem prInt : PrimR Γ (fun xs H Q => (∃ i, xs = [.int i] ∧ Q (.int i) H) ∨ ∃ k, xs = [.bl k] ∧ Q (.int (if k then 1 else 0)) H) pInt := by
  intro O H vs ds s Q m b e k
  match ds, e with
  | [.int i], e =>
    obtain ⟨v, rfl, h1⟩ := bors1 b
    cases e
    rw [h1.int_inv]
    exact .inl ⟨i, rfl, k _ H (Ext.refl H) (.int _)⟩
  | [.bl c], e =>
    obtain ⟨v, rfl, h1⟩ := bors1 b
    cases e
    rw [h1.bl_inv]
    exact .inr ⟨c, rfl, k _ H (Ext.refl H) (.int _)⟩
def pMin2 : List D → Option Slot
  | [.int i, .int j] => some (.int (if j < i then j else i), false)
  | _ => none
def pMax2 : List D → Option Slot
  | [.int i, .int j] => some (.int (if j > i then j else i), false)
  | _ => none
theorem prMin2 : PrimR Γ (fun xs H Q => ∃ i j, xs = [.int i, .int j] ∧ Q (.int (if j < i then j else i)) H) pMin2 := by
  intro O H vs ds s Q m b e k
  match ds, e with
  | [.int i, .int j], e =>
    obtain ⟨v, w, rfl, h1, h2⟩ := bors2 b
    cases e
    rw [h1.int_inv, h2.int_inv]
    exact ⟨i, j, rfl, k _ H (Ext.refl H) (.int _)⟩
theorem prMax2 : PrimR Γ (fun xs H Q => ∃ i j, xs = [.int i, .int j] ∧ Q (.int (if j > i then j else i)) H) pMax2 := by
  intro O H vs ds s Q m b e k
  match ds, e with
  | [.int i, .int j], e =>
    obtain ⟨v, w, rfl, h1, h2⟩ := bors2 b
    cases e
    rw [h1.int_inv, h2.int_inv]
    exact ⟨i, j, rfl, k _ H (Ext.refl H) (.int _)⟩
/-- isinstance against a built-in class -/
def tyD : D → Option String
  | .non => some "NoneType"
  | .bl _ => some "bool"
  | .int _ => some "int"
  | .str _ => some "str"
  | .tup _ => some "tuple"
  | .ktup _ => some "tuple"
  | .lst _ => some "list"
  | .scr _ => some "list"
  | .dK _ => some "dict"
  | .dT _ => some "dict"
  | _ => none
def isiB (a b : String) : Option Bool :=
  if b = "int" then some (a == "int" || a == "bool") else if b = "bool" ∨ b = "str" ∨ b = "tuple" ∨ b = "list" ∨ b = "dict" then some (a == b) else none
theorem isiB_ok {a b : String} {r : Bool} (ha : a = "NoneType" ∨ a = "bool" ∨ a = "int" ∨ a = "str" ∨ a = "tuple" ∨ a = "list" ∨ a = "dict") (h : isiB a b = some r) : kitB a b = some r := by
  have hb : b = "int" ∨ b = "bool" ∨ b = "str" ∨ b = "tuple" ∨ b = "list" ∨ b = "dict" := by
    unfold isiB at h
    split at h
    · exact .inl ‹_›
    · split at h
      · exact .inr ‹_›
      · cases h
  rcases ha with rfl | rfl | rfl | rfl | rfl | rfl | rfl <;> rcases hb with rfl | rfl | rfl | rfl | rfl | rfl <;> (rw [← h]; decide +kernel)
def pIsi : List D → Option Slot
  | [d, .ty b] => match tyD d with
    | some a => (isiB a b).map fun r => (.bl r, false)
    | none => none
  | _ => none
theorem Bor.tyx {d : D} {a : String} (h : Bor Γ O H v d) (e : tyD d = some a) : TyX Γ.K H v (.type a) := by
  cases d with
  | non => cases e; rw [h.non_inv]; exact .base .non
  | bl b => cases e; rw [h.bl_inv]; exact .base (.bl _)
  | int b => cases e; rw [h.int_inv]; exact .base (.int _)
  | str b => cases e; rw [h.str_inv.1]; exact .base (.str _)
  | tup xs => cases e; obtain ⟨a, us, rfl, ha, ra⟩ := h.tup_inv; exact .base (.tup ha)
  | ktup xs => cases e; obtain ⟨a, us, rfl, ⟨o, its, n, h1, h2, _⟩, ra⟩ := h.ktup_inv; exact .kTuple h1 h2
  | lst xs => cases e; obtain ⟨a, us, rfl, ha, ra⟩ := h.lst_inv; exact .base (.lst ha)
  | scr xs =>
    cases e
    obtain ⟨a, rfl, ha⟩ := h.scr_inv
    rcases ha with ⟨o, ha⟩ | ⟨o, its, n, h1, h2, _⟩
    · exact .base (.frz ha)
    · exact .kList h1 h2
  | dK xs => cases e; obtain ⟨a, us, rfl, ha, _⟩ := h.dK_inv; exact .base (.dK ha)
  | dT xs => cases e; obtain ⟨a, us, rfl, ha, _⟩ := h.dT_inv; exact .base (.dT ha)
  | _ => cases e
theorem tyD_cases {d : D} {a : String} (e : tyD d = some a) : a = "NoneType" ∨ a = "bool" ∨ a = "int" ∨ a = "str" ∨ a = "tuple" ∨ a = "list" ∨ a = "dict" := by
  cases d <;> first | (cases e; done) | (cases e; simp)
theorem prIsi : PrimR Γ (rIsi Γ.K) pIsi := by
  intro O H vs ds s Q m b e k
  match ds, e with
  | [d, .ty c], e =>
    obtain ⟨v, w, rfl, h1, h2⟩ := bors2 b
    simp only [pIsi] at e
    cases q : tyD d with
    | none => rw [q] at e; cases e
    | some a =>
      rw [q] at e
      simp only at e
      cases q2 : isiB a c with
      | none => rw [q2] at e; cases e
      | some r =>
        rw [q2] at e
        cases e
        rw [h2.ty_inv]
        exact ⟨v, .ty c, _, _, r, rfl, .ty c, h1.tyx q, kit_ty (isiB_ok (tyD_cases q) q2), k _ H (Ext.refl H) (.bl _)⟩
end
end VS

namespace VS
open PySem L2 PySem.Spec PyProof.Rows
section
variable {Γ : Gm} {W : WX} {Z : Addr → Prop} {σ : L2.St} {ρ : Sl} {O : Addr → Prop} {H : Hp} {v : V} {fx : List Nat}
/-! ### what takes its parts: displays -/
def allE : List Opd → Bool
  | [] => true
  | .e _ :: os => allE os
  | .v _ :: _ => false
def PrimC (Γ : Gm) (r : List V → Hp → VK → Prop) (f : List D → Option Slot) : Prop :=
  ∀ O H vs ds s Q, (∀ a, O a → Mut (H a)) → Reps Γ O H vs ds → f ds = some s → PEnd Γ O H s Q → r vs H Q
theorem OR.reps {os : List Opd} {xs : List (Option D)} {vs : List V} (h : OR Γ Z σ ρ H os xs vs) : ∀ {ds : List D}, allE os = true → VS.late os xs ρ = some ds → Reps Γ (OA Z σ ρ) H vs ds := by
  induction h with
  | nil => intro ds _ e; cases e; exact .nil
  | v => intro ds a; cases a
  | @e m d v os xs vs hr _ ih =>
    intro ds a e
    unfold VS.late at e
    cases q2 : VS.late os xs ρ with
    | none => rw [q2] at e; cases e
    | some ds' =>
      rw [q2] at e
      cases e
      exact .cons hr (ih a q2)
theorem SE.primC {r : List V → Hp → VK → Prop} {f : List D → Option Slot} {ta : TA} {os : List Opd} (hr : PrimC Γ r f) (ha : SA Γ W ta os) (he : allE os = true) : SE Γ W (tCB r ta) (cPrim f os) := by
  intro Z σ ρ H Q F k
  refine ha.run F ?_
  unfold cPrim at k
  revert k
  cases evO os ρ with
  | exc c fs ρ' => exact fun k => k
  | stuck => exact fun k => k
  | ok xs ρ' =>
    intro k vs H' f' s o
    have k := EndV.on s k
    simp only [Res.bind_ok] at k
    unfold fin at k
    cases q : late os xs ρ' with
    | none => rw [q] at k; exact k.elim
    | some ds =>
      rw [q] at k
      simp only at k
      cases q2 : f ds with
      | none => rw [q2] at k; exact k.elim
      | some sl =>
        rw [q2] at k
        refine hr _ _ _ _ sl Q f'.mu (o.reps he q) q2 ?_
        obtain ⟨d, b⟩ := sl
        cases b with
        | false => exact fun v H' e r => k v H' (f'.ext e) e.step r
        | true =>
          intro p H' hp e w
          refine k p H' (f'.zadd e hp w.mut) e.step (fun z => f'.nfresh hp (.inl z)) (.inl hp) ?_
          have e2 : (OA (Zadd Z p) σ ρ') = (fun b => OA Z σ ρ' b ∨ b = p) := by
            funext b
            exact propext OA.zadd
          rw [e2]
          exact w
def rTup : List V → Hp → VK → Prop := fun xs H Q => xs.length ≤ sizeLine ∧ ∀ p, H p = none → Q (.ref p) (upd H p (.tup xs))
def rLst : List V → Hp → VK → Prop := fun xs H Q => xs.length ≤ sizeLine ∧ ∀ p, H p = none → Q (.ref p) (upd H p (.lst xs))
def pTup (ds : List D) : Option Slot := if ds.length ≤ 1000 then some (.tup ds, false) else none
def pLst (ds : List D) : Option Slot := if ds.length ≤ 1000 then some (.lst ds, true) else none
theorem sz1000 {n : Nat} (h : n ≤ 1000) : n ≤ sizeLine := Nat.le_trans h (by decide)
theorem prTup : PrimC Γ rTup pTup := by
  intro O H vs ds s Q m r e k
  unfold pTup at e
  split at e
  · rename_i hz
    cases e
    exact ⟨sz1000 (by rw [r.length]; exact hz), fun p hp => new_tup m r k p hp⟩
  · cases e
theorem prLst : PrimC Γ rLst pLst := by
  intro O H vs ds s Q m r e k
  unfold pLst at e
  split at e
  · rename_i hz
    cases e
    exact ⟨sz1000 (by rw [r.length]; exact hz), fun p hp => new_lst m r k p hp⟩
  · cases e
theorem SE.tup {ta : TA} {os : List Opd} (ha : SA Γ W ta os) (he : allE os = true) : SE Γ W (tTup ta) (cPrim pTup os) := SE.primC prTup ha he
theorem SE.lst {ta : TA} {os : List Opd} (ha : SA Γ W ta os) (he : allE os = true) : SE Γ W (tLst ta) (cPrim pLst os) := SE.primC prLst ha he
/-- {}: ints and texts as keys; tuples of them -/
def cDK : CExp := fun ρ => .ok (.dK [], true) ρ
def cDT : CExp := fun ρ => .ok (.dT [], true) ρ
theorem SE.dnewK : SE Γ W tDNewK cDK := by
  intro Z σ ρ H Q f k
  intro p hp
  have e2 : (OA (Zadd Z p) σ ρ) = (fun b => OA Z σ ρ b ∨ b = p) := by funext b; exact propext OA.zadd
  have w : Own Γ (fun b => OA Z σ ρ b ∨ b = p) (upd H p (.dK [])) (.ref p) (.dK []) := .dK upd_same (.inr rfl) ⟨rfl, rfl⟩ .nil
  exact k p _ (f.zadd (Ext.new hp) hp w.mut) (Ext.new hp).step (fun z => f.nfresh hp (.inl z)) (.inl hp) (by rw [e2]; exact w)
theorem SE.dnewT : SE Γ W tDNewT cDT := by
  intro Z σ ρ H Q f k
  intro p hp
  have e2 : (OA (Zadd Z p) σ ρ) = (fun b => OA Z σ ρ b ∨ b = p) := by funext b; exact propext OA.zadd
  have w : Own Γ (fun b => OA Z σ ρ b ∨ b = p) (upd H p (.dT [])) (.ref p) (.dT []) := .dT upd_same (.inr rfl) ⟨rfl, rfl⟩ .nil
  exact k p _ (f.zadd (Ext.new hp) hp w.mut) (Ext.new hp).step (fun z => f.nfresh hp (.inl z)) (.inl hp) (by rw [e2]; exact w)

/-! ### calls that make lists, tuples, dicts -/
def pList : List D → Option Slot
  | [.lst xs] => some (.lst xs, true)
  | [.tup xs] => some (.lst xs, true)
  | [.ktup xs] => some (.lst xs, true)
  | [.scr ns] => some (.lst (ns.map D.int), true)
  | [.dK kvs] => some (.lst (kvs.map fun kv => match kv.1 with | .inl i => D.int i | .inr x => D.str x), true)
  | _ => none
def keyD : Key → D
  | .inl i => .int i
  | .inr x => .str x
def pTuple : List D → Option Slot
  | [.lst xs] => some (.tup xs, false)
  | [.tup xs] => some (.tup xs, false)
  | [.ktup xs] => some (.ktup xs, false)
  | _ => none
def rList1 (K : PySem.W.Frag) : List V → Hp → VK → Prop := fun xs H Q => (∃ p ys, xs = [.ref p] ∧ (SqL K H p ys ∨ SqT K H p ys) ∧ ∀ l, H l = none → Q (.ref l) (upd H l (.lst ys)))
def rTuple1 (K : PySem.W.Frag) : List V → Hp → VK → Prop := fun xs H Q => ∃ p ys, xs = [.ref p] ∧ ((SqL K H p ys ∧ ∀ l, H l = none → Q (.ref l) (upd H l (.tup ys))) ∨ (SqT K H p ys ∧ Q (.ref p) H))
def pList' : List D → Option Slot
  | [.lst xs] => some (.lst xs, true)
  | [.tup xs] => some (.lst xs, true)
  | [.ktup xs] => some (.lst xs, true)
  | [.scr ns] => some (.lst (ns.map D.int), true)
  | _ => none
theorem prList : PrimR Γ (rList1 Γ.K) pList' := by
  intro O H vs ds s Q m b e k
  match ds, e with
  | [.lst xs], e =>
    obtain ⟨v, rfl, h1⟩ := bors1 b
    cases e
    obtain ⟨a, us, rfl, ha, ra⟩ := h1.lst_inv
    exact ⟨a, us, rfl, .inl (SqL.of ha), fun p hp => new_lst m ra k p hp⟩
  | [.tup xs], e =>
    obtain ⟨v, rfl, h1⟩ := bors1 b
    cases e
    obtain ⟨a, us, rfl, ha, ra⟩ := h1.tup_inv
    exact ⟨a, us, rfl, .inr (SqT.of ha), fun p hp => new_lst m ra k p hp⟩
  | [.ktup xs], e =>
    obtain ⟨v, rfl, h1⟩ := bors1 b
    cases e
    obtain ⟨a, us, rfl, ha, ra⟩ := h1.ktup_inv
    exact ⟨a, us, rfl, .inr (.inr ha), fun p hp => new_lst m ra k p hp⟩
  | [.scr ns], e =>
    obtain ⟨v, rfl, h1⟩ := bors1 b
    cases e
    obtain ⟨a, rfl, ha⟩ := h1.scr_inv
    exact ⟨a, _, rfl, .inl ha.sq, fun p hp => new_lst m (ints_reps ns) k p hp⟩
theorem prTuple : PrimR Γ (rTuple1 Γ.K) pTuple := by
  intro O H vs ds s Q m b e k
  match ds, e with
  | [.lst xs], e =>
    obtain ⟨v, rfl, h1⟩ := bors1 b
    cases e
    obtain ⟨a, us, rfl, ha, ra⟩ := h1.lst_inv
    exact ⟨a, us, rfl, .inl ⟨SqL.of ha, fun p hp => new_tup m ra k p hp⟩⟩
  | [.tup xs], e =>
    obtain ⟨v, rfl, h1⟩ := bors1 b
    cases e
    obtain ⟨a, us, rfl, ha, ra⟩ := h1.tup_inv
    exact ⟨a, us, rfl, .inr ⟨SqT.of ha, k _ H (Ext.refl H) (.tup ha ra)⟩⟩
  | [.ktup xs], e =>
    obtain ⟨v, rfl, h1⟩ := bors1 b
    cases e
    obtain ⟨a, us, rfl, ha, ra⟩ := h1.ktup_inv
    exact ⟨a, us, rfl, .inr ⟨.inr ha, k _ H (Ext.refl H) (.ktup ha ra)⟩⟩
/-- list(d): the keys -/
def pListD : List D → Option Slot
  | [.dK kvs] => some (.lst (kvs.map fun kv => keyD kv.1), true)
  | _ => none
theorem keys_reps {ks : List Key} (h : ∀ k ∈ ks, kOk k = true) : Reps Γ O H (ks.map kV) (ks.map keyD) := by
  induction ks with
  | nil => exact .nil
  | cons k ks ih =>
    refine .cons ?_ (ih fun q hq => h q (List.mem_cons_of_mem _ hq))
    have hk := h k List.mem_cons_self
    cases k with
    | inl i => exact .int i
    | inr x => exact .str x hk
theorem prListD : PrimR Γ rListD pListD := by
  intro O H vs ds s Q m b e k
  match ds, e with
  | [.dK kvs], e =>
    obtain ⟨v, rfl, h1⟩ := bors1 b
    cases e
    obtain ⟨a, us, rfl, ha, ka, ra⟩ := h1.dK_inv
    refine ⟨a, us, rfl, ha, fun p hp => ?_⟩
    have e1 : (us.map fun kv => kV kv.1) = (us.map (·.1)).map kV := by rw [List.map_map]; rfl
    rw [e1, ka.1]
    have e2 : (kvs.map fun kv => keyD kv.1) = (kvs.map (·.1)).map keyD := by rw [List.map_map]; rfl
    refine new_lst m (ds := kvs.map fun kv => keyD kv.1) ?_ k p hp
    rw [e2]
    refine keys_reps fun q hq => ?_
    obtain ⟨kv, h3, h4⟩ := List.mem_map.mp hq
    rw [← h4]
    exact List.all_eq_true.mp ka.2 kv h3
/-- dict(d): a copy -/
def pDict : List D → Option Slot
  | [.dK kvs] => some (.dK kvs, true)
  | _ => none
def rDictC : List V → Hp → VK → Prop := fun xs H Q => ∃ a kvs, xs = [.ref a] ∧ H a = some (.dK kvs) ∧ ∀ p, H p = none → Q (.ref p) (upd H p (.dK kvs))
theorem call_dictC {X : Cx} : CallR X (.type "dict") rDictC := by
  intro pins s σ H xs us Q I r h
  obtain ⟨a, kvs, rfl, ha, q⟩ := h
  obtain ⟨u, rfl, ru⟩ := vals1 r
  obtain rfl : u = Value.ref a := ru
  exact d_copyOf I (.inl ha) fun p s' hp I' => ⟨.ref p, _, I', rfl, q p hp⟩
theorem prDict : PrimR Γ rDictC pDict := by
  intro O H vs ds s Q m b e k
  match ds, e with
  | [.dK kvs], e =>
    obtain ⟨v, rfl, h1⟩ := bors1 b
    cases e
    obtain ⟨a, us, rfl, ha, ka, ra⟩ := h1.dK_inv
    exact ⟨a, us, rfl, ha, fun p hp => k p _ hp (Ext.new hp) (.dK upd_same (.inr rfl) ka (ra.fresh m (Ext.new hp) hp))⟩
/-- xs[::-1] -/
def pRev : List D → Option Slot
  | [.lst xs] => some (.lst xs.reverse, true)
  | [.scr ns] => some (.lst (ns.map D.int).reverse, true)
  | _ => none
theorem prRev : PrimR Γ (r1l fun x H Q => ∃ a xs, x = .ref a ∧ SqL Γ.K H a xs ∧ ∀ p, H p = none → Q (.ref p) (upd H p (.lst xs.reverse))) pRev := by
  intro O H vs ds s Q m b e k
  match ds, e with
  | [.lst xs], e =>
    obtain ⟨v, rfl, h1⟩ := bors1 b
    cases e
    obtain ⟨a, us, rfl, ha, ra⟩ := h1.lst_inv
    exact ⟨a, us, rfl, SqL.of ha, fun p hp => new_lst m ra.rev k p hp⟩
  | [.scr ns], e =>
    obtain ⟨v, rfl, h1⟩ := bors1 b
    cases e
    obtain ⟨a, rfl, ha⟩ := h1.scr_inv
    exact ⟨a, _, rfl, ha.sq, fun p hp => new_lst m (ints_reps ns).rev k p hp⟩
theorem SE.rev {ta : TE} {o : Opd} (h : SO Γ W ta o) : SE Γ W (tRevL Γ.K ta) (cPrim pRev [o]) := SE.op1 prRev h
/-- xs[a:b] -/
def cutD (xs : List D) (lo hi : Option Int) : List D := (xs.drop (HT.sIx xs.length 0 lo)).take (HT.sIx xs.length xs.length hi - HT.sIx xs.length 0 lo)
end
end VS

namespace VS
open PySem L2 PySem.Spec
section
variable {Γ : Gm} {W : WX} {Z : Addr → Prop} {σ : L2.St} {ρ : Sl} {O : Addr → Prop} {H : Hp} {v : V} {fx : List Nat}
/-! ### a receiver and its arguments -/
def rcl (r : V → List V → Hp → VK → Prop) : List V → Hp → VK → Prop := fun vs H Q => match vs with
  | x :: xs => r x xs H Q
  | [] => False
def cRecv (pk : D → Bool) (f : List D → Option Slot) (o : Opd) (os : List Opd) : CExp := fun ρ => match o with
  | .v i => match ρ[i]? with
    | some (some s) => if pk s.1 = true then cPrim f (.v i :: os) ρ else .stuck
    | _ => .stuck
  | .e m => (m ρ).bind fun s ρ1 => if pk s.1 = true then (evO os ρ1).bind fun xs ρ2 => fin f (.e m :: os) (some s.1 :: xs) ρ2 else .stuck
theorem SE.recv {to : TE} {ta : TA} {P : V → Hp → Prop} {G : L2.St → VK → V → Hp → Prop} {pk : D → Bool} {r : V → List V → Hp → VK → Prop} {f : List D → Option Slot} {o : Opd} {os : List Opd} (hP : ∀ O H v d, Bor Γ O H v d → pk d = true → P v H) (hr : PrimR Γ (rcl r) f) (ho : SO Γ W to o) (ha : SA Γ W ta os)
    (hG : ∀ σ Q x H1, P x H1 → ta σ H1 (fun xs H2 => r x xs H2 Q) → G σ Q x H1) : SE Γ W (fun σ H Q => to σ H (G σ Q)) (cRecv pk f o os) := by
  intro Z σ ρ H Q F k
  cases o with
  | v i =>
    have e : to = tVar i := ho
    subst e
    unfold cRecv at k
    simp only at k
    cases q : ρ[i]? with
    | none => rw [q] at k; exact k.elim
    | some w =>
      cases w with
      | none => rw [q] at k; exact k.elim
      | some s =>
        rw [q] at k
        simp only at k
        split at k
        · rename_i hpk
          obtain ⟨v, hv, b⟩ := F.get q
          refine ⟨v, hv, hG σ Q v H (hP _ _ _ _ b hpk) (ha.run F ?_)⟩
          unfold cPrim evO at k
          rw [q] at k
          simp only at k
          revert k
          cases evO os ρ with
          | ok xs ρ' => exact fun k vs H' f' s o => prim_end (r := rcl r) (vs := v :: vs) hr f' (.v hv o) (EndV.on s k)
          | exc c fs ρ' => exact fun k => k
          | stuck => exact fun k => k
        · exact k.elim
  | e m =>
    have hm : SE Γ W to m := ho
    refine hm.val F ?_
    unfold cRecv at k
    simp only at k
    revert k
    cases m ρ with
    | exc c fs ρ' => exact fun k => k
    | stuck => exact fun k => k
    | ok s ρ1 =>
      intro k v H1 f1 s1 r1
      simp only [Res.bind_ok] at k
      split at k
      · rename_i hpk
        refine hG σ Q v H1 (hP _ _ _ _ (.rep r1) hpk) (ha.run f1 ?_)
        revert k
        cases evO os ρ1 with
        | ok xs ρ' => exact fun k vs H' f' s o => prim_end (r := rcl r) (vs := v :: vs) hr f' (.e (s.rep f1 r1) o) (EndV.on (s1.trans s) k)
        | exc c fs ρ' => exact fun k => PostX.on s1 k
        | stuck => exact fun k => k
      · exact k.elim
/-- d.get(k, x) -/
def isDict : D → Bool
  | .dK _ => true
  | .dT _ => true
  | _ => false
theorem Bor.isD {d : D} (h : Bor Γ O H v d) (e : isDict d = true) : ∃ a, v = .ref a ∧ IsD H a := by
  cases d with
  | dK kvs => obtain ⟨a, us, rfl, ha, _⟩ := h.dK_inv; exact ⟨a, rfl, .inl ⟨_, .inl ha⟩⟩
  | dT kvs => obtain ⟨a, us, rfl, ha, _⟩ := h.dT_inv; exact ⟨a, rfl, .inr ⟨_, .inl ha⟩⟩
  | _ => cases e
def flat1 : D → Bool
  | .non => true
  | .bl _ => true
  | .int _ => true
  | .str _ => true
  | .tup _ => true
  | _ => false
theorem Bor.flat1 {d : D} (h : Bor Γ O H v d) (e : flat1 d = true) : Rep Γ O H v d := by
  cases h with
  | rep h => exact h
  | own h => cases h <;> cases e
def pGet2 : List D → Option Slot
  | [d, k, x] => if flat1 x = true then (match dLook d k with
    | some (some z) => some (z, false)
    | some none => some (x, false)
    | none => none) else none
  | _ => none
theorem prGet2 : PrimR Γ (rcl fun x xs H Q => ∃ a y z o, x = .ref a ∧ xs = [y, z] ∧ DGet H a y o ∧ Q (o.getD z) H) pGet2 := by
  intro O H vs ds s Q m b e k
  match ds, e with
  | [d, ky, x], e =>
    obtain ⟨v, w, u, rfl, h1, h2, h3⟩ := bors3 b
    simp only [pGet2] at e
    split at e
    · rename_i hx
      cases q : dLook d ky with
      | none => rw [q] at e; cases e
      | some o =>
        rw [q] at e
        obtain ⟨a, ov, rfl, g, _, r⟩ := dLook_ok h1 h2 q
        refine ⟨a, w, u, ov, rfl, rfl, g, ?_⟩
        cases o with
        | some z =>
          cases e
          cases ov with
          | some y => exact k _ H (Ext.refl H) r
          | none => exact r.elim
        | none =>
          cases e
          cases ov with
          | some y => exact r.elim
          | none => exact k _ H (Ext.refl H) (h3.flat1 hx)
    · cases e
theorem SE.get2 {td ty tx : TE} {o1 o2 o3 : Opd} (h1 : SO Γ W td o1) (h2 : SO Γ W ty o2) (h3 : SO Γ W tx o3) : SE Γ W (tDGet2 td ty tx) (cRecv isDict pGet2 o1 [o2, o3]) :=
  SE.recv (P := fun x H => ∃ a, x = .ref a ∧ IsD H a) (G := fun σ Q x H1 => ∃ a, x = .ref a ∧ IsD H1 a ∧ ty σ H1 fun y H2 => tx σ H2 fun z H3 => ∃ o, DGet H3 a y o ∧ Q (o.getD z) H3)
    (r := fun x xs H Q => ∃ a y z o, x = .ref a ∧ xs = [y, z] ∧ DGet H a y o ∧ Q (o.getD z) H) (fun _ _ _ _ b e => b.isD e) prGet2 h1 (.cons h2 (.cons h3 .nil)) (fun σ Q x H1 ⟨a, e, i⟩ h => by
      subst e
      refine ⟨a, rfl, i, ?_⟩
      have h : ty σ H1 fun y H2 => tx σ H2 fun z H3 => ∃ a' y' z' o, V.ref a = .ref a' ∧ [y, z] = [y', z'] ∧ DGet H3 a' y' o ∧ Q (o.getD z') H3 := h
      have e2 : (fun y H2 => tx σ H2 fun z H3 => ∃ a' y' z' o, V.ref a = .ref a' ∧ [y, z] = [y', z'] ∧ DGet H3 a' y' o ∧ Q (o.getD z') H3) = (fun y H2 => tx σ H2 fun z H3 => ∃ o, DGet H3 a y o ∧ Q (o.getD z) H3) := by
        funext y H2
        congr
        funext z H3
        refine propext ⟨?_, ?_⟩
        · rintro ⟨a', y', z', o, e1, e2, g, q⟩
          cases e1
          cases e2
          exact ⟨o, g, q⟩
        · rintro ⟨o, g, q⟩
          exact ⟨a, y, z, o, rfl, rfl, g, q⟩
      rw [← e2]
      exact h)
/-- sep.join(texts) -/
def isStr : D → Bool
  | .str _ => true
  | _ => false
def strsOf : List D → Option (List Str)
  | [] => some []
  | .str x :: r => (strsOf r).map (x :: ·)
  | _ :: _ => none
theorem Reps.strs : ∀ {vs : List V} {ds : List D} {ys : List Str}, Reps Γ O H vs ds → strsOf ds = some ys → vs = ys.map V.str ∧ ∀ y ∈ ys, PyData.strOk y = true
  | _, _, _, .nil, e => by cases e; exact ⟨rfl, fun _ h => nomatch h⟩
  | _, _, ys, .cons h r, e => by
    rename_i v vs d ds
    cases d with
    | str x =>
      simp only [strsOf] at e
      cases q : strsOf ds with
      | none => rw [q] at e; cases e
      | some ys' =>
        rw [q] at e
        cases e
        obtain ⟨h1, h2⟩ := Reps.strs r q
        obtain ⟨g1, g2⟩ := Bor.str_inv (.rep h)
        refine ⟨by rw [g1, h1]; rfl, fun y hy => ?_⟩
        rcases List.mem_cons.mp hy with e | hy
        · rw [e]; exact g2
        · exact h2 y hy
    | _ => cases e
theorem strOk_join1 {a : Str} (ha : PyData.strOk a = true) : ∀ {ys : List Str}, (∀ y ∈ ys, PyData.strOk y = true) → PyData.strOk (Str.join a ys) = true
  | [], _ => by show PyData.strOk Str.empty = true; decide +kernel
  | [y], h => h y List.mem_cons_self
  | y :: z :: r, h => strOk_append (strOk_append (h y List.mem_cons_self) ha) (strOk_join1 ha (ys := z :: r) fun w hw => h w (List.mem_cons_of_mem _ hw))
theorem strOk_join {a : Str} (ha : PyData.strOk a = true) {ys : List Str} (h : ∀ y ∈ ys, PyData.strOk y = true) : PyData.strOk (Txt.join a ys) = true := by
  rw [TL.join_eq]
  exact strOk_join1 ha h
def pJoin : List D → Option Slot
  | [.str a, .lst xs] => match strsOf xs with
    | some ys => if (ys.map (·.length)).sum + ys.length * a.length ≤ 16777216 then some (.str (Str.join a ys), false) else none
    | none => none
  | _ => none
def rJoin (K : PySem.W.Frag) : V → List V → Hp → VK → Prop := fun x xs H Q => ∃ a p, ∃ ys : List Str, x = .str a ∧ xs = [.ref p] ∧ (SqL K H p (ys.map V.str) ∨ SqT K H p (ys.map V.str)) ∧
    (ys.map (·.length)).sum + ys.length * a.length ≤ 16777216 ∧ Q (.str (Txt.join a ys)) H
theorem prJoin : PrimR Γ (rcl (rJoin Γ.K)) pJoin := by
  intro O H vs ds s Q m b e k
  match ds, e with
  | [.str a, .lst xs], e =>
    obtain ⟨v, w, rfl, h1, h2⟩ := bors2 b
    simp only [pJoin] at e
    cases q : strsOf xs with
    | none => rw [q] at e; cases e
    | some ys =>
      rw [q] at e
      simp only at e
      split at e
      · rename_i hz
        cases e
        obtain ⟨p, us, rfl, ha, ra⟩ := h2.lst_inv
        obtain ⟨g1, g2⟩ := ra.strs q
        subst g1
        rw [h1.str_inv.1]
        refine ⟨a, p, ys, rfl, rfl, .inl (SqL.of ha), hz, ?_⟩
        have ej : Txt.join a ys = Str.join a ys := TL.join_eq a ys
        rw [ej]
        exact k _ H (Ext.refl H) (.str _ (strOk_join1 h1.str_inv.2 g2))
      · cases e
theorem SE.join {to te : TE} {o1 o2 : Opd} (h1 : SO Γ W to o1) (h2 : SO Γ W te o2) : SE Γ W (tM1 (rJoin Γ.K) to te) (cRecv isStr pJoin o1 [o2]) :=
  SE.recv (P := fun x _ => ∃ a, x = .str a) (G := fun σ Q x H1 => (∃ a, x = .str a) ∧ te σ H1 fun y H2 => rJoin Γ.K x [y] H2 Q) (r := rJoin Γ.K) (fun _ _ v d b e => by
    cases d with
    | str x => exact ⟨x, b.str_inv.1⟩
    | _ => cases e) prJoin h1 (.cons h2 .nil) (fun σ Q x H1 p h => ⟨p, h⟩)

/-! ### == of dicts too (equal ones) -/
def sameS : D → D → Bool
  | .non, .non => true
  | .bl a, .bl b => a == b
  | .int a, .int b => a == b
  | .str a, .str b => a == b
  | _, _ => false
def eqK (a b : List (Key × D)) : Bool := decide (a.length = b.length) && a.all fun kd => match dGet b kd.1 with
  | some e => sameS kd.2 e
  | none => false
def pEqA : List D → Option Slot
  | [.dK a, .dK b] => if eqK a b = true then some (.bl true, false) else none
  | ds => pEq ds
def rEqA (K : PySem.W.Frag) : R2 := fun x y H Q => rEqD K x y H Q ∨ rEqV K x y H Q
theorem opEq {X : Cx} (hu : X.A.units + 64 < cLine) : OpR X (compareOp .Eq) (rEqA X.K) := (op_eqD hu).or (op_eqV hu)
theorem sameS_ok {x y : V} {d e : D} (h1 : Rep Γ O H x d) (h2 : Rep Γ O H y e) (s : sameS d e = true) : x = y ∧ flatB x = true := by
  cases d with
  | non => cases e with | non => rw [Bor.non_inv (.rep h1), Bor.non_inv (.rep h2)]; exact ⟨rfl, rfl⟩ | _ => cases s
  | bl a => cases e with | bl b => rw [Bor.bl_inv (.rep h1), Bor.bl_inv (.rep h2)]; exact ⟨by rw [eq_of_beq s], rfl⟩ | _ => cases s
  | int a => cases e with | int b => rw [Bor.int_inv (.rep h1), Bor.int_inv (.rep h2)]; exact ⟨by rw [eq_of_beq s], rfl⟩ | _ => cases s
  | str a => cases e with | str b => rw [(Bor.str_inv (.rep h1)).1, (Bor.str_inv (.rep h2)).1]; exact ⟨by rw [eq_of_beq s], rfl⟩ | _ => cases s
  | _ => cases e <;> cases s
theorem prEqA : PrimR Γ (r2l (rEqA Γ.K)) pEqA := by
  intro O H vs ds s Q m b e k
  unfold pEqA at e
  split at e
  · rename_i a c
    split at e
    · rename_i hz
      cases e
      obtain ⟨v, w, rfl, h1, h2⟩ := bors2 b
      obtain ⟨p, ks, rfl, hp, kp, rp⟩ := h1.dK_inv
      obtain ⟨q, ls, rfl, hq, kq, rq⟩ := h2.dK_inv
      obtain ⟨z1, z2⟩ := Bool.and_eq_true_iff.mp hz
      have R1 := KR.of kp.1 rp
      have R2 := KR.of kq.1 rq
      refine .inr ⟨1, by decide, .inr ⟨p, q, ks, ls, rfl, rfl, hp, hq, by rw [R1.len, R2.len]; exact of_decide_eq_true z1, ?_⟩, k _ H (Ext.refl H) (.bl true)⟩
      clear hz z1 kp rp hp h1 b
      induction R1 with
      | nil => exact fun _ h => nomatch h
      | @cons ky v d kvs ds r _ ih =>
        simp only [List.all_cons, Bool.and_eq_true] at z2
        intro pr hpr
        rcases List.mem_cons.mp hpr with e | hpr
        · subst e
          have z3 := z2.1
          rcases R2.get (k := ky) with ⟨u, d2, g1, g2, g3⟩ | ⟨g1, g2⟩
          · rw [g2] at z3
            exact ⟨u, g1, .inl (sameS_ok r g3 z3)⟩
          · rw [g2] at z3; cases z3
        · exact ih z2.2 pr hpr
    · cases e
  · have := prEq (Γ := Γ) O H vs ds s Q m b e k
    revert this
    match vs with
    | [x, y] => exact fun h => .inl h
    | [] => exact fun h => h
    | [_] => exact fun h => h
    | _ :: _ :: _ :: _ => exact fun h => h

/-! ### changes in place -/
/-- x.m(..) with x an owned name: what becomes of x, what comes back -/
def MutR (Γ : Gm) (r : V → List V → Hp → VK → Prop) (f : D → List D → Option (D × D)) : Prop :=
  ∀ O H a vs d ds d' z Q, (∀ b, O b → Mut (H b)) → Own Γ O H (.ref a) d → Reps Γ O H vs ds → f d ds = some (d', z) →
    (∀ o v, Own Γ O (upd H a o) (.ref a) d' → Rep Γ O (upd H a o) v z → Q v (upd H a o)) → r (.ref a) vs H Q
def cMut (i : Nat) (pk : D → Bool) (f : D → List D → Option (D × D)) (os : List Opd) : CExp := fun ρ => match ρ[i]? with
  | some (some (d0, true)) => if pk d0 = true then (evO os ρ).bind fun xs ρ1 => (match late os xs ρ1, ρ1[i]? with
    | some ds, some (some (d, true)) => (match f d ds with
      | some (d', z) => .ok (z, false) (ρ1.set i (some (d', true)))
      | none => .stuck)
    | _, _ => .stuck) else .stuck
  | _ => .stuck
theorem SE.mut {i : Nat} {ta : TA} {P : V → Hp → Prop} {pk : D → Bool} {r : V → List V → Hp → VK → Prop} {f : D → List D → Option (D × D)} {os : List Opd} {G : L2.St → VK → V → Hp → Prop} (hP : ∀ O H v d, Bor Γ O H v d → pk d = true → P v H) (hr : MutR Γ r f) (ha : SA Γ W ta os) (he : allE os = true)
    (hG : ∀ σ Q x H1, P x H1 → ta σ H1 (fun xs H2 => r x xs H2 Q) → G σ Q x H1) : SE Γ W (fun σ H Q => tVar i σ H (G σ Q)) (cMut i pk f os) := by
  intro Z σ ρ H Q F k
  unfold cMut at k
  cases q : ρ[i]? with
  | none => rw [q] at k; exact k.elim
  | some w =>
    cases w with
    | none => rw [q] at k; exact k.elim
    | some s =>
      obtain ⟨d0, b⟩ := s
      cases b with
      | false => rw [q] at k; exact k.elim
      | true =>
        rw [q] at k
        simp only at k
        split at k
        · rename_i hpk
          obtain ⟨v, hv, b⟩ := F.get q
          refine ⟨v, hv, hG σ Q v H (hP _ _ _ _ b hpk) (ha.run F ?_)⟩
          revert k
          cases evO os ρ with
          | exc c fs ρ' => exact fun k => k
          | stuck => exact fun k => k
          | ok xs ρ1 =>
            intro k vs H' f' s o
            simp only [Res.bind_ok] at k
            cases q1 : late os xs ρ1 with
            | none => rw [q1] at k; exact k.elim
            | some ds =>
              cases q2 : ρ1[i]? with
              | none => rw [q1, q2] at k; exact k.elim
              | some w =>
                cases w with
                | none => rw [q1, q2] at k; exact k.elim
                | some t =>
                  obtain ⟨d, b'⟩ := t
                  cases b' with
                  | false => rw [q1, q2] at k; exact k.elim
                  | true =>
                    rw [q1, q2] at k
                    simp only at k
                    cases q3 : f d ds with
                    | none => rw [q3] at k; exact k.elim
                    | some z =>
                      obtain ⟨d', z⟩ := z
                      rw [q3] at k
                      obtain ⟨v', hv', ow⟩ := f'.ow i d q2
                      rw [hv] at hv'
                      cases hv'
                      obtain ⟨a, rfl, oa, _⟩ := ow.ref
                      refine hr _ _ _ _ _ _ _ _ Q f'.mu ow (o.reps he q1) q3 fun ob v2 w2 r2 => ?_
                      obtain ⟨g1, g2⟩ := f'.write q2 hv w2
                      have hs : ∀ b, roots σ (ρ1.set i (some (d', true))) b → roots σ ρ1 b := by
                        rintro b ⟨j, e, e1, e2⟩
                        rcases set_some e1 with ⟨rfl, _, _⟩ | ⟨z, _⟩
                        · exact ⟨i, d, q2, e2⟩
                        · exact ⟨j, e, z, e2⟩
                      have hm : ∀ b, OA Z σ ρ1 b → Mut (upd H' a ob b) := by
                        intro b z
                        by_cases eb : b = a
                        · subst eb; exact w2.mut
                        · rw [upd_ne eb]; exact f'.mu b z
                      exact k v2 _ g1 (s.trans g2) (r2.to ⟨fun b u _ z => z.imp id (hs b), hm, fun _ _ h _ => h⟩)
        · exact k.elim
end
end VS

namespace VS
open PySem L2 PySem.Spec
section
variable {Γ : Gm} {W : WX} {Z : Addr → Prop} {σ : L2.St} {ρ : Sl} {O : Addr → Prop} {H : Hp} {v : V} {fx : List Nat}
/-! ### list methods that change -/
def isLst : D → Bool
  | .lst _ => true
  | _ => false
theorem Bor.tyL {d : D} (h : Bor Γ O H v d) (e : isLst d = true) : tyV Γ.K "list" v H := by
  cases d with
  | lst xs => obtain ⟨a, us, rfl, ha, _⟩ := h.lst_inv; exact .inl ⟨rfl, us, SqL.of ha⟩
  | _ => cases e
theorem own_upd_lst {a : Addr} {vs us : List V} {ds ds' : List D} (m : ∀ b, O b → Mut (H b)) (h : Own Γ O H (.ref a) (.lst ds)) (r : Reps Γ O H us ds') : Own Γ O (upd H a (.lst us)) (.ref a) (.lst ds') := by
  cases h with
  | lst _ o _ => exact .lst upd_same o (r.to ⟨fun _ _ _ z => z, m, fun b u hb n => by rw [upd_ne (fun e => n (by rw [e]; exact o))]; exact hb⟩)
theorem ov_upd {a : Addr} {o : HO} (m : ∀ b, O b → Mut (H b)) (oa : O a) : Ov O O H (upd H a o) := ⟨fun _ _ _ z => z, m, fun b u hb n => by rw [upd_ne (fun e => n (by rw [e]; exact oa))]; exact hb⟩
theorem Own.oa {a : Addr} {d : D} (h : Own Γ O H (.ref a) d) : O a := by
  obtain ⟨b, e, o, _⟩ := h.ref
  cases e
  exact o
def fApp : D → List D → Option (D × D)
  | .lst xs, [d] => if xs.length < sizeLine then some (.lst (xs ++ [d]), .non) else none
  | _, _ => none
theorem mrApp : MutR Γ rAppend fApp := by
  intro O H a vs d ds d' z Q m ow r e k
  unfold fApp at e
  split at e
  · rename_i xs y
    split at e
    · rename_i hz
      cases e
      cases r with
      | cons r1 r2 =>
        cases r2
        cases ow with
        | lst h o r =>
          exact ⟨a, _, _, rfl, rfl, h, by rw [r.length]; exact hz, k _ _ (.lst upd_same o ((r.append (.cons r1 .nil)).to (ov_upd m o))) .non⟩
    · cases e
  · cases e
def fPop : D → List D → Option (D × D)
  | .lst xs, [] => match xs[xs.length - 1]? with
    | some d => some (.lst xs.dropLast, d)
    | none => none
  | _, _ => none
theorem mrPop : MutR Γ rPop fPop := by
  intro O H a vs d ds d' z Q m ow r e k
  unfold fPop at e
  split at e
  · rename_i xs
    cases q : xs[xs.length - 1]? with
    | none => rw [q] at e; cases e
    | some y =>
      rw [q] at e
      cases e
      cases r
      cases ow with
      | @lst _ us _ h o r =>
        obtain ⟨v, h1, h2⟩ := r.get q
        rw [← r.length] at h1
        exact ⟨a, us, v, rfl, rfl, h, h1, k _ _ (.lst upd_same o (r.dropLast.to (ov_upd m o))) (h2.to (ov_upd m o))⟩
  · cases e
def fClear : D → List D → Option (D × D)
  | .lst _, [] => some (.lst [], .non)
  | _, _ => none
theorem mrClear : MutR Γ rClear fClear := by
  intro O H a vs d ds d' z Q m ow r e k
  unfold fClear at e
  split at e
  · cases e
    cases r
    cases ow with
    | @lst _ us _ h o r => exact ⟨a, us, rfl, rfl, h, k _ _ (.lst upd_same o .nil) .non⟩
  · cases e
def cApp (i : Nat) (m : CExp) : CExp := cMut i isLst fApp [.e m]
def cPop (i : Nat) : CExp := cMut i isLst fPop []
def cClear (i : Nat) : CExp := cMut i isLst fClear []
theorem SE.app {i : Nat} {te : TE} {m : CExp} (h : SE Γ W te m) : SE Γ W (tBM Γ.K "list" rAppend (tVar i) (tCons te tNil)) (cApp i m) :=
  SE.mut (P := fun x H => tyV Γ.K "list" x H) (G := fun σ Q x H1 => tyV Γ.K "list" x H1 ∧ tCons te tNil σ H1 fun xs H2 => rAppend x xs H2 Q) (fun _ _ _ _ b e => b.tyL e) mrApp (.cons h .nil) rfl (fun σ Q x H1 p h => ⟨p, h⟩)
theorem SE.pop {i : Nat} : SE Γ W (tBM0 Γ.K "list" rPop (tVar i)) (cPop i) :=
  SE.mut (P := fun x H => tyV Γ.K "list" x H) (G := fun σ Q x H1 => tyV Γ.K "list" x H1 ∧ rPop x [] H1 Q) (fun _ _ _ _ b e => b.tyL e) mrPop .nil rfl (fun σ Q x H1 p h => ⟨p, h⟩)
theorem SE.clear {i : Nat} : SE Γ W (tBM0 Γ.K "list" rClear (tVar i)) (cClear i) :=
  SE.mut (P := fun x H => tyV Γ.K "list" x H) (G := fun σ Q x H1 => tyV Γ.K "list" x H1 ∧ rClear x [] H1 Q) (fun _ _ _ _ b e => b.tyL e) mrClear .nil rfl (fun σ Q x H1 p h => ⟨p, h⟩)

/-! ### x[i] = v -/
def rSetD : V → V → V → Hp → (Hp → Prop) → Prop := fun o i v H Q => ∃ a H', o = .ref a ∧ DPut H a i v H' ∧ Q H'
def rSetA : V → V → V → Hp → (Hp → Prop) → Prop := fun o i v H Q => rSetL o i v H Q ∨ rSetD o i v H Q
theorem set_any {X : Cx} (hu : X.A.units + 1 < cLine) : PSet X rSetA := by
  intro pins s σ H o i v ov iv u Q I ro ri rv h
  rcases h with h | ⟨a, H', rfl, g, q⟩
  · exact set_list pins s σ H o i v ov iv u Q I ro ri rv h
  · obtain rfl : ov = Value.ref a := ro
    exact d_setItem hu I g ri rv fun s' I' => ⟨H', I', q⟩
def dStore : D → D → D → Option D
  | .lst xs, .int i, v => (ixN xs.length i).map fun j => .lst (xs.set j v)
  | .dK kvs, k, v => match dkey k with
    | some k => if kvs.length < sizeLine then some (.dK (dPut kvs k v)) else none
    | none => none
  | .dT kvs, .tup ks, v => match dkeys ks with
    | some k => if kvs.length < sizeLine then some (.dT (dPut kvs k v)) else none
    | none => none
  | _, _, _ => none
theorem dHas_all {κ : Type} [DecidableEq κ] {p : κ → Bool} {k : κ} {d : D} (hk : p k = true) : ∀ {ds : List (κ × D)}, (ds.all fun kd => p kd.1) = true → ((dSet ds k d).all fun kd => p kd.1) = true
  | [], _ => rfl
  | (k', e) :: r, h => by
    simp only [List.all_cons, Bool.and_eq_true] at h
    unfold dSet
    simp only [List.all_cons, Bool.and_eq_true]
    refine ⟨?_, dHas_all hk h.2⟩
    split <;> exact h.1
theorem dPut_all {κ : Type} [DecidableEq κ] {p : κ → Bool} {k : κ} {d : D} (hk : p k = true) {ds : List (κ × D)} (h : (ds.all fun kd => p kd.1) = true) : ((dPut ds k d).all fun kd => p kd.1) = true := by
  unfold dPut
  split
  · exact dHas_all hk h
  · simp only [List.all_append, h, List.all_cons, hk, List.all_nil, Bool.and_self]
theorem ksOk_put {k : Key} {d : D} {ds : List (Key × D)} (h : ksOk ds = true) (hk : kOk k = true) : ksOk (dPut ds k d) = true := dPut_all (p := kOk) hk h
theorem ktOk_put {k : List Key} {d : D} {ds : List (List Key × D)} (h : ktOk ds = true) (hk : k.all kOk = true) : ktOk (dPut ds k d) = true := dPut_all (p := fun (k : List Key) => k.all kOk) hk h
theorem Rep.keyOk {y : V} {i : D} {k : Key} (h : Rep Γ O H y i) (e : dkey i = some k) : kOk k = true := by
  cases i with
  | int j => cases e; rfl
  | str x => cases e; exact (Bor.str_inv (.rep h)).2
  | _ => cases e
theorem Reps.keysOk : ∀ {vs : List V} {ds : List D} {ks : List Key}, Reps Γ O H vs ds → dkeys ds = some ks → ks.all kOk = true
  | _, _, _, .nil, e => by cases e; rfl
  | _, _, ks, .cons h r, e => by
    rename_i v vs d ds
    unfold dkeys at e
    cases q1 : dkey d with
    | none => rw [q1] at e; cases e
    | some k =>
      cases q2 : dkeys ds with
      | none => rw [q1, q2] at e; cases e
      | some ks' =>
        rw [q1, q2] at e
        cases e
        simp only [List.all_cons, Rep.keyOk h q1, Reps.keysOk r q2, Bool.and_self]
theorem store_okD {a : Addr} {d i z d' : D} {y v : V} {Q : Hp → Prop} (m : ∀ b, O b → Mut (H b)) (ow : Own Γ O H (.ref a) d) (h2 : Rep Γ O H y i) (h3 : Rep Γ O H v z) (q : dStore d i z = some d')
    (k : ∀ o, Own Γ O (upd H a o) (.ref a) d' → Q (upd H a o)) : rSetA (.ref a) y v H Q := by
  cases ow with
  | @lst _ us ds h o r =>
    cases i with
    | int j =>
      simp only [dStore] at q
      cases q0 : ixN ds.length j with
      | none => rw [q0] at q; cases q
      | some n =>
        rw [q0] at q
        cases q
        rw [Rep.int_inv h2]
        exact .inl ⟨a, us, j, n, rfl, rfl, h, by rw [r.length]; exact q0, k _ (.lst upd_same o ((r.set h3 n).to (ov_upd m o)))⟩
    | _ => cases q
  | @dK _ us ds h o ky r =>
    simp only [dStore] at q
    cases q0 : dkey i with
    | none => rw [q0] at q; cases q
    | some k0 =>
      rw [q0] at q
      simp only at q
      split at q
      · rename_i hz
        cases q
        have R := KR.of ky.1 r
        rw [Bor.key (.rep h2) q0]
        obtain ⟨e1, e2⟩ := (R.put (k := k0) h3).to
        exact .inr ⟨a, _, rfl, DPut.k h (by rw [R.len]; exact hz), k _ (.dK upd_same o ⟨e1, ksOk_put ky.2 (Rep.keyOk h2 q0)⟩ (e2.to (ov_upd m o)))⟩
      · cases q
  | @dT _ us ds h o ky r =>
    cases i with
    | tup ks =>
      simp only [dStore] at q
      cases q0 : dkeys ks with
      | none => rw [q0] at q; cases q
      | some k0 =>
        rw [q0] at q
        simp only at q
        split at q
        · rename_i hz
          cases q
          have R := KR.of ky.1 r
          obtain ⟨b, ws, rfl, hb, rb⟩ := Bor.tup_inv (.rep h2)
          have ew := rb.keys q0
          subst ew
          obtain ⟨e1, e2⟩ := (R.put (k := k0) h3).to
          exact .inr ⟨a, _, rfl, DPut.t h hb (by rw [R.len]; exact hz), k _ (.dT upd_same o ⟨e1, ktOk_put ky.2 (rb.keysOk q0)⟩ (e2.to (ov_upd m o)))⟩
        · cases q
    | _ => cases q
  | obj => cases i <;> cases q
def cSet (i : Nat) (ix val : CExp) : CStm := fun ρ => (val ρ).bind fun s ρ1 => (match ρ1[i]? with
  | some (some _) => (ix ρ1).bind fun k ρ2 => (match ρ2[i]? with
    | some (some (d, true)) => (match dStore d k.1 s.1 with
      | some d' => .ok .nx (ρ2.set i (some (d', true)))
      | none => .stuck)
    | _ => .stuck)
  | _ => .stuck)
theorem SS.set {i : Nat} {ti te : TE} {ix val : CExp} (h1 : SE Γ W ti ix) (h2 : SE Γ W te val) : SS Γ fx W (tAsg te (gSub (tVar i) ti rSetA)) (cSet i ix val) := by
  intro Z σ ρ H E F k
  refine h2.val F ?_
  unfold cSet at k
  revert k
  cases val ρ with
  | exc c fs ρ' => exact fun k => PostX.st k
  | stuck => exact fun k => k
  | ok s ρ1 =>
    intro k v H1 f1 s1 r1
    simp only [Res.bind_ok] at k
    cases q : ρ1[i]? with
    | none => rw [q] at k; exact k.elim
    | some w =>
      cases w with
      | none => rw [q] at k; exact k.elim
      | some t =>
        rw [q] at k
        simp only at k
        obtain ⟨x, hx, _⟩ := f1.get q
        refine ⟨x, hx, h1.val f1 ?_⟩
        revert k
        cases ix ρ1 with
        | exc c fs ρ' => exact fun k => PostX.on s1 (PostX.st k)
        | stuck => exact fun k => k
        | ok ky ρ2 =>
          intro k y H2 f2 s2 r2
          simp only [Res.bind_ok] at k
          cases q2 : ρ2[i]? with
          | none => rw [q2] at k; exact k.elim
          | some w =>
            cases w with
            | none => rw [q2] at k; exact k.elim
            | some t =>
              obtain ⟨d, b⟩ := t
              cases b with
              | false => rw [q2] at k; exact k.elim
              | true =>
                rw [q2] at k
                simp only at k
                cases q3 : dStore d ky.1 s.1 with
                | none => rw [q3] at k; exact k.elim
                | some d' =>
                  rw [q3] at k
                  obtain ⟨v', hv', ow⟩ := f2.ow i d q2
                  rw [hx] at hv'
                  cases hv'
                  obtain ⟨a, rfl, oa, _⟩ := ow.ref
                  refine store_okD f2.mu ow r2 (s2.rep f1 r1) q3 fun o w => ?_
                  obtain ⟨g1, g2⟩ := f2.write q2 hx w
                  exact k σ _ g1 ((s1.trans s2).trans g2) Fx.refl
/-! ### x += e -/
def cAug (i : Nat) (f : List D → Option Slot) (m : CExp) : CStm := fun ρ => match ρ[i]? with
  | some (some _) => (m ρ).bind fun s ρ1 => (match fin f [.v i, .e m] [none, some s.1] ρ1 with
    | .ok z ρ2 => .ok .nx (ρ2.set i (some z))
    | .exc c fs ρ2 => .exc c fs ρ2
    | .stuck => .stuck)
  | _ => .stuck
theorem SS.aug {i : Nat} {te : TE} {ti : TIp} {f : List D → Option Slot} {m : CExp} (hr : PrimR Γ (r2l ti) f) (h : SE Γ W te m) (hi : i ∉ fx) : SS Γ fx W (tAug i te ti) (cAug i f m) := by
  intro Z σ ρ H E F k
  unfold cAug at k
  cases q : ρ[i]? with
  | none => rw [q] at k; exact k.elim
  | some w =>
    cases w with
    | none => rw [q] at k; exact k.elim
    | some t =>
      rw [q] at k
      simp only at k
      obtain ⟨x, hx, _⟩ := F.get q
      refine ⟨x, hx, h.val F ?_⟩
      revert k
      cases m ρ with
      | exc c fs ρ' => exact fun k => PostX.st k
      | stuck => exact fun k => k
      | ok s ρ1 =>
        intro k y H1 f1 s1 r1
        simp only [Res.bind_ok] at k
        refine prim_end (W := W) (r := r2l ti) (vs := [x, y]) hr f1 (.v hx (.e (m := m) r1 .nil)) ?_
        revert k
        cases fin f [.v i, .e m] [none, some s.1] ρ1 with
        | exc c fs ρ' => exact fun k => PostX.on s1 (PostX.st k)
        | stuck => exact fun k => k
        | ok z ρ2 =>
          obtain ⟨d, b⟩ := z
          cases b with
          | false => exact fun k v H' f' s r => k _ H' (f'.put r) ((s1.trans s).trans Step.put) (Fx.put hi)
          | true => exact fun k a H' f' s n q r => k _ H' (f'.putOwn n r) ((s1.trans s).putOwn (s1.root q)) (Fx.put hi)

/-! ### what is walked -/
def itemsD : D → Option (List D)
  | .tup xs => some xs
  | .ktup xs => some xs
  | .lst xs => some xs
  | .scr ns => some (ns.map D.int)
  | _ => none
/-- lists: a value that is not owned (an owned name is let go) -/
def cItL (m : CExp) : CIt := fun ρ => (m ρ).bind fun s ρ1 => match s.1 with
  | .lst xs => .ok xs ρ1
  | .scr ns => .ok (ns.map D.int) ρ1
  | _ => .stuck
def cItT (m : CExp) : CIt := fun ρ => (m ρ).bind fun s ρ1 => match s.1 with
  | .tup xs => .ok xs ρ1
  | .ktup xs => .ok xs ρ1
  | _ => .stuck
theorem wk_list {a : Addr} {ds : List D} : Wk Γ (Itl Γ.K a) (fun O H => ∃ vs, SqL Γ.K H a vs ∧ Reps Γ O H vs ds ∧ (H a = some (.lst vs) ∧ ¬ O a ∨ Scr Γ.K H a (vs.filterMap fun v => match v with | .int i => some i | _ => none) ∧ (vs = (vs.filterMap fun v => match v with | .int i => some i | _ => none).map V.int))) ds where
  pres := fun O O' H H' ⟨vs, h1, h2, h3⟩ ov => by
    refine ⟨vs, ?_, h2.to ov, ?_⟩
    · rcases h3 with ⟨h3, n⟩ | ⟨h3, e⟩
      · exact SqL.of (ov.keep a _ h3 n)
      · rw [e]; exact (ov.scr h3).sq
    · rcases h3 with ⟨h3, n⟩ | ⟨h3, e⟩
      · exact .inl ⟨ov.keep a _ h3 n, ov.not h3 n⟩
      · exact .inr ⟨ov.scr h3, e⟩
  item := fun O H i d m ⟨vs, h1, h2, _⟩ hd => by
    obtain ⟨v, e1, r⟩ := h2.get hd
    refine ⟨⟨vs, v, h1, e1⟩, fun x H' y => ?_⟩
    obtain ⟨e, y⟩ := y
    subst e
    have := y vs h1
    rw [e1] at this
    cases this
    exact ⟨Ext.refl _, r⟩
  done := fun O H ⟨vs, h1, h2, _⟩ => ⟨vs, h1, by rw [h2.length]; exact Nat.le_refl _⟩
theorem ints_fm (ns : List Int) : ((ns.map V.int).filterMap fun v => match v with | .int i => some i | _ => none) = ns := by
  induction ns with
  | nil => rfl
  | cons n r ih => simp [ih]
theorem SI.list {tl : TE} {m : CExp} (h : SE Γ W tl m) : SI Γ W (iList Γ.K tl) (cItL m) := by
  intro Z σ ρ H R F k
  refine h.val F ?_
  unfold cItL at k
  revert k
  cases m ρ with
  | exc c fs ρ' => exact fun k => k
  | stuck => exact fun k => k
  | ok s ρ1 =>
    obtain ⟨d, b⟩ := s
    cases d with
    | lst xs =>
      intro k v H1 f1 s1 r
      cases r with
      | @lst a vs _ h n r => exact ⟨a, rfl, ⟨vs, SqL.of h⟩, k _ _ H1 f1 s1 wk_list ⟨vs, SqL.of h, r, .inl ⟨h, n⟩⟩⟩
    | scr ns =>
      intro k v H1 f1 s1 r
      cases r with
      | @scr a _ h =>
        refine ⟨a, rfl, ⟨_, h.sq⟩, k _ _ H1 f1 s1 wk_list ⟨_, h.sq, ints_reps ns, .inr ⟨?_, ?_⟩⟩⟩
        · rw [ints_fm]; exact h
        · rw [ints_fm]
    | _ => exact fun k => k.elim
theorem wk_tup {a : Addr} {ds : List D} : Wk Γ (Itt Γ.K a) (fun O H => ∃ vs, (H a = some (.tup vs) ∨ KT Γ.K a vs) ∧ Reps Γ O H vs ds) ds where
  pres := fun O O' H H' ⟨vs, h1, h2⟩ ov => ⟨vs, h1.imp (fun h => ov.tup h) id, h2.to ov⟩
  item := fun O H i d m ⟨vs, h1, h2⟩ hd => by
    obtain ⟨v, e1, r⟩ := h2.get hd
    have hq : SqT Γ.K H a vs := by
      rcases h1 with h1 | h1
      · exact SqT.of h1
      · exact .inr h1
    refine ⟨⟨vs, v, hq, e1⟩, fun x H' y => ?_⟩
    obtain ⟨e, y⟩ := y
    subst e
    have := y vs hq
    rw [e1] at this
    cases this
    exact ⟨Ext.refl _, r⟩
  done := fun O H ⟨vs, h1, h2⟩ => ⟨vs, by
      rcases h1 with h1 | h1
      · exact SqT.of h1
      · exact .inr h1, by rw [h2.length]; exact Nat.le_refl _⟩
theorem SI.tup {tl : TE} {m : CExp} (h : SE Γ W tl m) : SI Γ W (iTup Γ.K tl) (cItT m) := by
  intro Z σ ρ H R F k
  refine h.val F ?_
  unfold cItT at k
  revert k
  cases m ρ with
  | exc c fs ρ' => exact fun k => k
  | stuck => exact fun k => k
  | ok s ρ1 =>
    obtain ⟨d, b⟩ := s
    cases d with
    | tup xs =>
      intro k v H1 f1 s1 r
      cases r with
      | @tup a vs _ h r => exact ⟨a, rfl, ⟨vs, SqT.of h⟩, k _ _ H1 f1 s1 wk_tup ⟨vs, .inl h, r⟩⟩
    | ktup xs =>
      intro k v H1 f1 s1 r
      cases r with
      | @ktup a vs _ h r => exact ⟨a, rfl, ⟨vs, .inr h⟩, k _ _ H1 f1 s1 wk_tup ⟨vs, .inr h, r⟩⟩
    | _ => exact fun k => k.elim
def rngD (lo : Int) (n : Nat) : List D := (List.range n).map fun (i : Nat) => .int (lo + (i : Int))
def cItR1 (o : Opd) : CIt := fun ρ => (evO [o] ρ).bind fun xs ρ1 => match late [o] xs ρ1 with
  | some [.int n] => if n.natAbs < 2 ^ 62 then .ok (rngD 0 n.toNat) ρ1 else .stuck
  | _ => .stuck
def cItR2 (o o2 : Opd) : CIt := fun ρ => (evO [o, o2] ρ).bind fun xs ρ1 => match late [o, o2] xs ρ1 with
  | some [.int m, .int n] => if m.natAbs < 2 ^ 62 ∧ n.natAbs < 2 ^ 62 then .ok (rngD m (n - m).toNat) ρ1 else .stuck
  | _ => .stuck
theorem rngD_len (lo : Int) (n : Nat) : (rngD lo n).length = n := by simp [rngD]
theorem wk_rng {lo : Int} {n : Nat} : Wk Γ (Itr lo n) (fun _ _ => True) (rngD lo n) where
  pres := fun _ _ _ _ _ _ => trivial
  item := fun O H i d m _ hd => by
    have hl : i < n := by have := lt_of_at hd; rwa [rngD_len] at this
    have e : d = .int (lo + (i : Int)) := by
      unfold rngD at hd
      rw [List.getElem?_map, List.getElem?_range hl] at hd
      exact (Option.some.inj hd).symm
    subst e
    refine ⟨hl, fun x H' y => ?_⟩
    obtain ⟨e1, e2⟩ := y
    subst e1 e2
    exact ⟨Ext.refl _, .int _⟩
  done := fun O H _ => by rw [rngD_len]; exact Nat.le_refl _
theorem SI.range1 {te : TE} {o : Opd} (h : SO Γ W te o) : SI Γ W (iRng1 (tCons te tNil)) (cItR1 o) := by
  intro Z σ ρ H R F k
  refine (SA.cons h .nil).run F ?_
  unfold cItR1 at k
  revert k
  cases evO [o] ρ with
  | exc c fs ρ' => exact fun k => k
  | stuck => exact fun k => k
  | ok xs ρ1 =>
    intro k vs H1 f1 s1 r
    simp only [Res.bind_ok] at k
    split at k
    · rename_i n q
      split at k
      · rename_i hz
        obtain ⟨v, rfl, b⟩ := bors1 (r.late f1 q)
        rw [b.int_inv]
        exact ⟨n, rfl, by omega, by omega, k _ _ H1 f1 s1 wk_rng trivial⟩
      · exact k.elim
    · exact k.elim
theorem SI.range2 {te tf : TE} {o o2 : Opd} (h : SO Γ W te o) (h2 : SO Γ W tf o2) : SI Γ W (iRng2 (tCons te (tCons tf tNil))) (cItR2 o o2) := by
  intro Z σ ρ H R F k
  refine (SA.cons h (.cons h2 .nil)).run F ?_
  unfold cItR2 at k
  revert k
  cases evO [o, o2] ρ with
  | exc c fs ρ' => exact fun k => k
  | stuck => exact fun k => k
  | ok xs ρ1 =>
    intro k vs H1 f1 s1 r
    simp only [Res.bind_ok] at k
    split at k
    · rename_i m n q
      split at k
      · rename_i hz
        obtain ⟨v, w, rfl, b, b2⟩ := bors2 (r.late f1 q)
        rw [b.int_inv, b2.int_inv]
        exact ⟨m, n, rfl, ⟨by omega, by omega, by omega, by omega⟩, k _ _ H1 f1 s1 wk_rng trivial⟩
      · exact k.elim
    · exact k.elim
end
end VS

namespace VS
open PySem L2 PySem.Spec
section
variable {Γ : Gm} {W : WX} {Z : Addr → Prop} {σ : L2.St} {ρ : Sl} {O : Addr → Prop} {H : Hp} {v : V} {fx : List Nat}
/-! ### list comprehensions, one for -/
def wipeS (ρ : Sl) : List Nat → Sl
  | [] => ρ
  | v :: vs => (wipeS ρ vs).set v none
/-- the slots of the block's names as they were -/
def backS (ρ0 : Sl) (ρ : Sl) : List Nat → Sl
  | [] => ρ
  | v :: vs => match ρ0[v]? with
    | some x => (backS ρ0 ρ vs).set v x
    | none => backS ρ0 ρ vs
def noOwn (ρ : Sl) : List Nat → Bool
  | [] => true
  | v :: vs => (match ρ[v]? with
    | some (some (_, true)) => false
    | _ => true) && noOwn ρ vs
/-- no exception leaves a comprehension -/
def Res.calm {α : Type} : Res α → Res α
  | .exc _ _ _ => .stuck
  | r => r
/-- the turns: tests, then the element; acc what is made so far -/
def lcGo (tg : D → Sl → Option Sl) (c : CTst) (e : CExp) (vs : List Nat) : List D → List D → Sl → Res (List D)
  | [], acc, ρ => .ok acc ρ
  | d :: ds, acc, ρ => match tg d ρ with
    | none => .stuck
    | some ρ1 => match c ρ1 with
      | .ok true ρ2 => (match e ρ2 with
        | .ok s ρ3 => if acc.length < sizeLine then lcGo tg c e vs ds (acc ++ [s.1]) (wipeS ρ3 vs) else .stuck
        | _ => .stuck)
      | .ok false ρ2 => lcGo tg c e vs ds acc (wipeS ρ2 vs)
      | _ => .stuck
def cLc (it : CIt) (tg : D → Sl → Option Sl) (c : CTst) (e : CExp) (vs : List Nat) : CExp := fun ρ => (it ρ).bind fun ds ρ1 => if noOwn ρ1 vs = true then (match lcGo tg c e vs ds [] (wipeS ρ1 vs) with
  | .ok acc ρ2 => .ok (.lst acc, true) (backS ρ1 ρ2 vs)
  | _ => .stuck) else .stuck
def cYes : CTst := fun ρ => .ok true ρ
theorem ST.yes : ST Γ W tYes cYes := fun Z σ ρ H Q f k => k H f Step.refl
theorem wipe_off {i : Nat} : ∀ {vs : List Nat}, i ∉ vs → (wipe σ vs)[i]? = σ[i]?
  | [], _ => rfl
  | v :: vs, h => by
    unfold wipe
    rw [set_off (fun e => h (by rw [e]; exact List.mem_cons_self))]
    exact wipe_off fun z => h (List.mem_cons_of_mem _ z)
theorem wipeS_len : ∀ {vs : List Nat}, (wipeS ρ vs).length = ρ.length
  | [] => rfl
  | v :: vs => by unfold wipeS; rw [List.length_set, wipeS_len]
theorem wipeS_some {i : Nat} {s : Slot} : ∀ {vs : List Nat}, (wipeS ρ vs)[i]? = some (some s) → ρ[i]? = some (some s) ∧ i ∉ vs
  | [], h => ⟨h, by simp⟩
  | v :: vs, h => by
    unfold wipeS at h
    rcases set_some h with ⟨_, z, _⟩ | ⟨z, ne⟩
    · cases z
    · obtain ⟨h1, h2⟩ := wipeS_some z
      exact ⟨h1, by simp [h2, Ne.symm ne]⟩
theorem backS_len {ρ0 : Sl} : ∀ {vs : List Nat}, (backS ρ0 ρ vs).length = ρ.length
  | [] => rfl
  | v :: vs => by
    unfold backS
    split
    · rw [List.length_set, backS_len]
    · exact backS_len
theorem backS_off {ρ0 : Sl} {i : Nat} : ∀ {vs : List Nat}, i ∉ vs → (backS ρ0 ρ vs)[i]? = ρ[i]?
  | [], _ => rfl
  | v :: vs, h => by
    have h2 : i ∉ vs := fun z => h (List.mem_cons_of_mem _ z)
    unfold backS
    split
    · rw [set_off (fun e => h (by rw [e]; exact List.mem_cons_self))]
      exact backS_off h2
    · exact backS_off h2
theorem backS_in {ρ0 : Sl} (hl : ρ0.length = ρ.length) {i : Nat} : ∀ {vs : List Nat}, i ∈ vs → (backS ρ0 ρ vs)[i]? = ρ0[i]?
  | [], h => nomatch h
  | v :: vs, h => by
    unfold backS
    by_cases e : v = i
    · subst e
      cases q : ρ0[v]? with
      | some x => exact set_at (by rw [backS_len, ← hl]; exact lt_of_at q)
      | none =>
        have : ρ0.length ≤ v := List.getElem?_eq_none_iff.mp q
        exact List.getElem?_eq_none_iff.mpr (by rw [backS_len, ← hl]; exact this)
    · have h2 : i ∈ vs := by
        rcases List.mem_cons.mp h with z | z
        · exact absurd z.symm e
        · exact z
      split
      · rw [set_off e]; exact backS_in hl h2
      · exact backS_in hl h2
theorem noOwn_at {i : Nat} {d : D} : ∀ {vs : List Nat}, noOwn ρ vs = true → i ∈ vs → ρ[i]? ≠ some (some (d, true))
  | [], _, h => nomatch h
  | v :: vs, hn, h => by
    unfold noOwn at hn
    obtain ⟨h1, h2⟩ := Bool.and_eq_true_iff.mp hn
    rcases List.mem_cons.mp h with e | h
    · subst e
      intro q
      rw [q] at h1
      cases h1
    · exact noOwn_at h2 h
/-- another list of values that agrees on the known slots -/
theorem roots_agree {σ' : L2.St} (h : ∀ (i : Nat) s, ρ[i]? = some (some s) → σ'[i]? = σ[i]?) (a : Addr) : roots σ' ρ a ↔ roots σ ρ a := by
  constructor
  · rintro ⟨i, d, e1, e2⟩; exact ⟨i, d, e1, by rw [← h i _ e1]; exact e2⟩
  · rintro ⟨i, d, e1, e2⟩; exact ⟨i, d, e1, by rw [h i _ e1]; exact e2⟩
theorem FR.agree {σ' : L2.St} (f : FR Γ Z σ ρ H) (hl : σ'.length = σ.length) (h : ∀ (i : Nat) s, ρ[i]? = some (some s) → σ'[i]? = σ[i]?) : FR Γ Z σ' ρ H := by
  have oa : OA Z σ' ρ = OA Z σ ρ := by
    funext a
    exact propext ⟨fun z => z.imp id (roots_agree h a).mp, fun z => z.imp id (roots_agree h a).mpr⟩
  refine ⟨hl.trans f.len, by rw [oa]; exact f.mu, fun i d e => ?_, fun i d e => ?_, fun i j d e a h1 h2 h3 h4 => ?_, fun a z r => f.dis a z ((roots_agree h a).mp r)⟩
  · rw [oa, h i _ e]; exact f.sh i d e
  · rw [oa, h i _ e]; exact f.ow i d e
  · rw [h i _ h1] at h3
    rw [h j _ h2] at h4
    exact f.inj i j d e a h1 h2 h3 h4
theorem FR.wipe (f : FR Γ Z σ ρ H) (vs : List Nat) : FR Γ Z (L2.wipe σ vs) (wipeS ρ vs) H :=
  (f.sub (ρ' := wipeS ρ vs) wipeS_len fun i s h => .inl (wipeS_some h).1).agree (wipe_length σ vs) fun i s h => wipe_off (wipeS_some h).2
theorem Step.wipe (vs : List Nat) : Step σ ρ H (L2.wipe σ vs) (wipeS ρ vs) H := ⟨fun _ _ h _ => h, fun _ _ h => ⟨_, h⟩, fun a ⟨i, d, e1, e2⟩ => by
  obtain ⟨q1, q2⟩ := wipeS_some e1
  rw [wipe_off q2] at e2
  exact .inl ⟨i, d, q1, e2⟩⟩
theorem wipe_eq {σ2 : L2.St} {vs : List Nat} (hl : σ2.length = σ.length) (h : ∀ i, i ∉ vs → σ2[i]? = (L2.wipe σ vs)[i]?) : L2.wipe σ2 vs = L2.wipe σ vs := by
  have hin : ∀ (τ : L2.St) (vs : List Nat) (i : Nat), i ∈ vs → i < τ.length → (L2.wipe τ vs)[i]? = some none := by
    intro τ vs
    induction vs with
    | nil => intro i h; cases h
    | cons v vs ih =>
      intro i hi hl
      unfold L2.wipe
      by_cases e : v = i
      · subst e; exact set_at (by rw [wipe_length]; exact hl)
      · rw [set_off e]
        rcases List.mem_cons.mp hi with z | z
        · exact absurd z.symm e
        · exact ih i z hl
  refine List.ext_getElem? fun i => ?_
  by_cases hi : i ∈ vs
  · by_cases hb : i < σ.length
    · rw [hin σ2 vs i hi (by rw [hl]; exact hb), hin σ vs i hi hb]
    · rw [List.getElem?_eq_none_iff.mpr (by rw [wipe_length, hl]; omega), List.getElem?_eq_none_iff.mpr (by rw [wipe_length]; omega)]
  · rw [wipe_off hi]; exact h i hi
theorem wipe_wipe (vs : List Nat) : L2.wipe (L2.wipe σ vs) vs = L2.wipe σ vs := wipe_eq (wipe_length σ vs) fun _ _ => rfl
/-- behind the comprehension: the frame as it was -/
theorem FR.back {ρn : Sl} {Hn : Hp} {p : Addr} {vs : List Nat} (f : FR Γ Z σ ρ H) (ho : noOwn ρ vs = true) (hp : H p = none) (fn : FR Γ (Zadd Z p) (L2.wipe σ vs) ρn Hn) (st : Step σ ρ H (L2.wipe σ vs) ρn Hn) (hw : ∀ (i : Nat) s, ρn[i]? = some (some s) → i ∉ vs) :
    FR Γ (Zadd Z p) σ (backS ρ ρn vs) Hn ∧ Step σ ρ H σ (backS ρ ρn vs) Hn ∧ OA (Zadd Z p) σ (backS ρ ρn vs) = OA (Zadd Z p) (L2.wipe σ vs) ρn := by
  have hl : ρ.length = ρn.length := by rw [← f.len, ← fn.len, wipe_length]
  have rt : ∀ a, roots σ (backS ρ ρn vs) a ↔ roots (L2.wipe σ vs) ρn a := fun a => by
    constructor
    · rintro ⟨i, d, e1, e2⟩
      by_cases hi : i ∈ vs
      · rw [backS_in hl hi] at e1
        exact absurd e1 (noOwn_at ho hi)
      · rw [backS_off hi] at e1
        exact ⟨i, d, e1, by rw [wipe_off hi]; exact e2⟩
    · rintro ⟨i, d, e1, e2⟩
      have hi := hw i _ e1
      rw [wipe_off hi] at e2
      exact ⟨i, d, by rw [backS_off hi]; exact e1, e2⟩
  have oa : OA (Zadd Z p) σ (backS ρ ρn vs) = OA (Zadd Z p) (L2.wipe σ vs) ρn := by
    funext a
    exact propext ⟨fun z => z.imp id (rt a).mp, fun z => z.imp id (rt a).mpr⟩
  refine ⟨⟨by rw [backS_len, ← hl]; exact f.len, by rw [oa]; exact fn.mu, fun i d e => ?_, fun i d e => ?_, fun i j d e a h1 h2 h3 h4 => ?_, fun a z r => fn.dis a z ((rt a).mp r)⟩, ⟨st.keep, st.dom, fun a z => st.new a ((rt a).mp z)⟩, oa⟩
  · rw [oa]
    by_cases hi : i ∈ vs
    · rw [backS_in hl hi] at e
      obtain ⟨v, e1, r⟩ := f.sh i d e
      refine ⟨v, e1, r.to ⟨fun a o ha z => ?_, f.mu, fun a o ha n => st.keep a o ha fun z => n (.inr z)⟩⟩
      rcases z with (z | z) | z
      · exact .inl z
      · rw [z, hp] at ha; cases ha
      · rcases st.new a z with q | q
        · exact .inr q
        · rw [ha] at q; cases q
    · rw [backS_off hi] at e
      obtain ⟨v, e1, r⟩ := fn.sh i d e
      exact ⟨v, by rw [← wipe_off hi]; exact e1, r⟩
  · rw [oa]
    by_cases hi : i ∈ vs
    · rw [backS_in hl hi] at e
      exact absurd e (noOwn_at ho hi)
    · rw [backS_off hi] at e
      obtain ⟨v, e1, r⟩ := fn.ow i d e
      exact ⟨v, by rw [← wipe_off hi]; exact e1, r⟩
  · by_cases hi : i ∈ vs
    · rw [backS_in hl hi] at h1
      exact absurd h1 (noOwn_at ho hi)
    · by_cases hj : j ∈ vs
      · rw [backS_in hl hj] at h2
        exact absurd h2 (noOwn_at ho hj)
      · rw [backS_off hi] at h1
        rw [backS_off hj] at h2
        exact fn.inj i j d e a h1 h2 (by rw [wipe_off hi]; exact h3) (by rw [wipe_off hj]; exact h4)
/-- the list that is being made grows -/
theorem FR.grow {τ : L2.St} {p : Addr} {o : HO} (f : FR Γ (Zadd Z p) τ ρ H) (mo : Mut (some o)) : FR Γ (Zadd Z p) τ ρ (upd H p o) ∧ Ov (OA (Zadd Z p) τ ρ) (OA (Zadd Z p) τ ρ) H (upd H p o) := by
  have hz : OA (Zadd Z p) τ ρ p := .inl (.inr rfl)
  have ov : Ov (OA (Zadd Z p) τ ρ) (OA (Zadd Z p) τ ρ) H (upd H p o) := ⟨fun _ _ _ z => z, f.mu, fun b u hb n => by rw [upd_ne (fun e => n (by rw [e]; exact hz))]; exact hb⟩
  refine ⟨⟨f.len, fun a z => ?_, fun i d e => ?_, fun i d e => ?_, f.inj, f.dis⟩, ov⟩
  · by_cases e : a = p
    · subst e; rw [upd_same]; exact mo
    · rw [upd_ne e]; exact f.mu a z
  · obtain ⟨v, e1, r⟩ := f.sh i d e
    exact ⟨v, e1, r.to ov⟩
  · obtain ⟨v, e1, r⟩ := f.ow i d e
    obtain ⟨a, rfl, oa, _⟩ := r.ref
    have na : a ≠ p := fun q => f.dis p (.inr rfl) (by rw [← q]; exact ⟨i, d, e, e1⟩)
    exact ⟨_, e1, r.to ov oa fun u hu => by rw [upd_ne na]; exact hu⟩
abbrev WF : WX := fun _ _ _ _ => False
def LenG (tg : D → Sl → Option Sl) : Prop := ∀ d ρ ρ', tg d ρ = some ρ' → ρ'.length = ρ.length
def LenGs (tg : List D → Sl → Option Sl) : Prop := ∀ d ρ ρ', tg d ρ = some ρ' → ρ'.length = ρ.length
theorem LenG.name {i : Nat} : LenG (tgN i) := fun d ρ ρ' e => by cases e; simp
theorem LenGs.nil : LenGs tgNil := fun d ρ ρ' e => by
  cases d with
  | nil => cases e; rfl
  | cons => cases e
theorem LenGs.cons {a : D → Sl → Option Sl} {b : List D → Sl → Option Sl} (h1 : LenG a) (h2 : LenGs b) : LenGs (tgCons a b) := fun d ρ ρ' e => by
  cases d with
  | nil => cases e
  | cons x r =>
    unfold tgCons at e
    simp only at e
    cases q : a x ρ with
    | none => rw [q] at e; cases e
    | some ρ1 => rw [q] at e; exact (h2 _ _ _ e).trans (h1 _ _ _ q)
theorem LenG.tup {n : Nat} {b : List D → Sl → Option Sl} (h : LenGs b) : LenG (tgTup n b) := fun d ρ ρ' e => by
  unfold tgTup at e
  split at e
  · split at e
    · exact h _ _ _ e
    · cases e
  · split at e
    · exact h _ _ _ e
    · cases e
  · cases e
theorem SE.lc {wi : TI} {g : TG} {tt : TT} {te : TE} {it : CIt} {tg : D → Sl → Option Sl} {c : CTst} {e : CExp} {vs : List Nat} (hi : SI Γ W wi it) (hg : ∀ fx', (∀ j ∈ vs, j ∉ fx') → SG Γ fx' g tg) (hlen : LenG tg) (hc : ST Γ WF tt c) (he : SE Γ WF te e) : SE Γ W (tLc wi g tt te vs) (cLc it tg c e vs) := by
  intro Z σ ρ H Q F k
  refine hi Z σ ρ H _ F ?_
  unfold cLc at k
  revert k
  cases it ρ with
  | exc c fs ρ' => exact fun k => k
  | stuck => exact fun k => k
  | ok ds ρ1 =>
    intro k J G H1 f1 s1 wk g1 p hp
    simp only [Res.bind_ok] at k
    split at k
    · rename_i hno
      -- the end, from the turns' end
      have fin : ∀ acc ρn Hn us, lcGo tg c e vs ds [] (wipeS ρ1 vs) = .ok acc ρn → FR Γ (Zadd Z p) (L2.wipe σ vs) ρn Hn → Step σ ρ1 H1 (L2.wipe σ vs) ρn Hn → (∀ (i : Nat) s, ρn[i]? = some (some s) → i ∉ vs) → Hn p = some (.lst us) → Reps Γ (OA (Zadd Z p) (L2.wipe σ vs) ρn) Hn us acc → Q (.ref p) Hn := by
        intro acc ρn Hn us e1 fn st hw hpn r
        rw [e1] at k
        obtain ⟨b1, b2, b3⟩ := f1.back hno hp fn st hw
        refine k p Hn b1 (s1.trans b2) (fun z => f1.nfresh hp (.inl z)) (.inl (s1.free hp)) ?_
        rw [b3]
        exact .lst hpn (.inl (.inr rfl)) r
      have hgo : ∃ acc ρn, lcGo tg c e vs ds [] (wipeS ρ1 vs) = .ok acc ρn := by
        revert k
        cases lcGo tg c e vs ds [] (wipeS ρ1 vs) with
        | ok acc ρn => exact fun _ => ⟨acc, ρn, rfl⟩
        | exc => exact fun k => k.elim
        | stuck => exact fun k => k.elim
      obtain ⟨accN, ρN, hN⟩ := hgo
      clear k
      have fw := f1.wipe vs
      have fz : FR Γ (Zadd Z p) (L2.wipe σ vs) (wipeS ρ1 vs) (upd H1 p (.lst [])) := fw.zadd (Ext.new hp) hp (by rw [upd_same]; trivial)
      have gz : G (OA (Zadd Z p) (L2.wipe σ vs) (wipeS ρ1 vs)) (upd H1 p (.lst [])) := by
        refine wk.pres _ _ _ _ g1 ⟨fun a o ha z => ?_, f1.mu, fun a o ha _ => (Ext.new hp).ex a o ha⟩
        rcases z with (z | z) | z
        · exact .inl z
        · rw [z, hp] at ha; cases ha
        · rcases (Step.wipe (σ := σ) (ρ := ρ1) (H := H1) vs).new a z with q | q
          · exact .inr q
          · rw [ha] at q; cases q
      refine ⟨fun i m H' => m = ds.length - i ∧ i ≤ ds.length ∧ ∃ acc ρi us, FR Γ (Zadd Z p) (L2.wipe σ vs) ρi H' ∧ Step σ ρ1 H1 (L2.wipe σ vs) ρi H' ∧ (∀ (j : Nat) s, ρi[j]? = some (some s) → j ∉ vs) ∧ G (OA (Zadd Z p) (L2.wipe σ vs) ρi) H' ∧ H' p = some (.lst us) ∧ Reps Γ (OA (Zadd Z p) (L2.wipe σ vs) ρi) H' us acc ∧ lcGo tg c e vs (ds.drop i) acc ρi = .ok accN ρN,
        ⟨ds.length, rfl, Nat.zero_le _, [], wipeS ρ1 vs, [], fz, (Step.wipe vs).trans (Ext.new hp).step, fun j s h => (wipeS_some h).2, gz, upd_same, .nil, hN⟩, ?_⟩
      rintro i m H' ⟨rfl, hle, acc, ρi, us, fi, si, wi', gi, hpi, ri, ki⟩
      by_cases hlt : i < ds.length
      · right
        have hd : ds[i]? = some ds[i] := List.getElem?_eq_getElem hlt
        obtain ⟨go, yl⟩ := wk.item _ H' i _ fi.mu gi hd
        refine ⟨go, fun H2 => ∃ acc ρi us, FR Γ (Zadd Z p) (L2.wipe σ vs) ρi H2 ∧ Step σ ρ1 H1 (L2.wipe σ vs) ρi H2 ∧ (∀ (j : Nat) s, ρi[j]? = some (some s) → j ∉ vs) ∧ G (OA (Zadd Z p) (L2.wipe σ vs) ρi) H2 ∧ H2 p = some (.lst us) ∧ Reps Γ (OA (Zadd Z p) (L2.wipe σ vs) ρi) H2 us acc ∧ lcGo tg c e vs (ds.drop (i + 1)) acc ρi = .ok accN ρN,
          fun H2 h => ⟨ds.length - (i + 1), by omega, rfl, hlt, h⟩, fun x H2 hy => ?_⟩
        obtain ⟨ex, rx⟩ := yl x H2 hy
        have f2 := fi.ext ex
        have s2 : Step (L2.wipe σ vs) ρi H' (L2.wipe σ vs) ρi H2 := ex.step
        rw [List.drop_eq_getElem_cons hlt] at ki
        unfold lcGo at ki
        cases q : tg ds[i] ρi with
        | none => rw [q] at ki; cases ki
        | some ρ3 =>
          rw [q] at ki
          simp only at ki
          refine hg ((List.range σ.length).filter fun j => decide (j ∉ vs)) (fun j hj hq => ?_) (Zadd Z p) (L2.wipe σ vs) ρi H2 x _ ρ3 _ f2 rx q fun σ3 f3 s3 x3 => ?_
          · have := (List.mem_filter.mp hq).2
            simp [hj] at this
          have l3 : σ3.length = σ.length := by
            have := f3.len
            have h2 := f2.len
            rw [wipe_length] at h2
            have h3 : ρ3.length = ρi.length := hlen _ _ _ q
            omega
          have w3 : L2.wipe σ3 vs = L2.wipe σ vs := wipe_eq l3 fun j hj => by
            by_cases hb : j < σ.length
            · exact x3 j (List.mem_filter.mpr ⟨List.mem_range.mpr hb, decide_eq_true hj⟩)
            · rw [List.getElem?_eq_none_iff.mpr (by omega), List.getElem?_eq_none_iff.mpr (by rw [wipe_length]; omega)]
          refine ⟨w3, hc (Zadd Z p) σ3 ρ3 H2 _ f3 ?_⟩
          have s23 := s2.trans s3
          revert ki
          cases c ρ3 with
          | exc => intro ki; cases ki
          | stuck => intro ki; cases ki
          | ok b ρ4 =>
            cases b with
            | false =>
              intro ki H4 f4 s4
              have fw4 := f4.wipe vs
              rw [w3] at fw4
              have sw : Step (L2.wipe σ vs) ρi H' (L2.wipe σ vs) (wipeS ρ4 vs) H4 := by
                have := (s23.trans s4).trans (Step.wipe vs)
                rw [w3] at this
                exact this
              refine ⟨acc, wipeS ρ4 vs, us, fw4, si.trans sw, fun j s h => (wipeS_some h).2, wk.pres _ _ _ _ gi (sw.ov fi), sw.keep p _ hpi (fi.dis p (.inr rfl)), ri.to (sw.ov fi), ki⟩
            | true =>
              intro ki H4 f4 s4
              show te σ3 H4 _
              refine he.val f4 ?_
              simp only at ki
              revert ki
              cases e ρ4 with
              | exc => intro ki; cases ki
              | stuck => intro ki; cases ki
              | ok s ρ5 =>
                intro ki y H5 f5 s5 r5
                simp only at ki
                split at ki
                · rename_i hz
                  have s25 := (s23.trans s4).trans s5
                  have np : ¬ roots (L2.wipe σ vs) ρi p := fi.dis p (.inr rfl)
                  have hp5 : H5 p = some (.lst us) := s25.keep p _ hpi np
                  refine ⟨us, hp5, by rw [ri.length]; exact hz, ?_⟩
                  have fw5 := f5.wipe vs
                  rw [w3] at fw5
                  have sw : Step (L2.wipe σ vs) ρi H' (L2.wipe σ vs) (wipeS ρ5 vs) H5 := by
                    have := s25.trans (Step.wipe vs)
                    rw [w3] at this
                    exact this
                  obtain ⟨fg, og⟩ := fw5.grow (o := .lst (us ++ [y])) trivial
                  have sg : Step σ ρ1 H1 (L2.wipe σ vs) (wipeS ρ5 vs) (upd H5 p (.lst (us ++ [y]))) := by
                    have s6 := si.trans sw
                    refine ⟨fun a o ha n => ?_, fun a o ha => ?_, s6.new⟩
                    · rw [upd_ne (ne_of_none ha hp)]; exact s6.keep a o ha n
                    · rw [upd_ne (ne_of_none ha hp)]; exact s6.dom a o ha
                  have ry : Rep Γ (OA (Zadd Z p) (L2.wipe σ vs) (wipeS ρ5 vs)) H5 y s.1 := by
                    have sw5 : Step σ3 ρ5 H5 (L2.wipe σ3 vs) (wipeS ρ5 vs) H5 := Step.wipe vs
                    rw [w3] at sw5
                    exact sw5.rep f5 r5
                  exact ⟨acc ++ [s.1], wipeS ρ5 vs, us ++ [y], fg, sg, fun j s h => (wipeS_some h).2, wk.pres _ _ _ _ (wk.pres _ _ _ _ gi (sw.ov fi)) og, upd_same, ((ri.to (sw.ov fi)).append (.cons ry .nil)).to og, ki⟩
                · cases ki
      · left
        have e1 : i = ds.length := by omega
        subst e1
        refine ⟨wk.done _ H' gi, ?_⟩
        rw [List.drop_length] at ki
        unfold lcGo at ki
        cases ki
        exact fin accN ρN H' us hN fi si wi' hpi ri
    · exact k.elim
end
end VS

namespace VS
open PySem L2 PySem.Spec PyProof.Rows
/-! ### syntax: what a piece of the text means -/
abbrev Gx (X : Cx) (ct : Nat → Addr) : Gm := ⟨X.K, ct⟩
def CE (X : Cx) (ct : Nat → Addr) (W : WX) (e : Expr) (m : CExp) : Prop := ∃ t, PE X e t ∧ SE (Gx X ct) W t m
def CT (X : Cx) (ct : Nat → Addr) (W : WX) (e : Expr) (m : CTst) : Prop := ∃ t, PT X e t ∧ ST (Gx X ct) W t m
def CW (X : Cx) (ct : Nat → Addr) (W : WX) (e : Expr) (m : CTst) : Prop := ∃ t, PW X e t ∧ ST (Gx X ct) W t m
def CTs (X : Cx) (ct : Nat → Addr) (W : WX) (es : List Expr) (m : CTst) : Prop := ∃ t, PTs X es t ∧ ST (Gx X ct) W t m
def CO (X : Cx) (ct : Nat → Addr) (W : WX) (e : Expr) (o : Opd) : Prop := ∃ t, PE X e t ∧ SO (Gx X ct) W t o
def CA (X : Cx) (ct : Nat → Addr) (W : WX) (es : List Expr) (os : List Opd) : Prop := ∃ t, PA X es t ∧ SA (Gx X ct) W t os
def CG (X : Cx) (ct : Nat → Addr) (fx : List Nat) (e : Expr) (tg : D → Sl → Option Sl) : Prop := ∃ g, PG X e g ∧ SG (Gx X ct) fx g tg
def CGs (X : Cx) (ct : Nat → Addr) (fx : List Nat) (es : List Expr) (tg : List D → Sl → Option Sl) : Prop := ∃ g, PGs X es g ∧ SGs (Gx X ct) fx g tg
def CI (X : Cx) (ct : Nat → Addr) (W : WX) (tg iter : Expr) (m : CIt) : Prop := ∃ wi, PI X tg iter wi ∧ SI (Gx X ct) W wi m
def CS (X : Cx) (ct : Nat → Addr) (fx : List Nat) (W : WX) (st : Stmt) (m : CStm) : Prop := ∃ t, PS X st t ∧ SS (Gx X ct) fx W t m
def CSs (X : Cx) (ct : Nat → Addr) (fx : List Nat) (W : WX) (st : List Stmt) (m : CStm) : Prop := ∃ t, PSs X st t ∧ SS (Gx X ct) fx W t m
section
variable {X : Cx} {ct : Nat → Addr} {W : WX} {fx : List Nat} {a b c e : Expr} {es : List Expr} {pos : Pos} {o o1 o2 o3 : Opd} {os : List Opd} {m m1 m2 : CExp} {t1 t2 : CTst} {s1 s2 : CStm}
theorem ce_var (i : Nat) {x : Str} (hN : X.N[i]? = some x := by rfl) (hv : Vis X.env.scope x := by first | exact Or.inl rfl | exact Or.inr (Or.inl rfl) | exact Or.inr (Or.inr rfl)) (hd : (x == ("__debug__" : Str)) = false := by decide) (hcd : (x == ("__classdict__" : Str)) = false := by decide) : CE X ct W (.Name x pos) (cVar i) := ⟨_, pe_var hN hv hd hcd, SE.var⟩
theorem ce_move (i : Nat) {x : Str} (hN : X.N[i]? = some x := by rfl) (hv : Vis X.env.scope x := by first | exact Or.inl rfl | exact Or.inr (Or.inl rfl) | exact Or.inr (Or.inr rfl)) (hd : (x == ("__debug__" : Str)) = false := by decide) (hcd : (x == ("__classdict__" : Str)) = false := by decide) : CE X ct W (.Name x pos) (cMove i) := ⟨_, pe_var hN hv hd hcd, SE.move⟩
theorem co_v (i : Nat) {x : Str} (hN : X.N[i]? = some x := by rfl) (hv : Vis X.env.scope x := by first | exact Or.inl rfl | exact Or.inr (Or.inl rfl) | exact Or.inr (Or.inr rfl)) (hd : (x == ("__debug__" : Str)) = false := by decide) (hcd : (x == ("__classdict__" : Str)) = false := by decide) : CO X ct W (.Name x pos) (.v i) := ⟨_, pe_var hN hv hd hcd, rfl⟩
theorem co_e (h : CE X ct W e m) : CO X ct W e (.e m) := h
theorem ce_int {i j} : CE X ct W (.Constant (.int i) j pos) (cC (.int i)) := ⟨_, pe_int, SE.c fun _ _ => .int i⟩
theorem ce_bl {b j} : CE X ct W (.Constant (.bool b) j pos) (cC (.bl b)) := ⟨_, pe_bl, SE.c fun _ _ => .bl b⟩
theorem ce_non {j} : CE X ct W (.Constant .none j pos) (cC .non) := ⟨_, pe_non, SE.c fun _ _ => .non⟩
theorem ce_str {x j} (h : PyData.strOk x = true := by decide +kernel) : CE X ct W (.Constant (.str x) j pos) (cC (.str x)) := ⟨_, pe_str, SE.c fun _ _ => .str x h⟩
/-- a built-in class as a value -/
theorem ce_ty {x : Str} {n : String} (hg : Gl X x) (hm : X.mg x = none) (hv : bootBuiltins x = some (.type n)) (hn : x ≠ "__name__" := by decide) (hd : (x == ("__debug__" : Str)) = false := by decide) : CE X ct W (.Name x pos) (cC (.ty n)) := ⟨_, pe_bltn (v := .ty n) hg hm hv rfl hn hd, SE.c fun _ _ => .ty n⟩
/-- a constant of the module -/
theorem ce_glob {x : Str} {v : V} {u : Value} {d : D} (hg : Gl X x) (hm : X.mg x = some u) (r : RelV v u) (hr : ∀ O H, Rep (Gx X ct) O H v d) (hd : (x == ("__debug__" : Str)) = false := by decide) : CE X ct W (.Name x pos) (cC d) := ⟨_, pe_glob hg hm r hd, SE.c hr⟩
theorem ca_nil : CA X ct W [] [] := ⟨_, pa_nil, .nil⟩
theorem ca_cons (h : CO X ct W e o) (hr : CA X ct W es os) (hs : starEach (e :: es) X.env = (false, eval e X.env) :: starEach es X.env := by rfl) : CA X ct W (e :: es) (o :: os) := by
  obtain ⟨t, h1, h2⟩ := h
  obtain ⟨u, g1, g2⟩ := hr
  exact ⟨_, pa_cons h1 g1 hs, .cons h2 g2⟩
theorem bop {op : Operator} {r : R2} {f : List D → Option Slot} (ho : OpR X (binaryOp op) r) (hr : PrimR (Gx X ct) (r2l r) f) (h1 : CO X ct W a o1) (h2 : CO X ct W b o2) : CE X ct W (.BinOp a op b pos) (cPrim f [o1, o2]) := by
  obtain ⟨t, p1, q1⟩ := h1
  obtain ⟨u, p2, q2⟩ := h2
  exact ⟨_, pe_op ho p1 p2, SE.op2 hr q1 q2⟩
theorem ce_add (h1 : CO X ct W a o1) (h2 : CO X ct W b o2) : CE X ct W (.BinOp a .Add b pos) (cPrim pAdd [o1, o2]) := bop opAdd prAdd h1 h2
theorem ce_sub (h1 : CO X ct W a o1) (h2 : CO X ct W b o2) : CE X ct W (.BinOp a .Sub b pos) (cPrim pSub [o1, o2]) := bop op_sub prSub h1 h2
theorem ce_mul (h1 : CO X ct W a o1) (h2 : CO X ct W b o2) : CE X ct W (.BinOp a .Mult b pos) (cPrim pMul [o1, o2]) := bop op_mul prMul h1 h2
theorem ce_div (h1 : CO X ct W a o1) (h2 : CO X ct W b o2) : CE X ct W (.BinOp a .FloorDiv b pos) (cPrim pDiv [o1, o2]) := bop op_fdiv prDiv h1 h2
theorem ce_mod (h1 : CO X ct W a o1) (h2 : CO X ct W b o2) : CE X ct W (.BinOp a .Mod b pos) (cPrim pMod [o1, o2]) := bop op_mod prMod h1 h2
theorem ce_pow (h1 : CO X ct W a o1) (h2 : CO X ct W b o2) : CE X ct W (.BinOp a .Pow b pos) (cPrim pPow [o1, o2]) := bop op_pow prPow h1 h2
theorem ce_neg (h1 : CO X ct W a o1) : CE X ct W (.UnaryOp .USub a pos) (cPrim pNeg [o1]) := by
  obtain ⟨t, p1, q1⟩ := h1
  exact ⟨_, pe_un un_neg p1, SE.op1 prNeg q1⟩
theorem cmp {op : CmpOp} {r : R2} {f : List D → Option Slot} (ho : OpR X (compareOp op) r) (hr : PrimR (Gx X ct) (r2l r) f) (h1 : CO X ct W a o1) (h2 : CO X ct W b o2) (hm : behindInMarks op b = false) : CE X ct W (.Compare a [op] [b] pos) (cPrim f [o1, o2]) := by
  obtain ⟨t, p1, q1⟩ := h1
  obtain ⟨u, p2, q2⟩ := h2
  exact ⟨_, pe_cmpR ho p1 p2 hm, SE.op2 hr q1 q2⟩
theorem ce_lt (h1 : CO X ct W a o1) (h2 : CO X ct W b o2) : CE X ct W (.Compare a [.Lt] [b] pos) (cPrim pLt [o1, o2]) := cmp op_lt prLt h1 h2 (nomark _)
theorem ce_le (h1 : CO X ct W a o1) (h2 : CO X ct W b o2) : CE X ct W (.Compare a [.LtE] [b] pos) (cPrim pLe [o1, o2]) := cmp op_le prLe h1 h2 (nomark _)
theorem ce_gt (h1 : CO X ct W a o1) (h2 : CO X ct W b o2) : CE X ct W (.Compare a [.Gt] [b] pos) (cPrim pGt [o1, o2]) := cmp op_gt prGt h1 h2 (nomark _)
theorem ce_ge (h1 : CO X ct W a o1) (h2 : CO X ct W b o2) : CE X ct W (.Compare a [.GtE] [b] pos) (cPrim pGe [o1, o2]) := cmp op_ge prGe h1 h2 (nomark _)
theorem ce_eq (hu : X.A.units + 65 < cLine) (h1 : CO X ct W a o1) (h2 : CO X ct W b o2) : CE X ct W (.Compare a [.Eq] [b] pos) (cPrim pEqA [o1, o2]) := cmp (opEq (by omega)) prEqA h1 h2 (nomark _)
theorem ce_ne (hu : X.A.units + 65 < cLine) (h1 : CO X ct W a o1) (h2 : CO X ct W b o2) : CE X ct W (.Compare a [.NotEq] [b] pos) (cPrim pNe [o1, o2]) := cmp (op_neD (by omega)) prNe h1 h2 (nomark _)
theorem ce_isN (h1 : CO X ct W a o1) (h2 : CO X ct W b o2) : CE X ct W (.Compare a [.Is] [b] pos) (cPrim pIsN [o1, o2]) := cmp op_isN prIsN h1 h2 (nomark _)
theorem ce_notN (h1 : CO X ct W a o1) (h2 : CO X ct W b o2) : CE X ct W (.Compare a [.IsNot] [b] pos) (cPrim pNotN [o1, o2]) := cmp op_notN prNotN h1 h2 (nomark _)
theorem ce_in (hu : X.A.units + 65 < cLine) (h1 : CO X ct W a o1) (h2 : CO X ct W b o2) (hm : behindInMarks .In b = false := by rfl) : CE X ct W (.Compare a [.In] [b] pos) (cPrim pIn [o1, o2]) := cmp (opIn hu) prIn h1 h2 hm
theorem ce_ni (hu : X.A.units + 65 < cLine) (h1 : CO X ct W a o1) (h2 : CO X ct W b o2) (hm : behindInMarks .NotIn b = false := by rfl) : CE X ct W (.Compare a [.NotIn] [b] pos) (cPrim pNi [o1, o2]) := cmp (opNi hu) prNi h1 h2 hm
theorem ce_idx (hu : X.A.units + 65 < cLine) (h1 : CO X ct W a o1) (h2 : CO X ct W b o2) (hs : PlainIx b := by exact fun _ _ => rfl) : CE X ct W (.Subscript a b pos) (cPrim pIdx [o1, o2]) := by
  obtain ⟨t, p1, q1⟩ := h1
  obtain ⟨u, p2, q2⟩ := h2
  exact ⟨_, pe_ix (ix_any (by omega)) p1 p2 hs, SE.op2 prIdx q1 q2⟩
theorem ce_rev {k : Nat} {p1 p2 p3 : Pos} (h1 : CO X ct W a o1) : CE X ct W (.Subscript a (.Slice none none (some (.UnaryOp .USub (.Constant (.int 1) k p1) p2)) p3) pos) (cPrim pRev [o1]) := by
  obtain ⟨t, p1, q1⟩ := h1
  exact ⟨_, pe_revL p1, SE.rev q1⟩
theorem ce_tup {k} (h : CA X ct W es os) (he : allE os = true := by rfl) : CE X ct W (.Tuple es k pos) (cPrim pTup os) := by
  obtain ⟨t, p1, q1⟩ := h
  exact ⟨_, pe_tup p1, SE.tup q1 he⟩
theorem ce_lst (h : CA X ct W es os) (he : allE os = true := by rfl) : CE X ct W (.List es pos) (cPrim pLst os) := by
  obtain ⟨t, p1, q1⟩ := h
  exact ⟨_, pe_lst p1, SE.lst q1 he⟩
theorem ce_dK : CE X ct W (.Dict [] [] pos) cDK := ⟨_, pe_dnewK, SE.dnewK⟩
theorem ce_dT : CE X ct W (.Dict [] [] pos) cDT := ⟨_, pe_dnewT, SE.dnewT⟩
/-- built-ins by name -/
theorem ce_b {x : Str} {id : String} {p : Pos} {r : List V → Hp → VK → Prop} {f : List D → Option Slot} (hc : CallR X (.builtin id) r) (hr : PrimR (Gx X ct) r f) (hg : Gl X x) (hm : X.mg x = none) (hv : bootBuiltins x = some (.builtin id)) (ha : CA X ct W (e :: es) os) (hn : x ≠ "__name__" := by decide) (hdb : (x == ("__debug__" : Str)) = false := by decide)
    (he : starEach (e :: es) X.env = (false, eval e X.env) :: starEach es X.env := by rfl) (hpl : (backTo pos (starEach es X.env)).any (·.1) = false := by rfl) : CE X ct W (.Call (.Name x p) (e :: es) [] pos) (cPrim f os) := by
  obtain ⟨t, p1, q1⟩ := ha
  exact ⟨_, pe_callB hc hg hm hv p1 hn hdb he hpl, SE.prim hr q1⟩
theorem ce_bT {x : Str} {T : String} {p : Pos} {r : List V → Hp → VK → Prop} {f : List D → Option Slot} (hc : CallR X (.type T) r) (hr : PrimR (Gx X ct) r f) (hg : Gl X x) (hm : X.mg x = none) (hv : bootBuiltins x = some (.type T)) (ha : CA X ct W (e :: es) os) (hn : x ≠ "__name__" := by decide) (hdb : (x == ("__debug__" : Str)) = false := by decide)
    (he : starEach (e :: es) X.env = (false, eval e X.env) :: starEach es X.env := by rfl) (hpl : (backTo pos (starEach es X.env)).any (·.1) = false := by rfl) : CE X ct W (.Call (.Name x p) (e :: es) [] pos) (cPrim f os) := by
  obtain ⟨t, p1, q1⟩ := ha
  exact ⟨_, pe_callTy hc hg hm hv p1 hn hdb he hpl, SE.prim hr q1⟩
theorem cr_len : CallR X (.builtin "len") (rLen1 X.K) := callOr call_len call_lenD
/-- d.get(k, x) -/
theorem ce_get2 {apos cpos : Pos} (hu : X.A.units + 65 < cLine) (h1 : CO X ct W a o1) (h2 : CO X ct W b o2) (h3 : CO X ct W c o3) (mm : M2 X a "get" apos b c cpos := by exact ⟨rfl, rfl, rfl, rfl⟩) : CE X ct W (.Call (.Attribute a "get" apos) [b, c] [] cpos) (cRecv isDict pGet2 o1 [o2, o3]) := by
  obtain ⟨t, p1, q1⟩ := h1
  obtain ⟨u, p2, q2⟩ := h2
  obtain ⟨v, p3, q3⟩ := h3
  exact ⟨_, pe_dget2 (by omega) p1 p2 p3 mm, SE.get2 q1 q2 q3⟩
theorem ce_join {apos : Pos} (h1 : CO X ct W a o1) (h2 : CO X ct W b o2) (hs : starEach [b] X.env = [(false, eval b X.env)] := by rfl) (hbase : attributeBase a "join" X.env (eval a X.env) = eval a X.env := by rfl) (hline : (apos.endLine == pos.line) = true := by rfl) : CE X ct W (.Call (.Attribute a "join" apos) [b] [] pos) (cRecv isStr pJoin o1 [o2]) := by
  obtain ⟨t, p1, q1⟩ := h1
  obtain ⟨u, p2, q2⟩ := h2
  exact ⟨_, pe_join p1 p2 hs hbase hline, SE.join q1 q2⟩
theorem ce_app (i : Nat) {x : Str} {pos' apos cpos : Pos} (h : CE X ct W e m) (hN : X.N[i]? = some x := by rfl) (hv : Vis X.env.scope x := by first | exact Or.inl rfl | exact Or.inr (Or.inl rfl) | exact Or.inr (Or.inr rfl)) (hd : (x == ("__debug__" : Str)) = false := by decide) (hcd : (x == ("__classdict__" : Str)) = false := by decide)
    (hbase : attributeBase (.Name x pos') "append" X.env (eval (.Name x pos') X.env) = eval (.Name x pos') X.env := by rfl)
    (hfew : ((backTo cpos (starEach [e] X.env)).all (fun x => !x.1) && (backToKw cpos (keywordEach [] X.env)).all (fun x => x.1.isSome) && decide (([e] : List Expr).length + ([] : List Keyword).length + (if ([] : List Keyword).isEmpty then 0 else 1) < 30)) = true := by rfl)
    (hline : (apos.endLine == cpos.line) = true := by rfl) (hs : starEach [e] X.env = (false, eval e X.env) :: starEach [] X.env := by rfl) :
    CE X ct W (.Call (.Attribute (.Name x pos') "append" apos) [e] [] cpos) (cApp i m) := by
  obtain ⟨t, p1, q1⟩ := h
  exact ⟨_, pe_bm PySem.F.plainAttrs_list PySem.F.slot_list_append PySem.F.type_list_append mt_append (pe_var hN hv hd hcd) (pa_cons p1 pa_nil hs) hbase hfew hline hs, SE.app q1⟩
theorem ce_pop (i : Nat) {x : Str} {pos' apos cpos : Pos} (hN : X.N[i]? = some x := by rfl) (hv : Vis X.env.scope x := by first | exact Or.inl rfl | exact Or.inr (Or.inl rfl) | exact Or.inr (Or.inr rfl)) (hd : (x == ("__debug__" : Str)) = false := by decide) (hcd : (x == ("__classdict__" : Str)) = false := by decide)
    (hbase : attributeBase (.Name x pos') "pop" X.env (eval (.Name x pos') X.env) = eval (.Name x pos') X.env := by rfl) (hline : (apos.endLine == cpos.line) = true := by rfl) :
    CE X ct W (.Call (.Attribute (.Name x pos') "pop" apos) [] [] cpos) (cPop i) := ⟨_, pe_bm0 PySem.F.plainAttrs_list PySem.F.slot_list_pop PySem.F.type_list_pop mt_pop (pe_var hN hv hd hcd) hbase hline, SE.pop⟩
theorem ce_clear (i : Nat) {x : Str} {pos' apos cpos : Pos} (hN : X.N[i]? = some x := by rfl) (hv : Vis X.env.scope x := by first | exact Or.inl rfl | exact Or.inr (Or.inl rfl) | exact Or.inr (Or.inr rfl)) (hd : (x == ("__debug__" : Str)) = false := by decide) (hcd : (x == ("__classdict__" : Str)) = false := by decide)
    (hbase : attributeBase (.Name x pos') "clear" X.env (eval (.Name x pos') X.env) = eval (.Name x pos') X.env := by rfl) (hline : (apos.endLine == cpos.line) = true := by rfl) :
    CE X ct W (.Call (.Attribute (.Name x pos') "clear" apos) [] [] cpos) (cClear i) := ⟨_, pe_bm0 PySem.F.plainAttrs_list PySem.F.slot_list_clear PySem.F.type_list_clear mt_clear (pe_var hN hv hd hcd) hbase hline, SE.clear⟩
/-- and, or, not as values -/
theorem ce_one {op} (h : CE X ct W a m) : CE X ct W (.BoolOp op [a] pos) m := by
  obtain ⟨t, p1, q1⟩ := h
  exact ⟨_, pe_one p1, q1⟩
theorem ce_and (h1 : CE X ct W a m1) (h2 : CE X ct W (.BoolOp .And (b :: es) pos) m2) : CE X ct W (.BoolOp .And (a :: b :: es) pos) (cAndV m1 m2) := by
  obtain ⟨t, p1, q1⟩ := h1
  obtain ⟨u, p2, q2⟩ := h2
  exact ⟨_, pe_and p1 p2, SE.andV q1 q2⟩
theorem ce_or (h1 : CE X ct W a m1) (h2 : CE X ct W (.BoolOp .Or (b :: es) pos) m2) : CE X ct W (.BoolOp .Or (a :: b :: es) pos) (cOrV m1 m2) := by
  obtain ⟨t, p1, q1⟩ := h1
  obtain ⟨u, p2, q2⟩ := h2
  exact ⟨_, pe_or p1 p2, SE.orV q1 q2⟩
theorem ce_not (h1 : CE X ct W a m1) : CE X ct W (.UnaryOp .Not a pos) (cNotV m1) := by
  obtain ⟨t, p1, q1⟩ := h1
  exact ⟨_, pe_not p1, SE.notV q1⟩
theorem ce_ife (h0 : CT X ct W c t1) (h1 : CE X ct W a m1) (h2 : CE X ct W b m2) : CE X ct W (.IfExp c a b pos) (cIfE t1 m1 m2) := by
  obtain ⟨t, p0, q0⟩ := h0
  obtain ⟨u, p1, q1⟩ := h1
  obtain ⟨v, p2, q2⟩ := h2
  exact ⟨_, pe_ifExp p0 p1 p2, SE.ifE q0 q1 q2⟩
/-! tests -/
theorem ct_val (h : CE X ct W e m) (he : ∀ whole, isTrue e X.env whole = (do let v ← whole; standAt e.pos; holding [v] (truthy v)) := by intro _; rfl) : CT X ct W e (cTst m) := by
  obtain ⟨t, p1, q1⟩ := h
  exact ⟨_, pt_val p1 he, ST.testB q1⟩
theorem tcmp {op : CmpOp} {r : R2} {f : List D → Option Slot} (ho : OpR X (compareOp op) r) (hr : PrimR (Gx X ct) (r2l r) f) (h1 : CO X ct W a o1) (h2 : CO X ct W b o2) (hm : behindInMarks op b = false) : CT X ct W (.Compare a [op] [b] pos) (cTst (cPrim f [o1, o2])) := by
  obtain ⟨t, p1, q1⟩ := h1
  obtain ⟨u, p2, q2⟩ := h2
  exact ⟨_, pt_cmpR ho p1 p2 hm, ST.test (SE.op2 hr q1 q2)⟩
theorem ct_lt (h1 : CO X ct W a o1) (h2 : CO X ct W b o2) : CT X ct W (.Compare a [.Lt] [b] pos) (cTst (cPrim pLt [o1, o2])) := tcmp op_lt prLt h1 h2 (nomark _)
theorem ct_le (h1 : CO X ct W a o1) (h2 : CO X ct W b o2) : CT X ct W (.Compare a [.LtE] [b] pos) (cTst (cPrim pLe [o1, o2])) := tcmp op_le prLe h1 h2 (nomark _)
theorem ct_gt (h1 : CO X ct W a o1) (h2 : CO X ct W b o2) : CT X ct W (.Compare a [.Gt] [b] pos) (cTst (cPrim pGt [o1, o2])) := tcmp op_gt prGt h1 h2 (nomark _)
theorem ct_ge (h1 : CO X ct W a o1) (h2 : CO X ct W b o2) : CT X ct W (.Compare a [.GtE] [b] pos) (cTst (cPrim pGe [o1, o2])) := tcmp op_ge prGe h1 h2 (nomark _)
theorem ct_eq (hu : X.A.units + 65 < cLine) (h1 : CO X ct W a o1) (h2 : CO X ct W b o2) : CT X ct W (.Compare a [.Eq] [b] pos) (cTst (cPrim pEqA [o1, o2])) := tcmp (opEq (by omega)) prEqA h1 h2 (nomark _)
theorem ct_ne (hu : X.A.units + 65 < cLine) (h1 : CO X ct W a o1) (h2 : CO X ct W b o2) : CT X ct W (.Compare a [.NotEq] [b] pos) (cTst (cPrim pNe [o1, o2])) := tcmp (op_neD (by omega)) prNe h1 h2 (nomark _)
theorem ct_isN (h1 : CO X ct W a o1) (h2 : CO X ct W b o2) : CT X ct W (.Compare a [.Is] [b] pos) (cTst (cPrim pIsN [o1, o2])) := tcmp op_isN prIsN h1 h2 (nomark _)
theorem ct_notN (h1 : CO X ct W a o1) (h2 : CO X ct W b o2) : CT X ct W (.Compare a [.IsNot] [b] pos) (cTst (cPrim pNotN [o1, o2])) := tcmp op_notN prNotN h1 h2 (nomark _)
theorem ct_in (hu : X.A.units + 65 < cLine) (h1 : CO X ct W a o1) (h2 : CO X ct W b o2) (hm : behindInMarks .In b = false := by rfl) : CT X ct W (.Compare a [.In] [b] pos) (cTst (cPrim pIn [o1, o2])) := tcmp (opIn hu) prIn h1 h2 hm
theorem ct_ni (hu : X.A.units + 65 < cLine) (h1 : CO X ct W a o1) (h2 : CO X ct W b o2) (hm : behindInMarks .NotIn b = false := by rfl) : CT X ct W (.Compare a [.NotIn] [b] pos) (cTst (cPrim pNi [o1, o2])) := tcmp (opNi hu) prNi h1 h2 hm
theorem CW.toT (h : CW X ct W e t1) : CT X ct W e t1 := by
  obtain ⟨t, p, q⟩ := h
  exact ⟨t, p.pt, q⟩
theorem cw_and1 (h : CT X ct W a t1) : CW X ct W (.BoolOp .And [a] pos) t1 := by
  obtain ⟨t, p, q⟩ := h
  exact ⟨_, pw_and1 p, q⟩
theorem cw_or1 (h : CT X ct W a t1) : CW X ct W (.BoolOp .Or [a] pos) t1 := by
  obtain ⟨t, p, q⟩ := h
  exact ⟨_, pw_or1 p, q⟩
theorem cw_and (h1 : CT X ct W a t1) (h2 : CW X ct W (.BoolOp .And (b :: es) pos) t2) : CW X ct W (.BoolOp .And (a :: b :: es) pos) (cAnd t1 t2) := by
  obtain ⟨t, p1, q1⟩ := h1
  obtain ⟨u, p2, q2⟩ := h2
  exact ⟨_, pw_and p1 p2, ST.and q1 q2⟩
theorem cw_or (h1 : CT X ct W a t1) (h2 : CW X ct W (.BoolOp .Or (b :: es) pos) t2) : CW X ct W (.BoolOp .Or (a :: b :: es) pos) (cOr t1 t2) := by
  obtain ⟨t, p1, q1⟩ := h1
  obtain ⟨u, p2, q2⟩ := h2
  exact ⟨_, pw_or p1 p2, ST.or q1 q2⟩
theorem ct_not (h1 : CT X ct W a t1) : CT X ct W (.UnaryOp .Not a pos) (cNot t1) := by
  obtain ⟨t, p1, q1⟩ := h1
  exact ⟨_, pt_not p1, ST.not q1⟩
theorem cts_nil : CTs X ct W [] cYes := ⟨_, pts_nil, ST.yes⟩
theorem cts_one (h : CT X ct W c t1) : CTs X ct W [c] t1 := by
  obtain ⟨t, p, q⟩ := h
  exact ⟨_, pts_one p, q⟩
/-! targets -/
theorem cg_name (i : Nat) {x : Str} (hN : X.N.Nodup) (hf : i ∉ fx := by decide) (hi : X.N[i]? = some x := by rfl) (hx : Loc X.env.scope x := by first | exact Or.inl rfl | exact Or.inr rfl) (hfn : X.fn x = true ∨ X.env.scope.names.lookup x = some .local := by first | exact .inl rfl | exact .inr rfl) : CG X ct fx (.Name x pos) (tgN i) := ⟨_, pg_name hN hi hx hfn, SG.name hf⟩
theorem cgs_nil : CGs X ct fx [] tgNil := ⟨_, pgs_nil, SGs.nil⟩
theorem cgs_cons {tg : D → Sl → Option Sl} {tgs : List D → Sl → Option Sl} (h1 : CG X ct fx e tg) (h2 : CGs X ct fx es tgs) (hs : (assignEach (e :: es) X.env).map (·.2) = assign e X.env :: (assignEach es X.env).map (·.2) := by rfl) : CGs X ct fx (e :: es) (tgCons tg tgs) := by
  obtain ⟨g, p1, q1⟩ := h1
  obtain ⟨gs, p2, q2⟩ := h2
  exact ⟨_, pgs_cons p1 p2 hs, SGs.cons q1 q2⟩
theorem cg_tup {k : Nat} {tgs : List D → Sl → Option Sl} {n : Nat} (hc : X.calm = true) (h : CGs X ct fx es tgs) (hn : (assignEach es X.env).length = n := by rfl) (hst : (assignEach es X.env).findIdx? (·.1) = none := by rfl) : CG X ct fx (.Tuple es k pos) (tgTup n tgs) := by
  obtain ⟨gs, p, q⟩ := h
  exact ⟨_, pg_tup hc p hn hst, SG.tup q⟩
/-! what is walked -/
variable {tg : Expr}
theorem ci_list (h : CE X ct W e m) : CI X ct W tg e (cItL m) := by
  obtain ⟨t, p, q⟩ := h
  exact ⟨_, pi_list p, SI.list q⟩
theorem ci_tup (h : CE X ct W e m) : CI X ct W tg e (cItT m) := by
  obtain ⟨t, p, q⟩ := h
  exact ⟨_, pi_tup p, SI.tup q⟩
theorem ci_range1 {p : Pos} (hg : Gl X "range") (hm : X.mg "range" = none) (ha : CO X ct W a o) (hs : starEach [a] X.env = [(false, eval a X.env)] := by rfl) : CI X ct W tg (.Call (.Name "range" p) [a] [] pos) (cItR1 o) := by
  obtain ⟨t, p1, q1⟩ := ha
  exact ⟨_, pi_range1 hg hm (pa_cons p1 pa_nil hs) hs, SI.range1 q1⟩
theorem ci_range2 {p : Pos} (hg : Gl X "range") (hm : X.mg "range" = none) (ha : CO X ct W a o) (hb : CO X ct W b o2) (hs : starEach [a, b] X.env = [(false, eval a X.env), (false, eval b X.env)] := by rfl) (hs2 : starEach [b] X.env = [(false, eval b X.env)] := by rfl) : CI X ct W tg (.Call (.Name "range" p) [a, b] [] pos) (cItR2 o o2) := by
  obtain ⟨t, p1, q1⟩ := ha
  obtain ⟨u, p2, q2⟩ := hb
  exact ⟨_, pi_range2 hg hm (pa_cons p1 (pa_cons p2 pa_nil hs2) (hs.trans (by rw [hs2]))) hs hs2, SI.range2 q1 q2⟩
/-! comprehensions -/
theorem ce_lc {elt iter : Expr} {ifs : List Expr} {scope : Scope} (own : List (Str × Nat)) {it : CIt} {g : TG} {tgm : D → Sl → Option Sl} {cc : CTst} {ee : CExp} (hc : X.calm = true) (hN : X.N.Nodup) (hi : CI X ct W tg iter it) (ok : BlkOk X.N X.env.scope scope own) (hlen : LenG tgm)
    (hgs : ∀ fx', (∀ j ∈ own.map (·.2), j ∉ fx') → SG (Gx X ct) fx' g tgm) (hg : ∀ (s : Shared) (H : Hp) (C : Addr) (cl : List (Str × Addr)) (fp : List Addr), PG (X.blk s H scope (compEnvC scope cl C X.env) fp) tg g)
    {tt : TT} {te : TE} (ht : ∀ (s : Shared) (H : Hp) (C : Addr) (cl : List (Str × Addr)) (fp : List Addr), PTs (X.blk s H scope (compEnvC scope cl C X.env) fp) ifs tt) (hts : ST (Gx X ct) WF tt cc)
    (he : ∀ (s : Shared) (H : Hp) (C : Addr) (cl : List (Str × Addr)) (fp : List Addr), PE (X.blk s H scope (compEnvC scope cl C X.env) fp) elt te) (hes : SE (Gx X ct) WF te ee) (hs : ∀ x, foldedSetIterable iter X.env x = pure x := by intro _; rfl) :
    CE X ct W (.ListComp elt [⟨tg, iter, ifs, 0⟩] scope pos) (cLc it tgm cc ee (own.map (·.2))) := by
  obtain ⟨wi, p, q⟩ := hi
  exact ⟨_, pe_lc hc hN p ok hg ht he hs, SE.lc q hgs hlen hts hes⟩
/-! statements -/
theorem css_nil : CSs X ct fx W [] cNext := ⟨_, pss_nil, SS.next⟩
theorem css_cons {st : Stmt} {rest : List Stmt} (h1 : CS X ct fx W st s1) (h2 : CSs X ct fx W rest s2) : CSs X ct fx W (st :: rest) (cSeq s1 s2) := by
  obtain ⟨t, p1, q1⟩ := h1
  obtain ⟨u, p2, q2⟩ := h2
  exact ⟨_, pss_cons p1 p2, SS.seq q1 q2⟩
theorem css_one {st : Stmt} (h1 : CS X ct fx W st s1) : CSs X ct fx W [st] s1 := by
  obtain ⟨t, p1, q1⟩ := h1
  exact ⟨_, pss_one p1, q1⟩
theorem cs_pass : CS X ct fx W (.Pass pos) cNext := ⟨_, ps_pass, SS.next⟩
theorem cs_brk : CS X ct fx W (.Break pos) cBrk := ⟨_, ps_break, SS.brk⟩
theorem cs_cnt : CS X ct fx W (.Continue pos) cCnt := ⟨_, ps_continue, SS.cnt⟩
theorem cs_doc {x j pos'} : CS X ct fx W (.Expr (.Constant (.str x) j pos) pos') cNext := ⟨_, ps_doc, SS.next⟩
theorem cs_ret (h : CE X ct W e m) : CS X ct fx W (.Return (some e) pos) (cRet m) := by
  obtain ⟨t, p, q⟩ := h
  exact ⟨_, ps_ret p, SS.ret q⟩
theorem cs_retN : CS X ct fx W (.Return none pos) cRetN := ⟨_, ps_retN, SS.retN⟩
theorem cs_expr (h : CE X ct W e m) (hs : swapsWith e none pos.line X.env = pure false := by rfl) : CS X ct fx W (.Expr e pos) (cDrop m) := by
  obtain ⟨t, p, q⟩ := h
  exact ⟨_, ps_expr p hs, SS.drop q⟩
theorem cs_if {l1 l2 : List Stmt} (h : CT X ct W c t1) (h1 : CSs X ct fx W l1 s1) (h2 : CSs X ct fx W l2 s2) : CS X ct fx W (.If c l1 l2 pos) (cIf t1 s1 s2) := by
  obtain ⟨t, p, q⟩ := h
  obtain ⟨u, p1, q1⟩ := h1
  obtain ⟨v, p2, q2⟩ := h2
  exact ⟨_, ps_if p p1 p2, SS.if q q1 q2⟩
theorem cs_set (i : Nat) {x : Str} {pos' : Pos} (hN : X.N.Nodup) (h : CE X ct W e m) (hf : i ∉ fx := by decide) (hi : X.N[i]? = some x := by rfl) (hx : Loc X.env.scope x := by first | exact Or.inl rfl | exact Or.inr rfl) (hs : swapsWith e (some (.Name x pos')) pos.line X.env = pure false := by rfl) (hfn : X.fn x = true ∨ X.env.scope.names.lookup x = some .local := by first | exact .inl rfl | exact .inr rfl) : CS X ct fx W (.Assign [.Name x pos'] e pos) (cAsg i m) := by
  obtain ⟨t, p, q⟩ := h
  exact ⟨_, ps_set hN hi hx p hs hfn, SS.asg q hf⟩
theorem cs_setLc (i : Nat) {y : Str} {py spos : Pos} {elt iter : Expr} {ifs : List Expr} {scope : Scope} (own : List (Str × Nat)) {it : CIt} {g : TG} {tgm : D → Sl → Option Sl} {cc : CTst} {ee : CExp} (hc : X.calm = true) (hN : X.N.Nodup) (hf : i ∉ fx) (hy : X.N[i]? = some y) (hyl : X.env.scope.names.lookup y = some .local)
    (hsw : swapsWith (.ListComp elt [⟨tg, iter, ifs, 0⟩] scope pos) (some (.Name y py)) spos.line X.env = pure true) (hi : CI X ct W tg iter it) (ok : BlkOk X.N X.env.scope scope own) (hlen : LenG tgm)
    (hgs : ∀ fx', (∀ j ∈ own.map (·.2), j ∉ fx') → SG (Gx X ct) fx' g tgm) (hg : ∀ (s : Shared) (H : Hp) (C : Addr) (cl : List (Str × Addr)) (fp : List Addr), PG (X.blk s H scope (compEnvC scope cl C X.env) fp) tg g)
    {tt : TT} {te : TE} (ht : ∀ (s : Shared) (H : Hp) (C : Addr) (cl : List (Str × Addr)) (fp : List Addr), PTs (X.blk s H scope (compEnvC scope cl C X.env) fp) ifs tt) (hts : ST (Gx X ct) WF tt cc)
    (he : ∀ (s : Shared) (H : Hp) (C : Addr) (cl : List (Str × Addr)) (fp : List Addr), PE (X.blk s H scope (compEnvC scope cl C X.env) fp) elt te) (hes : SE (Gx X ct) WF te ee) (hs : ∀ x, foldedSetIterable iter X.env x = pure x := by intro _; rfl) :
    CS X ct fx W (.Assign [.Name y py] (.ListComp elt [⟨tg, iter, ifs, 0⟩] scope pos) spos) (cAsg i (cLc it tgm cc ee (own.map (·.2)))) := by
  obtain ⟨wi, p, q⟩ := hi
  exact ⟨_, ps_setLc hc hN hy hyl hsw p ok hg ht he hs, SS.asg (SE.lc q hgs hlen hts hes) hf⟩
theorem cs_asgT {tgm : D → Sl → Option Sl} (h : CE X ct W e m) (hg : CG X ct fx tg tgm) (hs : swapsWithSole [tg] e pos.line X.env = pure false := by rfl) (hw : swappedStores [tg] e X.env = pure none := by rfl) (h1 : (assignEach [tg] X.env).map (·.2) = [assign tg X.env] := by rfl) : CS X ct fx W (.Assign [tg] e pos) (cAsgT tgm m) := by
  obtain ⟨t, p, q⟩ := h
  obtain ⟨g, p2, q2⟩ := hg
  exact ⟨_, ps_asg p p2 hs hw h1, SS.asgT q q2⟩
theorem cs_store (i : Nat) {x : Str} {p1 p2 : Pos} {ix : Expr} {mi : CExp} (hu : X.A.units + 65 < cLine) (h : CE X ct W e m) (hix : CE X ct W ix mi) (hN : X.N[i]? = some x := by rfl) (hv : Vis X.env.scope x := by first | exact Or.inl rfl | exact Or.inr (Or.inl rfl) | exact Or.inr (Or.inr rfl)) (hd : (x == ("__debug__" : Str)) = false := by decide) (hcd : (x == ("__classdict__" : Str)) = false := by decide)
    (hs : swapsWithSole [.Subscript (.Name x p1) ix p2] e pos.line X.env = pure false := by rfl) (hw : swappedStores [.Subscript (.Name x p1) ix p2] e X.env = pure none := by rfl) (h1 : (assignEach [.Subscript (.Name x p1) ix p2] X.env).map (·.2) = [assign (.Subscript (.Name x p1) ix p2) X.env] := by rfl)
    (ha : ∀ v, assign (.Subscript (.Name x p1) ix p2) X.env v = (do
      let ov ← holding [v] (eval (.Name x p1) X.env)
      let iv ← holding [v, ov] (eval ix X.env)
      standAt p2
      holding [v, ov, iv] (setItem ov iv v)
      release [v, ov, iv] []) := by intro _; rfl) : CS X ct fx W (.Assign [.Subscript (.Name x p1) ix p2] e pos) (cSet i mi m) := by
  obtain ⟨t, p, q⟩ := h
  obtain ⟨u, r, s⟩ := hix
  exact ⟨_, ps_asg p (pg_sub (pe_var hN hv hd hcd) r (set_any (by omega)) ha) hs hw h1, SS.set s q⟩
theorem cs_aug {op : Operator} {f : List D → Option Slot} {ti : TIp} (i : Nat) {x : Str} {pos' : Pos} (ho : PIp X op ti) (hr : PrimR (Gx X ct) (r2l ti) f) (hN : X.N.Nodup) (h : CE X ct W e m) (hf : i ∉ fx := by decide) (hi : X.N[i]? = some x := by rfl) (hx : Loc X.env.scope x := by first | exact Or.inl rfl | exact Or.inr rfl) (hfn : X.fn x = true ∨ X.env.scope.names.lookup x = some .local := by first | exact .inl rfl | exact .inr rfl) : CS X ct fx W (.AugAssign (.Name x pos') op e pos) (cAug i f m) := by
  obtain ⟨t, p, q⟩ := h
  exact ⟨_, ps_aug hN hi hx p ho hfn, SS.aug hr q hf⟩
def pAddI := pI0 fun i j => .int (i + j)
theorem prAddI : PrimR (Gx X ct) (r2l (ipI fun i j => i + j)) pAddI := prI0 (g := fun i j => .int (i + j)) fun _ _ _ _ => .int _
theorem prSubI : PrimR (Gx X ct) (r2l (ipI fun i j => i - j)) pSub := prI0 (g := fun i j => .int (i - j)) fun _ _ _ _ => .int _
theorem cs_for {iter : Expr} {body : List Stmt} {it : CIt} {tgm : D → Sl → Option Sl} (hp : PassesOwn (model X.prog X.w) X.A X.env X.xe) (hc : X.calm = true) (hi : CI X ct W tg iter it) (hg : CG X ct fx tg tgm) (hb : CSs X ct fx W body s1) (hs : ∀ x, foldedSetIterable iter X.env x = pure x := by intro _; rfl) : CS X ct fx W (.For tg iter body [] pos) (cFor it tgm s1) := by
  obtain ⟨wi, p, q⟩ := hi
  obtain ⟨g, p2, q2⟩ := hg
  obtain ⟨t, p3, q3⟩ := hb
  exact ⟨_, ps_for hp hc p p2 p3 hs, SS.for q q2 q3⟩
theorem cs_while {body : List Stmt} (n : Nat) (hp : PassesOwn (model X.prog X.w) X.A X.env X.xe) (h : CT X ct W c t1) (hb : CSs X ct fx W body s1) : CS X ct fx W (.While c body [] pos) (whl t1 s1 n) := by
  obtain ⟨t, p, q⟩ := h
  obtain ⟨u, p2, q2⟩ := hb
  exact ⟨_, ps_while hp p p2, SS.whl q q2⟩
end
/-! ### defs -/
structure Fn (P : Program) (w : World) (K : PySem.W.Frag) (mg : Str → Option Value) (base : Heap) (ct : Nat → Addr) (k : Nat) (x : Str) (np : Nat) (F : CFun) : Prop where
  ex : ∃ (f : Addr) (fd : FuncData) (ps : List Str), FnOk P w K mg base (L2.CX P w) k f fd ps (spD ⟨K, ct⟩ F np) ∧ mg x = some (.ref f) ∧ PySem.W.keepIn K (.ref f) = true ∧ Binds K fd ps []
theorem fn_mk {P : Program} {w : World} {K : PySem.W.Frag} {mg : Str → Option Value} {base : Heap} {ct : Nat → Addr} {x : Str} {st : Stmt} {f : Addr} {fd : FuncData} {N ps : List Str} {k : Nat} (fx : List Nat) {m : CStm} (F : L2.Fun K x x st f fd) (S : FnScope N ps (defScope st)) (hm : mg x = some (.ref f)) (hb : Binds K fd ps [])
    (body : ∀ (cdv : Value) (A : Around) (outer : List Env) (s : Shared) (H : Hp) (E : XK), Room k (A.deeper (envOfC x (defScope st) s.heap.objs.size f cdv)) →
      Takes (cxOf (L2.CX P w) P w K mg base N x (defScope st) f cdv A outer s H E) (fun cls d _ H => E cls d H) →
      PassesOwn (model P w) (cxOf (L2.CX P w) P w K mg base N x (defScope st) f cdv A outer s H E).A (cxOf (L2.CX P w) P w K mg base N x (defScope st) f cdv A outer s H E).env (cxOf (L2.CX P w) P w K mg base N x (defScope st) f cdv A outer s H E).xe →
      (cxOf (L2.CX P w) P w K mg base N x (defScope st) f cdv A outer s H E).A.units + 65 < cLine →
      CSs (cxOf (L2.CX P w) P w K mg base N x (defScope st) f cdv A outer s H E) ct fx (fun cls d _ H => E cls d H) (defBody st) m) : Fn P w K mg base ct (k + 1) x ps.length (bodyF fx N.length m) := by
  refine ⟨f, fd, ps, ?_, hm, F.kp, hb⟩
  refine F.okX S (fun vs H Q E h => h.1) fun cdv A outer s H vs Q E hr h => ?_
  obtain ⟨t, p, q⟩ := body cdv A outer s H E hr (takes_of rfl rfl rfl rfl) (passes_of rfl) (by have := hr.un; show (A.deeper _).units + 65 < cLine; omega)
  exact ⟨t, p, def_ok q h⟩
theorem ce_call {X : Cx} {ct : Nat → Addr} {W : WX} {e : Expr} {es : List Expr} {pos p : Pos} {os : List Opd} {k k' np : Nat} {x : Str} {F : CFun} (h : Fn X.prog X.w X.K X.mg X.base ct k x np F) (hr : Room k' X.A) (hk : k ≤ k') (hg : Gl X x) (tk : Takes X W) (ha : CA X ct W (e :: es) os) (hn : os.length = np)
    (hdb : (x == ("__debug__" : Str)) = false := by decide) (he : starEach (e :: es) X.env = (false, eval e X.env) :: starEach es X.env := by rfl) (hpl : (backTo pos (starEach es X.env)).any (·.1) = false := by rfl) : CE X ct W (.Call (.Name x p) (e :: es) [] pos) (cCall F os) := by
  obtain ⟨f, fd, ps, G, hm, kp, hb⟩ := h.ex
  obtain ⟨t, p1, q1⟩ := ha
  exact ⟨_, pe_callS G (hr.mono hk) hg hm kp hb (fun σ => passAt tk σ) p1 hdb he hpl, SE.call q1 hn⟩
end VS

namespace VS
open PySem L2 PySem.Spec PyProof.Rows
/-! ### a list, a tuple, a text walked -/
def iSeq (K : PySem.W.Frag) (tl : TE) : TI := fun σ H R => tl σ H fun x H1 => (∃ a, x = .ref a ∧ (∃ xs, SqL K H1 a xs) ∧ R (Itl K a) H1) ∨ (∃ a, x = .ref a ∧ (∃ xs, SqT K H1 a xs) ∧ R (Itt K a) H1) ∨ (∃ z, x = .str z ∧ R (Its z) H1)
theorem pi_seq {X : Cx} {tg l : Expr} {tl : TE} (hl : PE X l tl) : PI X tg l (iSeq X.K tl) := by
  refine ⟨fun pins s σ H R I h => ?_⟩
  refine thn (hl.run pins s σ H _ I h) fun v s1 ⟨x, H1, I1, r1, q1⟩ => ?_
  rcases q1 with ⟨a, e, ⟨xs, hq⟩, q⟩ | ⟨a, e, ⟨xs, hq⟩, q⟩ | ⟨z, e, q⟩
  · subst e
    cases r1
    obtain ⟨its, rv, p, hz⟩ := I1.list hq
    refine wpAny_pyIter_list p.isList ?_
    refine ⟨s1.heap.objs.size, [s1.heap.objs.size], _, _, H1, rfl, I1.kept (t' := s1.toks) fun b o e => Heap.get?_push_of_some _ e, turn_list a _, ⟨_, Heap.get?_push_size _ rfl, rfl, rfl⟩, fun b hb => ?_, q⟩
    have e : b = s1.heap.objs.size := by simpa using hb
    subst e
    exact I1.fpOk (Nat.le_refl _) (I1.hok.fresh (Nat.le_refl _))
  · subst e
    cases r1
    obtain ⟨its, rv, p, hz⟩ := I1.tuple hq
    refine wpAny_pyIter_tuple (show s1.heap.IsTuple a its.toArray from p) ?_
    refine ⟨s1.heap.objs.size, [s1.heap.objs.size], _, _, H1, rfl, I1.kept (t' := s1.toks) fun b o e => Heap.get?_push_of_some _ e, turn_tuple a _, ⟨_, Heap.get?_push_size _ rfl, rfl, rfl⟩, fun b hb => ?_, q⟩
    have e : b = s1.heap.objs.size := by simpa using hb
    subst e
    exact I1.fpOk (Nat.le_refl _) (I1.hok.fresh (Nat.le_refl _))
  · subst e
    obtain ⟨t, rfl⟩ := r1
    cases ha : z.cps.all (· < 128)
    · exact wpAny_pyIter_wide ha (pi_one (tk := s1.toks) I1 _ (turn_str _ z t "str_iterator" (.inr rfl)) ⟨_, Heap.get?_push_size _ rfl, rfl, rfl⟩ q)
    · exact wpAny_pyIter_ascii ha (pi_one (tk := s1.toks) I1 _ (turn_str _ z t "str_ascii_iterator" (.inl rfl)) ⟨_, Heap.get?_push_size _ rfl, rfl, rfl⟩ q)
def signsD (z : Str) : List D := z.cps.toList.map fun c => .str ⟨#[c]⟩
def seqD : D → Option (List D)
  | .lst xs => some xs
  | .scr ns => some (ns.map D.int)
  | .tup xs => some xs
  | .ktup xs => some xs
  | .str z => some (signsD z)
  | _ => none
def cItS (m : CExp) : CIt := fun ρ => (m ρ).bind fun s ρ1 => match seqD s.1 with
  | some ds => .ok ds ρ1
  | none => .stuck
section
variable {Γ : Gm} {W : WX}
theorem strOk_sign {z : Str} {c : Nat} (h : PyData.strOk z = true) (hc : c ∈ z.cps.toList) : PyData.strOk ⟨#[c]⟩ = true := by
  unfold PyData.strOk at *
  rw [Array.all_eq_true] at h
  have hm2 : c ∈ z.cps := by simpa using hc
  obtain ⟨k, hk, e2⟩ := Array.getElem_of_mem hm2
  have := h k hk
  rw [e2] at this
  simpa using this
theorem wk_str {z : Str} (h : PyData.strOk z = true) : Wk Γ (Its z) (fun _ _ => True) (signsD z) where
  pres := fun _ _ _ _ _ _ => trivial
  item := fun O H i d m _ hd => by
    unfold signsD at hd
    rw [List.getElem?_map] at hd
    cases q : z.cps.toList[i]? with
    | none => rw [q] at hd; cases hd
    | some c =>
      rw [q] at hd
      cases hd
      have hl := lt_of_at q
      refine ⟨by show i < z.cps.size; simpa using hl, fun x H' y => ?_⟩
      obtain ⟨e1, c', e2, e3⟩ := y
      subst e1 e3
      have e4 : c' = c := by
        rw [Array.getElem?_toList] at q
        rw [q] at e2
        exact (Option.some.inj e2).symm
      subst e4
      exact ⟨Ext.refl _, .str _ (strOk_sign h (List.mem_of_getElem? q))⟩
  done := fun O H _ => by
    show z.cps.size ≤ (signsD z).length
    simp [signsD]
theorem SI.seq {tl : TE} {m : CExp} (h : SE Γ W tl m) : SI Γ W (iSeq Γ.K tl) (cItS m) := by
  intro Z σ ρ H R F k
  refine h.val F ?_
  unfold cItS at k
  revert k
  cases m ρ with
  | exc c fs ρ' => exact fun k => k
  | stuck => exact fun k => k
  | ok s ρ1 =>
    obtain ⟨d, b⟩ := s
    cases d with
    | lst xs =>
      intro k v H1 f1 s1 r
      cases r with
      | @lst a vs _ h n r => exact .inl ⟨a, rfl, ⟨vs, SqL.of h⟩, k _ _ H1 f1 s1 wk_list ⟨vs, SqL.of h, r, .inl ⟨h, n⟩⟩⟩
    | scr ns =>
      intro k v H1 f1 s1 r
      cases r with
      | @scr a _ h =>
        refine .inl ⟨a, rfl, ⟨_, h.sq⟩, k _ _ H1 f1 s1 wk_list ⟨_, h.sq, ints_reps ns, .inr ⟨?_, ?_⟩⟩⟩
        · rw [ints_fm]; exact h
        · rw [ints_fm]
    | tup xs =>
      intro k v H1 f1 s1 r
      cases r with
      | @tup a vs _ h r => exact .inr (.inl ⟨a, rfl, ⟨vs, SqT.of h⟩, k _ _ H1 f1 s1 wk_tup ⟨vs, .inl h, r⟩⟩)
    | ktup xs =>
      intro k v H1 f1 s1 r
      cases r with
      | @ktup a vs _ h r => exact .inr (.inl ⟨a, rfl, ⟨vs, .inr h⟩, k _ _ H1 f1 s1 wk_tup ⟨vs, .inr h, r⟩⟩)
    | str z =>
      intro k v H1 f1 s1 r
      cases r with
      | str _ h => exact .inr (.inr ⟨z, rfl, k _ _ H1 f1 s1 (wk_str h) trivial⟩)
    | _ => exact fun k => k.elim
end
theorem ci_seq {X : Cx} {ct : Nat → Addr} {W : WX} {tg e : Expr} {m : CExp} (h : CE X ct W e m) : CI X ct W tg e (cItS m) := by
  obtain ⟨t, p, q⟩ := h
  exact ⟨_, pi_seq p, SI.seq q⟩
/-! ### list(x) of anything known -/
def pListA : List D → Option Slot
  | [.dK kvs] => pListD [.dK kvs]
  | ds => pList' ds
def rListA (K : PySem.W.Frag) : List V → Hp → VK → Prop := fun xs H Q => rList1 K xs H Q ∨ rListD xs H Q
theorem cr_list {X : Cx} (hc : X.calm = true) : CallR X (.type "list") (rListA X.K) := callOr call_list_of (call_list_dK hc)
theorem prListA {Γ : Gm} : PrimR Γ (rListA Γ.K) pListA := by
  intro O H vs ds s Q m b e k
  unfold pListA at e
  split at e
  · exact .inr (prListD O H vs _ s Q m b e k)
  · exact .inl (prList O H vs _ s Q m b e k)
theorem cr_tuple {X : Cx} : CallR X (.type "tuple") (rTuple1 X.K) := call_tuple_of
end VS

namespace VS
open PySem L2
/-! ### reckoning with meanings: what simp unfolds -/
@[simp] theorem e_cSeq (a b : CStm) (ρ : Sl) : cSeq a b ρ = match a ρ with | .ok .nx ρ1 => b ρ1 | r => r := rfl
@[simp] theorem e_cIf (c : CTst) (a b : CStm) (ρ : Sl) : cIf c a b ρ = (c ρ).bind fun x ρ1 => if x = true then a ρ1 else b ρ1 := rfl
@[simp] theorem e_cTst (m : CExp) (ρ : Sl) : cTst m ρ = (m ρ).bind fun s ρ' => match s.1 with | .bl b => .ok b ρ' | _ => .stuck := rfl
@[simp] theorem e_cAnd (a b : CTst) (ρ : Sl) : cAnd a b ρ = (a ρ).bind fun x ρ1 => if x = true then b ρ1 else .ok false ρ1 := rfl
@[simp] theorem e_cOr (a b : CTst) (ρ : Sl) : cOr a b ρ = (a ρ).bind fun x ρ1 => if x = true then .ok true ρ1 else b ρ1 := rfl
@[simp] theorem e_cNot (a : CTst) (ρ : Sl) : cNot a ρ = (a ρ).bind fun x ρ1 => .ok (!x) ρ1 := rfl
@[simp] theorem e_cAndV (a b : CExp) (ρ : Sl) : cAndV a b ρ = (a ρ).bind fun x ρ1 => match x.1 with | .bl true => b ρ1 | .bl false => .ok (.bl false, false) ρ1 | _ => .stuck := rfl
@[simp] theorem e_cOrV (a b : CExp) (ρ : Sl) : cOrV a b ρ = (a ρ).bind fun x ρ1 => match x.1 with | .bl true => .ok (.bl true, false) ρ1 | .bl false => b ρ1 | _ => .stuck := rfl
@[simp] theorem e_cNotV (a : CExp) (ρ : Sl) : cNotV a ρ = (a ρ).bind fun x ρ1 => match x.1 with | .bl b => .ok (.bl (!b), false) ρ1 | _ => .stuck := rfl
@[simp] theorem e_cIfE (c : CTst) (a b : CExp) (ρ : Sl) : cIfE c a b ρ = (c ρ).bind fun x ρ1 => if x = true then a ρ1 else b ρ1 := rfl
@[simp] theorem e_cPrim (f : List D → Option Slot) (os : List Opd) (ρ : Sl) : cPrim f os ρ = (evO os ρ).bind fun xs ρ' => fin f os xs ρ' := rfl
@[simp] theorem e_fin (f : List D → Option Slot) (os : List Opd) (xs : List (Option D)) (ρ : Sl) : fin f os xs ρ = match late os xs ρ with | some ds => (match f ds with | some s => .ok s ρ | none => .stuck) | none => .stuck := rfl
@[simp] theorem e_evO_nil (ρ : Sl) : evO [] ρ = .ok [] ρ := rfl
@[simp] theorem e_evO_v (i : Nat) (os : List Opd) (ρ : Sl) : evO (.v i :: os) ρ = match ρ[i]? with | some (some _) => (evO os ρ).bind fun xs ρ' => .ok (none :: xs) ρ' | _ => .stuck := rfl
@[simp] theorem e_evO_e (m : CExp) (os : List Opd) (ρ : Sl) : evO (.e m :: os) ρ = (m ρ).bind fun s ρ1 => (evO os ρ1).bind fun xs ρ2 => .ok (some s.1 :: xs) ρ2 := rfl
@[simp] theorem e_late_nil (ρ : Sl) : late [] [] ρ = some [] := rfl
@[simp] theorem e_late_v (i : Nat) (os : List Opd) (xs : List (Option D)) (ρ : Sl) : late (.v i :: os) (none :: xs) ρ = match ρ[i]?, late os xs ρ with | some (some s), some ds => some (s.1 :: ds) | _, _ => none := rfl
@[simp] theorem e_late_e (m : CExp) (d : D) (os : List Opd) (xs : List (Option D)) (ρ : Sl) : late (.e m :: os) (some d :: xs) ρ = match late os xs ρ with | some ds => some (d :: ds) | none => none := rfl
@[simp] theorem e_cC (d : D) (ρ : Sl) : cC d ρ = .ok (d, false) ρ := rfl
@[simp] theorem e_cVar (i : Nat) (ρ : Sl) : cVar i ρ = match ρ[i]? with | some (some (d, false)) => .ok (d, false) ρ | some (some (d, true)) => .ok (d, false) (ρ.set i (some (d, false))) | _ => .stuck := rfl
@[simp] theorem e_cMove (i : Nat) (ρ : Sl) : cMove i ρ = match ρ[i]? with | some (some (d, b)) => .ok (d, b) (ρ.set i none) | _ => .stuck := rfl
@[simp] theorem e_cRet (m : CExp) (ρ : Sl) : cRet m ρ = (m ρ).bind fun s ρ' => .ok (.rt s) ρ' := rfl
@[simp] theorem e_cRetN (ρ : Sl) : cRetN ρ = .ok (.rt (.non, false)) ρ := rfl
@[simp] theorem e_cNext (ρ : Sl) : cNext ρ = .ok .nx ρ := rfl
@[simp] theorem e_cBrk (ρ : Sl) : cBrk ρ = .ok .bk ρ := rfl
@[simp] theorem e_cCnt (ρ : Sl) : cCnt ρ = .ok .ct ρ := rfl
@[simp] theorem e_cAsg (i : Nat) (m : CExp) (ρ : Sl) : cAsg i m ρ = (m ρ).bind fun s ρ' => .ok .nx (ρ'.set i (some s)) := rfl
@[simp] theorem e_cDrop (m : CExp) (ρ : Sl) : cDrop m ρ = (m ρ).bind fun _ ρ' => .ok .nx ρ' := rfl
@[simp] theorem e_cAsgT (tg : D → Sl → Option Sl) (m : CExp) (ρ : Sl) : cAsgT tg m ρ = (m ρ).bind fun s ρ' => match tg s.1 ρ' with | some ρ2 => .ok .nx ρ2 | none => .stuck := rfl
@[simp] theorem e_tgN (i : Nat) (d : D) (ρ : Sl) : tgN i d ρ = some (ρ.set i (some (d, false))) := rfl
@[simp] theorem e_tgNil (ρ : Sl) : tgNil [] ρ = some ρ := rfl
@[simp] theorem e_tgCons (a : D → Sl → Option Sl) (b : List D → Sl → Option Sl) (d : D) (r : List D) (ρ : Sl) : tgCons a b (d :: r) ρ = match a d ρ with | some ρ1 => b r ρ1 | none => none := rfl
@[simp] theorem e_tgTup (n : Nat) (b : List D → Sl → Option Sl) (ds : List D) (ρ : Sl) : tgTup n b (.tup ds) ρ = if ds.length = n then b ds ρ else none := rfl
@[simp] theorem e_tgKTup (n : Nat) (b : List D → Sl → Option Sl) (ds : List D) (ρ : Sl) : tgTup n b (.ktup ds) ρ = if ds.length = n then b ds ρ else none := rfl
@[simp] theorem e_cFor (it : CIt) (tg : D → Sl → Option Sl) (body : CStm) (ρ : Sl) : cFor it tg body ρ = (it ρ).bind fun ds ρ1 => loop tg body ds ρ1 := rfl
@[simp] theorem e_cItS (m : CExp) (ρ : Sl) : cItS m ρ = (m ρ).bind fun s ρ1 => match seqD s.1 with | some ds => .ok ds ρ1 | none => .stuck := rfl
@[simp] theorem e_seqD_lst (xs : List D) : seqD (.lst xs) = some xs := rfl
@[simp] theorem e_seqD_tup (xs : List D) : seqD (.tup xs) = some xs := rfl
@[simp] theorem e_seqD_ktup (xs : List D) : seqD (.ktup xs) = some xs := rfl
@[simp] theorem e_seqD_scr (ns : List Int) : seqD (.scr ns) = some (ns.map D.int) := rfl
@[simp] theorem e_seqD_str (z : Str) : seqD (.str z) = some (signsD z) := rfl
@[simp] theorem e_cItR1 (o : Opd) (ρ : Sl) : cItR1 o ρ = (evO [o] ρ).bind fun xs ρ1 => match late [o] xs ρ1 with | some [.int n] => if n.natAbs < 2 ^ 62 then .ok (rngD 0 n.toNat) ρ1 else .stuck | _ => .stuck := rfl
@[simp] theorem e_cItR2 (o o2 : Opd) (ρ : Sl) : cItR2 o o2 ρ = (evO [o, o2] ρ).bind fun xs ρ1 => match late [o, o2] xs ρ1 with | some [.int m, .int n] => if m.natAbs < 2 ^ 62 ∧ n.natAbs < 2 ^ 62 then .ok (rngD m (n - m).toNat) ρ1 else .stuck | _ => .stuck := rfl
@[simp] theorem e_cSet (i : Nat) (ix val : CExp) (ρ : Sl) : cSet i ix val ρ = (val ρ).bind fun s ρ1 => (match ρ1[i]? with
  | some (some _) => (ix ρ1).bind fun k ρ2 => (match ρ2[i]? with
    | some (some (d, true)) => (match dStore d k.1 s.1 with
      | some d' => .ok .nx (ρ2.set i (some (d', true)))
      | none => .stuck)
    | _ => .stuck)
  | _ => .stuck) := rfl
@[simp] theorem e_cAug (i : Nat) (f : List D → Option Slot) (m : CExp) (ρ : Sl) : cAug i f m ρ = match ρ[i]? with
  | some (some _) => (m ρ).bind fun s ρ1 => (match fin f [.v i, .e m] [none, some s.1] ρ1 with
    | .ok z ρ2 => .ok .nx (ρ2.set i (some z))
    | .exc c fs ρ2 => .exc c fs ρ2
    | .stuck => .stuck)
  | _ => .stuck := rfl
@[simp] theorem e_cMut (i : Nat) (pk : D → Bool) (f : D → List D → Option (D × D)) (os : List Opd) (ρ : Sl) : cMut i pk f os ρ = match ρ[i]? with
  | some (some (d0, true)) => if pk d0 = true then (evO os ρ).bind fun xs ρ1 => (match late os xs ρ1, ρ1[i]? with
    | some ds, some (some (d, true)) => (match f d ds with
      | some (d', z) => .ok (z, false) (ρ1.set i (some (d', true)))
      | none => .stuck)
    | _, _ => .stuck) else .stuck
  | _ => .stuck := rfl
@[simp] theorem e_cApp (i : Nat) (m : CExp) : cApp i m = cMut i isLst fApp [.e m] := rfl
@[simp] theorem e_cPop (i : Nat) : cPop i = cMut i isLst fPop [] := rfl
@[simp] theorem e_cClear (i : Nat) : cClear i = cMut i isLst fClear [] := rfl
@[simp] theorem e_isLst (xs : List D) : isLst (.lst xs) = true := rfl
@[simp] theorem e_isDict (xs : List (Key × D)) : isDict (.dK xs) = true := rfl
@[simp] theorem e_isDictT (xs : List (List Key × D)) : isDict (.dT xs) = true := rfl
@[simp] theorem e_isStr (x : Str) : isStr (.str x) = true := rfl
@[simp] theorem e_fApp (xs : List D) (d : D) : fApp (.lst xs) [d] = if xs.length < sizeLine then some (.lst (xs ++ [d]), .non) else none := rfl
@[simp] theorem e_fPop (xs : List D) : fPop (.lst xs) [] = match xs[xs.length - 1]? with | some d => some (.lst xs.dropLast, d) | none => none := rfl
@[simp] theorem e_fClear (xs : List D) : fClear (.lst xs) [] = some (.lst [], .non) := rfl
@[simp] theorem e_cRecv_v (pk : D → Bool) (f : List D → Option Slot) (i : Nat) (os : List Opd) (ρ : Sl) : cRecv pk f (.v i) os ρ = match ρ[i]? with
    | some (some s) => if pk s.1 = true then cPrim f (.v i :: os) ρ else .stuck
    | _ => .stuck := rfl
@[simp] theorem e_cRecv_e (pk : D → Bool) (f : List D → Option Slot) (m : CExp) (os : List Opd) (ρ : Sl) : cRecv pk f (.e m) os ρ = (m ρ).bind fun s ρ1 => if pk s.1 = true then (evO os ρ1).bind fun xs ρ2 => fin f (.e m :: os) (some s.1 :: xs) ρ2 else .stuck := rfl
@[simp] theorem e_cCall (F : CFun) (os : List Opd) (ρ : Sl) : cCall F os ρ = (evO os ρ).bind fun xs ρ1 => match argS os xs ρ1, noDup os ρ1 with
  | some args, true => match F args with
    | .ok s as => .ok s (backF os as 0 ρ1)
    | .exc c fs as => .exc c fs (backF os as 0 ρ1)
    | .stuck => .stuck
  | _, _ => .stuck := rfl
@[simp] theorem e_argS_nil (ρ : Sl) : argS [] [] ρ = some [] := rfl
@[simp] theorem e_argS_v (i : Nat) (os : List Opd) (xs : List (Option D)) (ρ : Sl) : argS (.v i :: os) (none :: xs) ρ = match ρ[i]?, argS os xs ρ with | some (some s), some r => some (s :: r) | _, _ => none := rfl
@[simp] theorem e_argS_e (m : CExp) (d : D) (os : List Opd) (xs : List (Option D)) (ρ : Sl) : argS (.e m :: os) (some d :: xs) ρ = match argS os xs ρ with | some r => some ((d, false) :: r) | none => none := rfl
@[simp] theorem e_noDup_nil (ρ : Sl) : noDup [] ρ = true := rfl
@[simp] theorem e_noDup_v (i : Nat) (os : List Opd) (ρ : Sl) : noDup (.v i :: os) ρ = ((match ρ[i]? with | some (some (_, true)) => !hasV os i | _ => true) && noDup os ρ) := rfl
@[simp] theorem e_noDup_e (m : CExp) (os : List Opd) (ρ : Sl) : noDup (.e m :: os) ρ = noDup os ρ := rfl
@[simp] theorem e_hasV_nil (j : Nat) : hasV [] j = false := rfl
@[simp] theorem e_hasV_v (i j : Nat) (os : List Opd) : hasV (.v i :: os) j = (decide (i = j) || hasV os j) := rfl
@[simp] theorem e_hasV_e (m : CExp) (j : Nat) (os : List Opd) : hasV (.e m :: os) j = hasV os j := rfl
@[simp] theorem e_backF_nil (os : List Opd) (as : List (Option Slot)) (k : Nat) : backF os as k [] = [] := rfl
@[simp] theorem e_backF_cons (os : List Opd) (as : List (Option Slot)) (k : Nat) (s : Option Slot) (r : Sl) : backF os as k (s :: r) = updA os as k s :: backF os as (k + 1) r := rfl
@[simp] theorem e_updA_n (os : List Opd) (as : List (Option Slot)) (j : Nat) : updA os as j none = none := rfl
@[simp] theorem e_updA_f (os : List Opd) (as : List (Option Slot)) (j : Nat) (d : D) : updA os as j (some (d, false)) = some (d, false) := rfl
@[simp] theorem e_updA_t (os : List Opd) (as : List (Option Slot)) (j : Nat) (d : D) : updA os as j (some (d, true)) = match findA os as j with | some a => a | none => some (d, true) := rfl
@[simp] theorem e_findA_nil (as : List (Option Slot)) (j : Nat) : findA [] as j = none := rfl
@[simp] theorem e_findA_v (i j : Nat) (os : List Opd) (a : Option Slot) (as : List (Option Slot)) : findA (.v i :: os) (a :: as) j = if i = j then some a else findA os as j := rfl
@[simp] theorem e_findA_e (m : CExp) (j : Nat) (os : List Opd) (a : Option Slot) (as : List (Option Slot)) : findA (.e m :: os) (a :: as) j = findA os as j := rfl
@[simp] theorem e_bodyF (fx : List Nat) (n : Nat) (m : CStm) (args : List Slot) : bodyF fx n m args = match m ((maskF fx 0 args).map some ++ List.replicate (n - args.length) none) with
  | .ok .nx ρ' => .ok (.non, false) (outsF fx ρ' 0 args)
  | .ok (.rt s) ρ' => .ok s (outsF fx ρ' 0 args)
  | .exc c fs ρ' => .exc c fs (outsF fx ρ' 0 args)
  | _ => .stuck := rfl
@[simp] theorem e_maskF_nil (fx : List Nat) (k : Nat) : maskF fx k [] = [] := rfl
@[simp] theorem e_maskF_cons (fx : List Nat) (k : Nat) (s : Slot) (r : List Slot) : maskF fx k (s :: r) = (if k ∈ fx then s else (s.1, false)) :: maskF fx (k + 1) r := rfl
@[simp] theorem e_outsF_nil (fx : List Nat) (ρ : Sl) (k : Nat) : outsF fx ρ k [] = [] := rfl
@[simp] theorem e_outsF_cons (fx : List Nat) (ρ : Sl) (k : Nat) (s : Slot) (r : List Slot) : outsF fx ρ k (s :: r) = (if k ∈ fx then (match ρ[k]? with | some x => x | none => none) else some (s.1, false)) :: outsF fx ρ (k + 1) r := rfl
@[simp] theorem e_cDK (ρ : Sl) : cDK ρ = .ok (.dK [], true) ρ := rfl
@[simp] theorem e_cDT (ρ : Sl) : cDT ρ = .ok (.dT [], true) ρ := rfl
@[simp] theorem e_cYes (ρ : Sl) : cYes ρ = .ok true ρ := rfl
@[simp] theorem e_cLc (it : CIt) (tg : D → Sl → Option Sl) (c : CTst) (e : CExp) (vs : List Nat) (ρ : Sl) : cLc it tg c e vs ρ = (it ρ).bind fun ds ρ1 => if noOwn ρ1 vs = true then (match lcGo tg c e vs ds [] (wipeS ρ1 vs) with
  | .ok acc ρ2 => .ok (.lst acc, true) (backS ρ1 ρ2 vs)
  | _ => .stuck) else .stuck := rfl
@[simp] theorem e_wipeS_nil (ρ : Sl) : wipeS ρ [] = ρ := rfl
@[simp] theorem e_wipeS_cons (ρ : Sl) (v : Nat) (vs : List Nat) : wipeS ρ (v :: vs) = (wipeS ρ vs).set v none := rfl
@[simp] theorem e_backS_nil (ρ0 ρ : Sl) : backS ρ0 ρ [] = ρ := rfl
@[simp] theorem e_backS_cons (ρ0 ρ : Sl) (v : Nat) (vs : List Nat) : backS ρ0 ρ (v :: vs) = match ρ0[v]? with | some x => (backS ρ0 ρ vs).set v x | none => backS ρ0 ρ vs := rfl
@[simp] theorem e_noOwn_nil (ρ : Sl) : noOwn ρ [] = true := rfl
@[simp] theorem e_noOwn_cons (ρ : Sl) (v : Nat) (vs : List Nat) : noOwn ρ (v :: vs) = ((match ρ[v]? with | some (some (_, true)) => false | _ => true) && noOwn ρ vs) := rfl
/-! primitives -/
@[simp] theorem e_add_i (i j : Int) : pAdd [.int i, .int j] = some (.int (i + j), false) := rfl
@[simp] theorem e_add_s (x y : Str) : pAdd [.str x, .str y] = if x.length + y.length ≤ sizeLine then some (.str (x ++ y), false) else none := rfl
@[simp] theorem e_add_l (xs ys : List D) : pAdd [.lst xs, .lst ys] = if xs.length + ys.length ≤ sizeLine then some (.lst (xs ++ ys), true) else none := rfl
@[simp] theorem e_sub (i j : Int) : pSub [.int i, .int j] = some (.int (i - j), false) := rfl
@[simp] theorem e_mul (i j : Int) : pMul [.int i, .int j] = if cMulB i j = true then some (.int (i * j), false) else none := rfl
@[simp] theorem e_div (i j : Int) : pDiv [.int i, .int j] = if cDivB i j = true then some (.int (i / j), false) else none := rfl
@[simp] theorem e_mod (i j : Int) : pMod [.int i, .int j] = if cModB i j = true then some (.int (i % j), false) else none := rfl
@[simp] theorem e_pow (i j : Int) : pPow [.int i, .int j] = if cPowB i j = true then some (.int (i ^ j.toNat), false) else none := rfl
@[simp] theorem e_neg (i : Int) : pNeg [.int i] = some (.int (-i), false) := rfl
@[simp] theorem e_mulB_ofNat (i : Int) (n : Nat) (h : n < 18446744073709551616) : cMulB i (no_index (@OfNat.ofNat Int n instOfNat)) = true := by
  unfold cMulB
  rw [Bool.or_eq_true]
  exact .inr (decide_eq_true h)
@[simp] theorem e_mulB_ofNat' (j : Int) (n : Nat) (h : n < 18446744073709551616) : cMulB (no_index (@OfNat.ofNat Int n instOfNat)) j = true := by
  unfold cMulB
  rw [Bool.or_eq_true]
  exact .inl (decide_eq_true h)
@[simp] theorem e_cDivB (i j : Int) : cDivB i j = (decide (0 < j) && decide (j.natAbs < 1073741824)) := rfl
@[simp] theorem e_cModB (i j : Int) : cModB i j = decide (0 < j) := rfl
@[simp] theorem e_cPowB (i j : Int) : cPowB i j = (decide (0 ≤ j) && decide (j.natAbs ≤ 1000000) && decide (i.natAbs < 2 ^ 64)) := rfl
@[simp] theorem e_lt (i j : Int) : pLt [.int i, .int j] = some (.bl (decide (i < j)), false) := rfl
@[simp] theorem e_le (i j : Int) : pLe [.int i, .int j] = some (.bl (decide (i ≤ j)), false) := rfl
@[simp] theorem e_gt (i j : Int) : pGt [.int i, .int j] = some (.bl (decide (j < i)), false) := rfl
@[simp] theorem e_ge (i j : Int) : pGe [.int i, .int j] = some (.bl (decide (j ≤ i)), false) := rfl
@[simp] theorem e_isN (d : D) : pIsN [d, .non] = some (.bl (isNon d), false) := rfl
@[simp] theorem e_notN (d : D) : pNotN [d, .non] = some (.bl (!isNon d), false) := rfl
@[simp] theorem e_isNon : isNon .non = true := rfl
@[simp] theorem e_isNon_i (i : Int) : isNon (.int i) = false := rfl
@[simp] theorem e_isNon_s (x : Str) : isNon (.str x) = false := rfl
@[simp] theorem e_isNon_b (x : Bool) : isNon (.bl x) = false := rfl
@[simp] theorem e_isNon_t (xs : List D) : isNon (.tup xs) = false := rfl
@[simp] theorem e_isNon_l (xs : List D) : isNon (.lst xs) = false := rfl
@[simp] theorem e_isNon_k (xs : List (Key × D)) : isNon (.dK xs) = false := rfl
@[simp] theorem e_eq_i (i j : Int) : pEqA [.int i, .int j] = some (.bl (i == j), false) := rfl
@[simp] theorem e_eq_s (x y : Str) : pEqA [.str x, .str y] = some (.bl (x == y), false) := rfl
@[simp] theorem e_eq_b (x y : Bool) : pEqA [.bl x, .bl y] = some (.bl (x == y), false) := rfl
@[simp] theorem e_eq_k (a b : List (Key × D)) : pEqA [.dK a, .dK b] = if eqK a b = true then some (.bl true, false) else none := rfl
@[simp] theorem e_ne_i (i j : Int) : pNe [.int i, .int j] = some (.bl (!(i == j)), false) := rfl
@[simp] theorem e_ne_s (x y : Str) : pNe [.str x, .str y] = some (.bl (!(x == y)), false) := rfl
@[simp] theorem e_ne_b (x y : Bool) : pNe [.bl x, .bl y] = some (.bl (!(x == y)), false) := rfl
@[simp] theorem e_idx (d i : D) : pIdx [d, i] = (dAt d i).map fun z => (z, false) := rfl
@[simp] theorem e_at_l (xs : List D) (i : Int) : dAt (.lst xs) (.int i) = atI xs i := rfl
@[simp] theorem e_at_t (xs : List D) (i : Int) : dAt (.tup xs) (.int i) = atI xs i := rfl
@[simp] theorem e_at_kt (xs : List D) (i : Int) : dAt (.ktup xs) (.int i) = atI xs i := rfl
@[simp] theorem e_at_scr (ns : List Int) (i : Int) : dAt (.scr ns) (.int i) = (atI ns i).map D.int := rfl
theorem e_at_s (x : Str) (i : Int) : dAt (.str x) (.int i) = if x.length ≤ sizeLine then (atI x.cps.toList i).map fun c => .str ⟨#[c]⟩ else none := rfl
@[simp] theorem e_at_k (kvs : List (Key × D)) (x : Str) : dAt (.dK kvs) (.str x) = dGet kvs (.inr x) := rfl
@[simp] theorem e_at_ki (kvs : List (Key × D)) (i : Int) : dAt (.dK kvs) (.int i) = dGet kvs (.inl i) := rfl
@[simp] theorem e_len (d : D) : pLen [d] = (dLen d).map fun (n : Nat) => (.int (n : Int), false) := rfl
@[simp] theorem e_len_l (xs : List D) : dLen (.lst xs) = some xs.length := rfl
@[simp] theorem e_len_t (xs : List D) : dLen (.tup xs) = some xs.length := rfl
@[simp] theorem e_len_kt (xs : List D) : dLen (.ktup xs) = some xs.length := rfl
@[simp] theorem e_len_scr (xs : List Int) : dLen (.scr xs) = some xs.length := rfl
@[simp] theorem e_len_s (x : Str) : dLen (.str x) = if x.length ≤ sizeLine then some x.length else none := rfl
@[simp] theorem e_len_k (kvs : List (Key × D)) : dLen (.dK kvs) = some kvs.length := rfl
@[simp] theorem e_abs (i : Int) : pAbs [.int i] = some (.int (if i < 0 then -i else i), false) := rfl
@[simp] theorem e_int (i : Int) : pInt [.int i] = some (.int i, false) := rfl
@[simp] theorem e_int_b (b : Bool) : pInt [.bl b] = some (.int (if b then 1 else 0), false) := rfl
@[simp] theorem e_min (i j : Int) : pMin2 [.int i, .int j] = some (.int (if j < i then j else i), false) := rfl
@[simp] theorem e_max (i j : Int) : pMax2 [.int i, .int j] = some (.int (if j > i then j else i), false) := rfl
@[simp] theorem e_isi (d : D) (b : String) : pIsi [d, .ty b] = match tyD d with | some a => (isiB a b).map fun r => (.bl r, false) | none => none := rfl
@[simp] theorem e_ty_non : tyD .non = some "NoneType" := rfl
@[simp] theorem e_ty_bl (b : Bool) : tyD (.bl b) = some "bool" := rfl
@[simp] theorem e_ty_int (i : Int) : tyD (.int i) = some "int" := rfl
@[simp] theorem e_ty_str (i : Str) : tyD (.str i) = some "str" := rfl
@[simp] theorem e_ty_tup (i : List D) : tyD (.tup i) = some "tuple" := rfl
@[simp] theorem e_ty_ktup (i : List D) : tyD (.ktup i) = some "tuple" := rfl
@[simp] theorem e_ty_lst (i : List D) : tyD (.lst i) = some "list" := rfl
@[simp] theorem e_ty_scr (i : List Int) : tyD (.scr i) = some "list" := rfl
@[simp] theorem e_ty_dK (i : List (Key × D)) : tyD (.dK i) = some "dict" := rfl
@[simp] theorem e_ty_dT (i : List (List Key × D)) : tyD (.dT i) = some "dict" := rfl
@[simp] theorem e_isiB (a b : String) : isiB a b = if b = "int" then some (a == "int" || a == "bool") else if b = "bool" ∨ b = "str" ∨ b = "tuple" ∨ b = "list" ∨ b = "dict" then some (a == b) else none := rfl
@[simp] theorem e_tup (ds : List D) : pTup ds = if ds.length ≤ 1000 then some (.tup ds, false) else none := rfl
@[simp] theorem e_lst (ds : List D) : pLst ds = if ds.length ≤ 1000 then some (.lst ds, true) else none := rfl
@[simp] theorem e_rev (xs : List D) : pRev [.lst xs] = some (.lst xs.reverse, true) := rfl
@[simp] theorem e_list_l (xs : List D) : pListA [.lst xs] = some (.lst xs, true) := rfl
@[simp] theorem e_list_t (xs : List D) : pListA [.tup xs] = some (.lst xs, true) := rfl
@[simp] theorem e_list_k (kvs : List (Key × D)) : pListA [.dK kvs] = some (.lst (kvs.map fun kv => keyD kv.1), true) := rfl
@[simp] theorem e_tuple_l (xs : List D) : pTuple [.lst xs] = some (.tup xs, false) := rfl
@[simp] theorem e_dict (kvs : List (Key × D)) : pDict [.dK kvs] = some (.dK kvs, true) := rfl
@[simp] theorem e_get2 (d k x : D) : pGet2 [d, k, x] = if flat1 x = true then (match dLook d k with | some (some z) => some (z, false) | some none => some (x, false) | none => none) else none := rfl
@[simp] theorem e_flat1_i (i : Int) : flat1 (.int i) = true := rfl
@[simp] theorem e_look_k (kvs : List (Key × D)) (x : Str) : dLook (.dK kvs) (.str x) = some (dGet kvs (.inr x)) := rfl
@[simp] theorem e_look_ki (kvs : List (Key × D)) (i : Int) : dLook (.dK kvs) (.int i) = some (dGet kvs (.inl i)) := rfl
@[simp] theorem e_join (a : Str) (xs : List D) : pJoin [.str a, .lst xs] = match strsOf xs with | some ys => if (ys.map (·.length)).sum + ys.length * a.length ≤ 16777216 then some (.str (Str.join a ys), false) else none | none => none := rfl
@[simp] theorem e_store_l (xs : List D) (i : Int) (v : D) : dStore (.lst xs) (.int i) v = (ixN xs.length i).map fun j => .lst (xs.set j v) := rfl
@[simp] theorem e_store_k (kvs : List (Key × D)) (x : Str) (v : D) : dStore (.dK kvs) (.str x) v = if kvs.length < sizeLine then some (.dK (dPut kvs (.inr x) v)) else none := rfl
@[simp] theorem e_store_ki (kvs : List (Key × D)) (x : Int) (v : D) : dStore (.dK kvs) (.int x) v = if kvs.length < sizeLine then some (.dK (dPut kvs (.inl x) v)) else none := rfl
@[simp] theorem e_addI (i j : Int) : pAddI [.int i, .int j] = some (.int (i + j), false) := rfl
theorem sz (n : Nat) : (n ≤ sizeLine) = (n ≤ 16777216) := by rw [sizeLine_eq]
/-! ### loops -/
theorem loop_ind {tg : D → Sl → Option Sl} {body : CStm} {ds : List D} {ρ : Sl} (I : Nat → Sl → Prop) {P : Res Out → Prop} (h0 : I 0 ρ)
    (hs : ∀ i d ρ, ds[i]? = some d → I i ρ → ∃ ρ1, tg d ρ = some ρ1 ∧ ((∃ ρ2, body ρ1 = .ok .nx ρ2 ∧ I (i + 1) ρ2) ∨ (∃ ρ2, body ρ1 = .ok .ct ρ2 ∧ I (i + 1) ρ2) ∨ (∃ ρ2, body ρ1 = .ok .bk ρ2 ∧ P (.ok .nx ρ2)) ∨ (∃ s ρ2, body ρ1 = .ok (.rt s) ρ2 ∧ P (.ok (.rt s) ρ2)) ∨ (∃ c fs ρ2, body ρ1 = .exc c fs ρ2 ∧ P (.exc c fs ρ2))))
    (hd : ∀ ρ, I ds.length ρ → P (.ok .nx ρ)) : P (loop tg body ds ρ) := by
  have go : ∀ (es : List D) (k : Nat) (ρ : Sl), ds.drop k = es → I k ρ → k ≤ ds.length → P (loop tg body es ρ) := by
    intro es
    induction es with
    | nil =>
      intro k ρ e h hk
      have : ds.length ≤ k := List.drop_eq_nil_iff.mp e
      have : k = ds.length := by omega
      subst this
      exact hd ρ h
    | cons d es ih =>
      intro k ρ e h hk
      have hk2 : k < ds.length := by
        by_cases q : k < ds.length
        · exact q
        · rw [List.drop_eq_nil_iff.mpr (by omega)] at e; cases e
      rw [List.drop_eq_getElem_cons hk2] at e
      injection e with e1 e2
      obtain ⟨ρ1, t1, h1⟩ := hs k d ρ (by rw [List.getElem?_eq_getElem hk2, e1]) h
      unfold loop
      rw [t1]
      simp only
      rcases h1 with ⟨ρ2, b, h2⟩ | ⟨ρ2, b, h2⟩ | ⟨ρ2, b, h2⟩ | ⟨s, ρ2, b, h2⟩ | ⟨c, fs, ρ2, b, h2⟩
      · rw [b]; exact ih (k + 1) ρ2 e2 h2 hk2
      · rw [b]; exact ih (k + 1) ρ2 e2 h2 hk2
      · rw [b]; exact h2
      · rw [b]; exact h2
      · rw [b]; exact h2
  exact go ds 0 ρ rfl h0 (Nat.zero_le _)
/-- a loop that only goes on -/
theorem loop_go {tg : D → Sl → Option Sl} {body : CStm} {ds : List D} {ρ : Sl} (I : Nat → Sl → Prop) (h0 : I 0 ρ)
    (hs : ∀ i d ρ, ds[i]? = some d → I i ρ → ∃ ρ1 ρ2, tg d ρ = some ρ1 ∧ body ρ1 = .ok .nx ρ2 ∧ I (i + 1) ρ2) : ∃ ρ', loop tg body ds ρ = .ok .nx ρ' ∧ I ds.length ρ' :=
  loop_ind (P := fun r => ∃ ρ', r = .ok .nx ρ' ∧ I ds.length ρ') I h0 (fun i d ρ hd h => by
    obtain ⟨ρ1, ρ2, t, b, h2⟩ := hs i d ρ hd h
    exact ⟨ρ1, t, .inl ⟨ρ2, b, h2⟩⟩) fun ρ h => ⟨ρ, rfl, h⟩
theorem loop_nxN {j : Nat} {body : CStm} {d : D} {ds : List D} {ρ ρ2 : Sl} (h : body (ρ.set j (some (d, false))) = .ok .nx ρ2) : loop (tgN j) body (d :: ds) ρ = loop (tgN j) body ds ρ2 := by
  conv => lhs; unfold loop
  simp only [e_tgN, h]
theorem loop_nil {tg : D → Sl → Option Sl} {body : CStm} {ρ : Sl} : loop tg body [] ρ = .ok .nx ρ := rfl
/-- the target a name -/
theorem loop_goN {j : Nat} {body : CStm} {ds : List D} {ρ : Sl} (I : Nat → Sl → Prop) (h0 : I 0 ρ)
    (hs : ∀ i d ρ, ds[i]? = some d → I i ρ → ∃ ρ2, body (ρ.set j (some (d, false))) = .ok .nx ρ2 ∧ I (i + 1) ρ2) : ∃ ρ', loop (tgN j) body ds ρ = .ok .nx ρ' ∧ I ds.length ρ' :=
  loop_go I h0 fun i d ρ hd h => by
    obtain ⟨ρ2, b, h2⟩ := hs i d ρ hd h
    exact ⟨_, ρ2, rfl, b, h2⟩
theorem loop_indN {j : Nat} {body : CStm} {ds : List D} {ρ : Sl} (I : Nat → Sl → Prop) {P : Res Out → Prop} (h0 : I 0 ρ)
    (hs : ∀ i d ρ, ds[i]? = some d → I i ρ → ((∃ ρ2, body (ρ.set j (some (d, false))) = .ok .nx ρ2 ∧ I (i + 1) ρ2) ∨ (∃ ρ2, body (ρ.set j (some (d, false))) = .ok .ct ρ2 ∧ I (i + 1) ρ2) ∨ (∃ ρ2, body (ρ.set j (some (d, false))) = .ok .bk ρ2 ∧ P (.ok .nx ρ2)) ∨ (∃ s ρ2, body (ρ.set j (some (d, false))) = .ok (.rt s) ρ2 ∧ P (.ok (.rt s) ρ2)) ∨ (∃ c fs ρ2, body (ρ.set j (some (d, false))) = .exc c fs ρ2 ∧ P (.exc c fs ρ2))))
    (hd : ∀ ρ, I ds.length ρ → P (.ok .nx ρ)) : P (loop (tgN j) body ds ρ) := loop_ind I h0 (fun i d ρ hd h => ⟨_, rfl, hs i d ρ hd h⟩) hd
theorem lc_go {tg : D → Sl → Option Sl} {c : CTst} {e : CExp} {vs : List Nat} {ds : List D} {ρ : Sl} (I : Nat → List D → Sl → Prop) (h0 : I 0 [] ρ)
    (hs : ∀ i d acc ρ, ds[i]? = some d → I i acc ρ → ∃ ρ1, tg d ρ = some ρ1 ∧ ((∃ ρ2 s ρ3, c ρ1 = .ok true ρ2 ∧ e ρ2 = .ok s ρ3 ∧ acc.length < sizeLine ∧ I (i + 1) (acc ++ [s.1]) (wipeS ρ3 vs)) ∨ (∃ ρ2, c ρ1 = .ok false ρ2 ∧ I (i + 1) acc (wipeS ρ2 vs)))) : ∃ acc ρ', lcGo tg c e vs ds [] ρ = .ok acc ρ' ∧ I ds.length acc ρ' := by
  have go : ∀ (es : List D) (k : Nat) (acc : List D) (ρ : Sl), ds.drop k = es → I k acc ρ → k ≤ ds.length → ∃ acc' ρ', lcGo tg c e vs es acc ρ = .ok acc' ρ' ∧ I ds.length acc' ρ' := by
    intro es
    induction es with
    | nil =>
      intro k acc ρ e h hk
      have : ds.length ≤ k := List.drop_eq_nil_iff.mp e
      have : k = ds.length := by omega
      subst this
      exact ⟨acc, ρ, rfl, h⟩
    | cons d es ih =>
      intro k acc ρ e1 h hk
      have hk2 : k < ds.length := by
        by_cases q : k < ds.length
        · exact q
        · rw [List.drop_eq_nil_iff.mpr (by omega)] at e1; cases e1
      rw [List.drop_eq_getElem_cons hk2] at e1
      injection e1 with e2 e3
      obtain ⟨ρ1, t1, h1⟩ := hs k d acc ρ (by rw [List.getElem?_eq_getElem hk2, e2]) h
      unfold lcGo
      rw [t1]
      simp only
      rcases h1 with ⟨ρ2, s, ρ3, b1, b2, hz, h2⟩ | ⟨ρ2, b1, h2⟩
      · rw [b1]
        simp only [b2, if_pos hz]
        exact ih (k + 1) _ _ e3 h2 hk2
      · rw [b1]
        exact ih (k + 1) _ _ e3 h2 hk2
  exact go ds 0 [] ρ rfl h0 (Nat.zero_le _)
theorem rngD_at {lo : Int} {n i : Nat} {d : D} (h : (rngD lo n)[i]? = some d) : i < n ∧ d = .int (lo + (i : Int)) := by
  have hl : i < n := by have := lt_of_at h; rwa [rngD_len] at this
  refine ⟨hl, ?_⟩
  unfold rngD at h
  rw [List.getElem?_map, List.getElem?_range hl] at h
  exact (Option.some.inj h).symm
theorem map_some {α β : Type} {f : α → β} {xs : List α} {i : Nat} {y : β} (h : (xs.map f)[i]? = some y) : ∃ x, xs[i]? = some x ∧ y = f x := by
  rw [List.getElem?_map] at h
  cases e : xs[i]? with
  | none => rw [e] at h; cases h
  | some x => rw [e] at h; exact ⟨x, rfl, (Option.some.inj h).symm⟩
theorem atI_nat' {α : Type} {xs : List α} {i : Nat} {x : α} (h : xs[i]? = some x) : atI xs (i : Int) = some x := by
  have hl := lt_of_at h
  unfold atI ixN
  rw [if_pos (by omega), if_pos (by omega)]
  simpa using h
end VS

namespace VS
open PySem L2
/-! ### dicts as lists of pairs: laws -/
section
variable {κ α : Type} [DecidableEq κ]
theorem dHas_iff {k : κ} : ∀ {kvs : List (κ × α)}, dHas kvs k = true ↔ k ∈ kvs.map (·.1)
  | [] => by simp [dHas]
  | (k', v) :: r => by
    have := dHas_iff (k := k) (kvs := r)
    simp only [dHas, Bool.or_eq_true, decide_eq_true_eq, this, List.map_cons, List.mem_cons]
    exact ⟨fun h => h.imp Eq.symm id, fun h => h.imp Eq.symm id⟩
theorem dSet_keys {k : κ} {v : α} : ∀ {kvs : List (κ × α)}, (dSet kvs k v).map (·.1) = kvs.map (·.1)
  | [] => rfl
  | (k', u) :: r => by
    have := dSet_keys (k := k) (v := v) (kvs := r)
    unfold dSet
    simp only [List.map_cons, this]
    split <;> rfl
theorem dPut_keys {k : κ} {v : α} {kvs : List (κ × α)} : (dPut kvs k v).map (·.1) = if dHas kvs k = true then kvs.map (·.1) else kvs.map (·.1) ++ [k] := by
  unfold dPut
  split
  · exact dSet_keys
  · simp
theorem dPut_nodup {k : κ} {v : α} {kvs : List (κ × α)} (h : (kvs.map (·.1)).Nodup) : ((dPut kvs k v).map (·.1)).Nodup := by
  rw [dPut_keys]
  split
  · exact h
  · rename_i hn
    rw [List.nodup_append]
    refine ⟨h, by simp, fun a ha b hb => ?_⟩
    rw [List.mem_singleton.mp hb]
    intro e
    exact hn (dHas_iff.mpr (e ▸ ha))
theorem dGet_mem {kvs : List (κ × α)} : ∀ (h : (kvs.map (·.1)).Nodup) {p : κ × α}, p ∈ kvs → dGet kvs p.1 = some p.2 := by
  induction kvs with
  | nil => intro _ p hp; cases hp
  | cons q r ih =>
    intro h p hp
    obtain ⟨k', u⟩ := q
    simp only [List.map_cons, List.nodup_cons] at h
    rcases List.mem_cons.mp hp with e | hp
    · subst e; simp [dGet]
    · have ne : ¬ k' = p.1 := fun e => h.1 (by rw [e]; exact List.mem_map_of_mem hp)
      unfold dGet
      rw [if_neg ne]
      exact ih h.2 hp
theorem dGet_set_same {k : κ} {v : α} : ∀ {kvs : List (κ × α)}, dHas kvs k = true → dGet (dSet kvs k v) k = some v
  | [], h => by cases h
  | (k', u) :: r, h => by
    by_cases e : k' = k
    · subst e; simp [dSet, dGet]
    · have h2 : dHas r k = true := by simpa [dHas, e] using h
      have := dGet_set_same (v := v) h2
      simp [dSet, dGet, e, this]
theorem dGet_set_ne {k j : κ} {v : α} (h : k ≠ j) : ∀ {kvs : List (κ × α)}, dGet (dSet kvs k v) j = dGet kvs j
  | [] => rfl
  | (k', u) :: r => by
    have := dGet_set_ne (v := v) h (kvs := r)
    by_cases e : k' = k
    · subst e; simp [dSet, dGet, h, this]
    · simp [dSet, dGet, e, this]
theorem dGet_none {k : κ} : ∀ {kvs : List (κ × α)}, dHas kvs k = false → dGet kvs k = none
  | [], _ => rfl
  | (k', u) :: r, h => by
    have h2 : ¬ k' = k ∧ dHas r k = false := by simpa [dHas] using h
    simp [dGet, h2.1, dGet_none h2.2]
theorem dGet_append {k : κ} {v : α} {j : κ} : ∀ {kvs : List (κ × α)}, dGet (kvs ++ [(k, v)]) j = match dGet kvs j with | some u => some u | none => if k = j then some v else none
  | [] => by simp [dGet]
  | (k', u) :: r => by
    have := dGet_append (k := k) (v := v) (j := j) (kvs := r)
    by_cases e : k' = j
    · simp [dGet, e]
    · simp [dGet, e, this]
theorem dGet_put {k j : κ} {v : α} {kvs : List (κ × α)} : dGet (dPut kvs k v) j = if k = j then some v else dGet kvs j := by
  unfold dPut
  by_cases e : k = j
  · subst e
    rw [if_pos rfl]
    split
    · rename_i h; exact dGet_set_same h
    · rename_i h
      rw [dGet_append, dGet_none (by simpa using h)]
      simp
  · rw [if_neg e]
    split
    · exact dGet_set_ne e
    · rw [dGet_append]
      cases dGet kvs j with
      | none => simp [e]
      | some u => rfl
theorem dPut_len {k : κ} {v : α} {kvs : List (κ × α)} : (dPut kvs k v).length ≤ kvs.length + 1 := by
  have := congrArg List.length (dPut_keys (k := k) (v := v) (kvs := kvs))
  rw [List.length_map] at this
  split at this
  · rw [List.length_map] at this; omega
  · rw [List.length_append, List.length_map] at this; simp at this; omega
end
def ownP (a : Option Slot) : Option Slot → Option Slot
  | some (_, true) => a
  | s => s
@[simp] theorem e_updA_nil (as : List (Option Slot)) (j : Nat) (s : Option Slot) : updA [] as j s = s := by
  unfold updA
  split
  · rfl
  · rfl
@[simp] theorem e_updA_ce (m : CExp) (os : List Opd) (a : Option Slot) (as : List (Option Slot)) (j : Nat) (s : Option Slot) : updA (.e m :: os) (a :: as) j s = updA os as j s := by
  unfold updA
  split
  · rfl
  · rfl
theorem e_updA_cv (i : Nat) (os : List Opd) (a : Option Slot) (as : List (Option Slot)) (j : Nat) (s : Option Slot) (h : i ≠ j) : updA (.v i :: os) (a :: as) j s = updA os as j s := by
  unfold updA
  split
  · simp [h]
  · rfl
@[simp] theorem e_updA_cv' (i : Nat) (os : List Opd) (a : Option Slot) (as : List (Option Slot)) (j : Nat) (s : Option Slot) : updA (.v i :: os) (a :: as) j s = if i = j then ownP a s else updA os as j s := by
  split
  · next h =>
    subst h
    rcases s with _ | ⟨d, _ | _⟩
    · rfl
    · rfl
    · show (match findA (.v i :: os) (a :: as) i with | some a => a | none => some (d, true)) = a
      rw [show findA (.v i :: os) (a :: as) i = some a from if_pos rfl]
  · next h => exact e_updA_cv i os a as j s h
@[simp] theorem e_ownP_n (a : Option Slot) : ownP a none = none := rfl
@[simp] theorem e_ownP_f (a : Option Slot) (d : D) : ownP a (some (d, false)) = some (d, false) := rfl
@[simp] theorem e_ownP_t (a : Option Slot) (d : D) : ownP a (some (d, true)) = a := rfl
end VS

namespace VS
open PySem L2 PySem.Spec PyProof.Rows
/-! ### the law's head -/
theorem fn_mkL {P : Program} {w : World} {K : PySem.W.Frag} {mg : Str → Option Value} {base : Heap} {ct : Nat → Addr} {x : Str} {st : Stmt} {f : Addr} {fd : FuncData} {N ps : List Str} {k : Nat} (fx : List Nat) {m : CStm} (F : L2.Fun K x x st f fd) (S : FnScope N ps (defScope st))
    (body : ∀ (cdv : Value) (A : Around) (outer : List Env) (s : Shared) (H : Hp) (E : XK), Room k (A.deeper (envOfC x (defScope st) s.heap.objs.size f cdv)) →
      Takes (cxOf (L2.CX P w) P w K mg base N x (defScope st) f cdv A outer s H E) (fun cls d _ H => E cls d H) →
      PassesOwn (model P w) (cxOf (L2.CX P w) P w K mg base N x (defScope st) f cdv A outer s H E).A (cxOf (L2.CX P w) P w K mg base N x (defScope st) f cdv A outer s H E).env (cxOf (L2.CX P w) P w K mg base N x (defScope st) f cdv A outer s H E).xe →
      (cxOf (L2.CX P w) P w K mg base N x (defScope st) f cdv A outer s H E).A.units + 65 < cLine →
      CSs (cxOf (L2.CX P w) P w K mg base N x (defScope st) f cdv A outer s H E) ct fx (fun cls d _ H => E cls d H) (defBody st) m) : FnOk P w K mg base (L2.CX P w) (k + 1) f fd ps (spD ⟨K, ct⟩ (bodyF fx N.length m) ps.length) := by
  refine F.okX S (fun vs H Q E h => h.1) fun cdv A outer s H vs Q E hr h => ?_
  obtain ⟨t, p, q⟩ := body cdv A outer s H E hr (takes_of rfl rfl rfl rfl) (passes_of rfl) (by have := hr.un; show (A.deeper _).units + 65 < cLine; omega)
  exact ⟨t, p, def_ok q h⟩
theorem scr_of {K : PySem.W.Frag} {H : Hp} {a : Addr} {ns : List Int} (hO : Only H) (hS : SqL K H a (ns.map V.int)) : Scr K H a ns := by
  rcases hS with (h | h) | h
  · rcases hO a with z | ⟨o, xs, z⟩
    · rw [z] at h; cases h
    · rw [z] at h; cases h
  · exact .inl h
  · exact .inr h
theorem hsp_of {K : PySem.W.Frag} {F : CFun} {ct : Nat → Addr} {n : Nat} (hF : ∀ ns : List Int, ns.length ≤ n → ∃ as, F [(.scr ns, false)] = .ok (.bl true, false) as) (H : Hp) (a : Addr) (ns : List Int) (hl : ns.length ≤ n) (hO : Only H) (hS : SqL K H a (ns.map V.int)) :
    spD ⟨K, ct⟩ F 1 [.ref a] H (fun v _ => v = .bl true) fun _ _ _ => False := by
  have nr : ∀ b, ¬ roots [some (V.ref a)] [some (D.scr ns, false)] b := by
    rintro b ⟨i, d, h, _⟩
    match i with
    | 0 => cases h
    | _ + 1 => cases h
  refine ⟨rfl, fun _ => False, [(.scr ns, false)], ⟨rfl, ?_, ?_, ?_, ?_, fun _ z => z.elim⟩, ?_⟩
  · rintro b (z | z)
    · exact z.elim
    · exact (nr b z).elim
  · intro i d h
    match i with
    | 0 => cases h; exact ⟨_, rfl, .scr (scr_of hO hS)⟩
    | _ + 1 => cases h
  · intro i d h
    match i with
    | 0 => cases h
    | _ + 1 => cases h
  · intro i j d e b h
    match i with
    | 0 => cases h
    | _ + 1 => cases h
  · obtain ⟨as, e⟩ := hF ns hl
    rw [e]
    intro v H' _ _ r
    cases r
    rfl
theorem walkD {l : PySem.W.OpenLaw} {q : Program} {loose : List Str} {XP : (Str → Option Value) → Heap → Prop} {YP : World → Heap → Prop} {d : DefRec} {K : Params → PySem.W.Frag} {F : CFun} {k : Nat} {x : Str} (hF : ∀ ns : List Int, ns.length ≤ 63 → ∃ as, F [(.scr ns, false)] = .ok (.bl true, false) as) (hr : Room k callerA) (hn : l.most = some 63) (hdf : d.params.defaults = [])
    (hY : ∀ (w : World) (h : Heap), YP w h → (K w.params).In h)
    (G : ∀ (w : World) (mg : Str → Option Value) (fa : Addr) (h : Heap), (K w.params).In h → h.Ns mainGlobals mg → mg d.name = some (.ref fa) →
      ∃ fd : FuncData, (∀ (s : Shared) (u : Value), BindsTo s fd ⟨[u], []⟩ [(x, u)]) ∧ ∃ ct : Nat → Addr, ∀ base : Heap, (K w.params).In base → base.Ns mainGlobals mg → FnOk l.prog w (K w.params) mg base (L2.CX l.prog w) k fa fd [x] (spD ⟨K w.params, ct⟩ F 1)) :
    PySem.W.WalkO q loose XP YP l.row.toRowW d [] (fun f vs => PySem.call f vs) := by
  refine Att.attach_call hn hdf fun w s₀ s₁ mg mb fa o pm cd doc a vs ns G1 Y ho hd hcd hmg hobj hints hlen hg => ?_
  have KX := hY w _ Y
  obtain ⟨fd, hb, ct, hG⟩ := G w mg fa _ KX G1.T.g hmg
  refine law_call KX G1.T.g G1.T.b G1.T.builtins G1.T.nolimit hg hobj hints (Nat.le_trans hlen (by decide)) hr hG hb (fun H hO hS => hsp_of hF H a ns hlen hO hS) fun H e s' z => ?_
  obtain ⟨_, _, _, _, _, _, _, _, _, _, _, _, z⟩ := z
  exact z
end VS

namespace K24
open PySem L2 PySem.Spec PyProof.Rows VS
def topS (i : Nat) : Stmt := PySem.Challenge.pw_coretower_k24_worth_and_guard.main.body.getD i (.Pass ⟨0, 0, 0, 0⟩)
/-- the built-in names that the text leaves alone -/
structure Tx (mg : Str → Option Value) : Prop where
  b_abs : mg "abs" = none
  b_bool : mg "bool" = none
  b_dict : mg "dict" = none
  b_int : mg "int" = none
  b_isinstance : mg "isinstance" = none
  b_len : mg "len" = none
  b_list : mg "list" = none
  b_range : mg "range" = none
  b_str : mg "str" = none
  b_tuple : mg "tuple" = none
abbrev s_l_row : Stmt := topS 4
abbrev N_l_row : List Str := ["_law_script", "_law_seed", "_law_row_here", "_law_cell", "_law_left", "_law_k"]
def b_l_row_1 : CStm := (cSeq (cIf (cTst (cPrim pEqA [.v 4, .e (cC (.int 0))])) cBrk cNext)
  (cSeq (cDrop (cApp 2 (cPrim pMod [.e (cPrim pInt [.v 4]), .e (cC (.int 1000))])))
  (cAsg 4 (cPrim pDiv [.v 4, .e (cC (.int 1000))]))))
def b_l_row_2 : CStm := (cSeq (cAsg 4 (cPrim pAbs [.e (cPrim pInt [.v 3])]))
  (cSeq (cAsg 1 (cPrim pMod [.e (cPrim pInt [.e (cPrim pAdd [.e (cPrim pMul [.v 1, .e (cC (.int 31))]), .v 4])]), .e (cC (.int 65521))]))
  (cSeq (cIf (cTst (cPrim pLt [.v 4, .e (cPrim pPow [.e (cC (.int 10)), .e (cC (.int 18))])])) (cSeq (cDrop (cApp 2 (cPrim pMod [.e (cPrim pInt [.v 4]), .e (cC (.int 1000))])))
  (cAsg 4 (cC (.int 0)))) cNext)
  (cFor (cItR1 (.e (cC (.int 60)))) (tgN 5) b_l_row_1))))
def m_l_row : CStm := (cSeq (cAsg 1 (cPrim pMul [.e (cPrim pLen [.v 0]), .e (cC (.int 7919))]))
  (cSeq (cAsg 2 (cPrim pLst []))
  (cSeq (cFor (cItS (cVar 0)) (tgN 3) b_l_row_2)
  (cRet (cPrim pAdd [.e (cPrim pLst [.e (cVar 1)]), .e (cPrim pRev [.v 2])])))))
def F_l_row : CFun := bodyF [0] 6 m_l_row
abbrev s_l_draw : Stmt := topS 5
abbrev N_l_draw : List Str := ["_law_row_here", "_law_many"]
def m_l_draw : CStm := (cSeq (cIf (cTst (cPrim pGt [.e (cPrim pLen [.v 0]), .e (cC (.int 1))])) (cRet (cPrim pMod [.e (cPrim pInt [.e (cPop 0)]), .v 1])) cNext)
  (cSeq (cSet 0 (cC (.int 0)) (cPrim pMod [.e (cPrim pInt [.e (cPrim pMul [.e (cPrim pIdx [.v 0, .e (cC (.int 0))]), .e (cC (.int 131))])]), .e (cC (.int 65521))]))
  (cRet (cPrim pMod [.e (cPrim pInt [.e (cPrim pDiv [.e (cPrim pIdx [.v 0, .e (cC (.int 0))]), .e (cC (.int 8))])]), .v 1]))))
def F_l_draw : CFun := bodyF [0, 1] 2 m_l_draw
abbrev s_l_word : Stmt := topS 6
abbrev N_l_word : List Str := ["_law_row_here", "_law_size", "_law_letters", "_law_k"]
def e_l_word_1 : CExp := (cPrim pIdx [.v 2, .e (cCall F_l_draw [.v 0, .e (cC (.int 26))])])
def m_l_word : CStm := (cSeq (cAsg 2 (cC (.str "abcdefghijklmnopqrstuvwxyz")))
  (cRet (cRecv isStr pJoin (.e (cC (.str ""))) [.e (cLc (cItR1 (.v 1)) (tgN 3) cYes e_l_word_1 [3])])))
def F_l_word : CFun := bodyF [0, 1] 4 m_l_word
abbrev s_l_names : Stmt := topS 7
abbrev N_l_names : List Str := ["_law_row_here", "_law_many", "_law_letters", "_law_place", "_law_alike", "_law_start", "_law_head", "_law_tail", "_law_names_here", "_law_k"]
def b_l_names_1 : CStm := (cSeq (cDrop (cApp 8 (cPrim pAdd [.e (cPrim pAdd [.v 6, .e (cPrim pIdx [.v 2, .e (cPrim pMod [.e (cPrim pInt [.e (cPrim pAdd [.v 5, .v 9])]), .e (cC (.int 26))])])]), .v 7])))
  (cIf (cNot (cTst (cVar 4))) (cSeq (cAsg 6 (cCall F_l_word [.v 0, .v 3]))
  (cAsg 7 (cCall F_l_word [.v 0, .e (cCall F_l_draw [.v 0, .e (cC (.int 5))])]))) cNext))
def m_l_names : CStm := (cSeq (cAsg 2 (cC (.str "abcdefghijklmnopqrstuvwxyz")))
  (cSeq (cAsg 3 (cCall F_l_draw [.v 0, .e (cC (.int 4))]))
  (cSeq (cAsg 4 (cPrim pEqA [.e (cCall F_l_draw [.v 0, .e (cC (.int 2))]), .e (cC (.int 0))]))
  (cSeq (cAsg 5 (cCall F_l_draw [.v 0, .e (cC (.int 26))]))
  (cSeq (cAsg 6 (cCall F_l_word [.v 0, .v 3]))
  (cSeq (cAsg 7 (cCall F_l_word [.v 0, .e (cCall F_l_draw [.v 0, .e (cC (.int 5))])]))
  (cSeq (cAsg 8 (cPrim pLst []))
  (cSeq (cFor (cItR1 (.v 1)) (tgN 9) b_l_names_1)
  (cRet (cMove 8))))))))))
def F_l_names : CFun := bodyF [0, 1] 10 m_l_names
abbrev s_l_value : Stmt := topS 8
abbrev N_l_value : List Str := ["_law_row_here", "_law_base"]
def m_l_value : CStm := (cSeq (cIf (cTst (cPrim pEqA [.e (cCall F_l_draw [.v 0, .e (cC (.int 4))]), .e (cC (.int 3))])) (cRet (cPrim pAdd [.e (cPrim pMul [.e (cCall F_l_draw [.v 0, .e (cC (.int 1000))]), .e (cPrim pPow [.e (cC (.int 10)), .e (cC (.int 12))])]), .e (cCall F_l_draw [.v 0, .e (cC (.int 1000))])])) cNext)
  (cSeq (cIf (cTst (cPrim pIsN [.v 1, .e (cC .non)])) (cRet (cCall F_l_draw [.v 0, .e (cC (.int 10))])) cNext)
  (cRet (cCall F_l_draw [.v 0, .v 1]))))
def F_l_value : CFun := bodyF [0, 1] 2 m_l_value
abbrev s_l_is : Stmt := topS 11
abbrev N_l_is : List Str := ["_law_told", "_law_due_here"]
def m_l_is : CStm := (cRet (cAndV (cPrim pIsi [.v 0, .e (cC (.ty "bool"))]) (cPrim pEqA [.v 0, .v 1])))
def F_l_is : CFun := bodyF [0, 1] 2 m_l_is
abbrev s_p_worth_of : Stmt := topS 1
abbrev N_p_worth_of : List Str := ["worth", "values", "base", "total", "part"]
def b_p_worth_of_1 : CStm := (cIf (cTst (cPrim pIsi [.v 4, .e (cC (.ty "str"))])) (cAug 3 pAddI (cRecv isDict pGet2 (.v 1) [.v 4, .e (cC (.int 0))])) (cAug 3 pAddI (cVar 4)))
def m_p_worth_of : CStm := (cSeq (cAsg 3 (cC (.int 0)))
  (cSeq (cFor (cItS (cVar 0)) (tgN 4) b_p_worth_of_1)
  (cSeq (cIf (cTst (cPrim pIsN [.v 2, .e (cC .non)])) (cRet (cMove 3)) cNext)
  (cRet (cPrim pMod [.e (cPrim pInt [.v 3]), .v 2])))))
def F_p_worth_of : CFun := bodyF [0, 1, 2] 5 m_p_worth_of
abbrev s_p_holds : Stmt := topS 2
abbrev N_p_holds : List Str := ["guard", "values", "base", "name", "sign", "worth", "mine", "other"]
def m_p_holds : CStm := (cSeq (cIf (cTst (cPrim pIsN [.v 0, .e (cC .non)])) (cRet (cC (.bl true))) cNext)
  (cSeq (cAsgT (tgTup 3 (tgCons (tgN 3) (tgCons (tgN 4) (tgCons (tgN 5) tgNil)))) (cVar 0))
  (cSeq (cAsg 6 (cRecv isDict pGet2 (.v 1) [.v 3, .e (cC (.int 0))]))
  (cSeq (cAsg 7 (cCall F_p_worth_of [.v 5, .v 1, .v 2]))
  (cSeq (cIf (cTst (cPrim pEqA [.v 4, .e (cC (.str "="))])) (cRet (cPrim pEqA [.v 6, .v 7])) cNext)
  (cSeq (cIf (cTst (cPrim pEqA [.v 4, .e (cC (.str "!"))])) (cRet (cPrim pNe [.v 6, .v 7])) cNext)
  (cRet (cPrim pLt [.v 6, .v 7]))))))))
def F_p_holds : CFun := bodyF [0, 1, 2] 8 m_p_holds
abbrev s_l_worth : Stmt := topS 9
abbrev N_l_worth : List Str := ["_law_row_here", "_law_names_here", "_law_worth_here", "_law_k", "_law_at"]
def b_l_worth_1 : CStm := (cSeq (cAsg 4 (cCall F_l_draw [.v 0, .e (cPrim pAdd [.e (cC (.int 10)), .e (cPrim pMul [.e (cC (.int 3)), .e (cPrim pLen [.v 1])])])]))
  (cIf (cTst (cPrim pLt [.v 4, .e (cC (.int 10))])) (cDrop (cApp 2 (cVar 4))) (cDrop (cApp 2 (cPrim pIdx [.v 1, .e (cPrim pMod [.e (cPrim pInt [.e (cPrim pSub [.v 4, .e (cC (.int 10))])]), .e (cPrim pLen [.v 1])])])))))
def m_l_worth : CStm := (cSeq (cAsg 2 (cPrim pLst []))
  (cSeq (cFor (cItR1 (.e (cPrim pAdd [.e (cC (.int 1)), .e (cCall F_l_draw [.v 0, .e (cC (.int 3))])]))) (tgN 3) b_l_worth_1)
  (cRet (cPrim pTuple [.v 2]))))
def F_l_worth : CFun := bodyF [0, 1] 5 m_l_worth
abbrev s_l_due : Stmt := topS 10
abbrev N_l_due : List Str := ["_law_worth_here", "_law_values", "_law_base", "_law_total", "_law_part"]
def b_l_due_1 : CStm := (cIf (cTst (cPrim pIsi [.v 4, .e (cC (.ty "str"))])) (cAsg 3 (cPrim pAdd [.v 3, .e (cPrim pIdx [.v 1, .v 4])])) (cAsg 3 (cPrim pAdd [.v 3, .v 4])))
def m_l_due : CStm := (cSeq (cAsg 3 (cC (.int 0)))
  (cSeq (cFor (cItS (cVar 0)) (tgN 4) b_l_due_1)
  (cSeq (cIf (cTst (cPrim pIsN [.v 2, .e (cC .non)])) (cRet (cMove 3)) cNext)
  (cRet (cPrim pMod [.e (cPrim pInt [.v 3]), .v 2])))))
def F_l_due : CFun := bodyF [0, 1, 2] 5 m_l_due
abbrev s_l_right : Stmt := topS 12
abbrev N_l_right : List Str := ["_law_worth_here", "_law_values", "_law_base", "_law_handed", "_law_due_here", "_law_told", "_law_name", "_law_mine"]
def b_l_right_1 : CStm := (cSeq (cAsg 7 (cPrim pIdx [.v 1, .v 6]))
  (cSeq (cIf (cOr (cTst (cPrim pIsN [.v 2, .e (cC .non)])) (cTst (cPrim pLt [.v 7, .v 2]))) (cSeq (cIf (cNot (cTst (cCall F_l_is [.e (cCall F_p_holds [.e (cPrim pTup [.e (cVar 6), .e (cC (.str "=")), .e (cVar 0)]), .v 3, .v 2]), .e (cPrim pEqA [.v 7, .v 4])]))) (cRet (cC (.bl false))) cNext)
  (cIf (cNot (cTst (cCall F_l_is [.e (cCall F_p_holds [.e (cPrim pTup [.e (cVar 6), .e (cC (.str "!")), .e (cVar 0)]), .v 3, .v 2]), .e (cPrim pNe [.v 7, .v 4])]))) (cRet (cC (.bl false))) cNext)) cNext)
  (cIf (cAnd (cTst (cPrim pNotN [.v 2, .e (cC .non)])) (cTst (cPrim pLt [.v 7, .v 2]))) (cIf (cNot (cTst (cCall F_l_is [.e (cCall F_p_holds [.e (cPrim pTup [.e (cVar 6), .e (cC (.str "<")), .e (cVar 0)]), .v 3, .v 2]), .e (cPrim pLt [.v 7, .v 4])]))) (cRet (cC (.bl false))) cNext) cNext)))
def m_l_right : CStm := (cSeq (cAsg 3 (cPrim pDict [.v 1]))
  (cSeq (cAsg 4 (cCall F_l_due [.v 0, .v 1, .v 2]))
  (cSeq (cAsg 5 (cCall F_p_worth_of [.v 0, .v 3, .v 2]))
  (cSeq (cIf (cOr (cNot (cTst (cPrim pIsi [.v 5, .e (cC (.ty "int"))]))) (cOr (cTst (cPrim pIsi [.v 5, .e (cC (.ty "bool"))])) (cTst (cPrim pNe [.v 5, .v 4])))) (cRet (cC (.bl false))) cNext)
  (cSeq (cFor (cItS (cPrim pListA [.v 1])) (tgN 6) b_l_right_1)
  (cRet (cPrim pEqA [.v 3, .v 1])))))))
def F_l_right : CFun := bodyF [0, 1, 2] 8 m_l_right
abbrev s_law : Stmt := topS 13
abbrev N_law : List Str := ["_law_script", "_law_row_here", "_law_base", "_law_names_here", "_law_values", "_law_name", "_law_k", "_law_worth_here"]
def b_law_1 : CStm := (cSet 4 (cVar 5) (cCall F_l_value [.v 1, .v 2]))
def b_law_2 : CStm := (cSeq (cAsg 7 (cCall F_l_worth [.v 1, .v 3]))
  (cSeq (cIf (cNot (cTst (cCall F_l_right [.v 7, .v 4, .v 2]))) (cRet (cC (.bl false))) cNext)
  (cSeq (cSet 4 (cPrim pIdx [.v 3, .e (cCall F_l_draw [.v 1, .e (cPrim pLen [.v 3])])]) (cCall F_l_value [.v 1, .v 2]))
  (cIf (cNot (cTst (cCall F_l_right [.v 7, .v 4, .v 2]))) (cRet (cC (.bl false))) cNext))))
def m_law : CStm := (cSeq (cAsg 1 (cCall F_l_row [.v 0]))
  (cSeq (cAsg 2 (cPrim pIdx [.e (cPrim pLst [.e (cC .non), .e (cC (.int 2)), .e (cC (.int 3)), .e (cC (.int 4)), .e (cC (.int 5))]), .e (cCall F_l_draw [.v 1, .e (cC (.int 5))])]))
  (cSeq (cAsg 3 (cCall F_l_names [.v 1, .e (cPrim pAdd [.e (cC (.int 1)), .e (cCall F_l_draw [.v 1, .e (cC (.int 4))])])]))
  (cSeq (cAsg 4 cDK)
  (cSeq (cFor (cItS (cVar 3)) (tgN 5) b_law_1)
  (cSeq (cIf (cNot (cTst (cCall F_l_is [.e (cCall F_p_holds [.e (cC .non), .e (cPrim pDict [.v 4]), .v 2]), .e (cC (.bl true))]))) (cRet (cC (.bl false))) cNext)
  (cSeq (cFor (cItR1 (.e (cPrim pAdd [.e (cC (.int 1)), .e (cCall F_l_draw [.v 1, .e (cC (.int 4))])]))) (tgN 6) b_law_2)
  (cRet (cC (.bl true))))))))))
def F_law : CFun := bodyF [0] 8 m_law
section
variable {P : Program} {w : World} {K : PySem.W.Frag} {mg : Str → Option Value} {base : Heap} {ct : Nat → Addr}
theorem sc_l_row : FnScope N_l_row ["_law_script"] (defScope s_l_row) := ⟨rfl, rfl, rfl, by decide +kernel, rfl, by decide +kernel, by decide +kernel⟩
theorem ok_l_row (T : Tx mg) {f : Addr} {fd : FuncData} (F : L2.Fun K "_law_row" "_law_row" s_l_row f fd) (hm : mg "_law_row" = some (.ref f)) (hb : Binds K fd ["_law_script"] [])  : Fn P w K mg base ct 1 "_law_row" 1 F_l_row := by
  refine fn_mk (k := 0) [0] F sc_l_row hm hb fun cdv A outer s H E hr tk hp hu => ?_
  exact (css_cons (cs_set 1 sc_l_row.nd (ce_mul (co_e (ce_b cr_len prLen (by rfl) T.b_len (by decide +kernel) (ca_cons (co_v 0) ca_nil))) (co_e ce_int)))
  (css_cons (cs_set 2 sc_l_row.nd (ce_lst ca_nil))
  (css_cons (cs_for hp rfl (ci_seq (ce_var 0)) (cg_name 3 sc_l_row.nd) (css_cons (cs_set 4 sc_l_row.nd (ce_b call_abs prAbs (by rfl) T.b_abs (by decide +kernel) (ca_cons (co_e (ce_bT call_int1 prInt (by rfl) T.b_int (by decide +kernel) (ca_cons (co_v 3) ca_nil))) ca_nil)))
  (css_cons (cs_set 1 sc_l_row.nd (ce_mod (co_e (ce_bT call_int1 prInt (by rfl) T.b_int (by decide +kernel) (ca_cons (co_e (ce_add (co_e (ce_mul (co_v 1) (co_e ce_int))) (co_v 4))) ca_nil))) (co_e ce_int)))
  (css_cons (cs_if (ct_lt (co_v 4) (co_e (ce_pow (co_e ce_int) (co_e ce_int)))) (css_cons (cs_expr (ce_app 2 (ce_mod (co_e (ce_bT call_int1 prInt (by rfl) T.b_int (by decide +kernel) (ca_cons (co_v 4) ca_nil))) (co_e ce_int))))
  (css_one (cs_set 4 sc_l_row.nd ce_int))) css_nil)
  (css_one (cs_for hp rfl (ci_range1 (by rfl) T.b_range (co_e ce_int)) (cg_name 5 sc_l_row.nd) (css_cons (cs_if (ct_eq hu (co_v 4) (co_e ce_int)) (css_one cs_brk) css_nil)
  (css_cons (cs_expr (ce_app 2 (ce_mod (co_e (ce_bT call_int1 prInt (by rfl) T.b_int (by decide +kernel) (ca_cons (co_v 4) ca_nil))) (co_e ce_int))))
  (css_one (cs_set 4 sc_l_row.nd (ce_div (co_v 4) (co_e ce_int))))))))))))
  (css_one (cs_ret (ce_add (co_e (ce_lst (ca_cons (co_e (ce_var 1)) ca_nil))) (co_e (ce_rev (co_v 2)))))))))
theorem sc_l_draw : FnScope N_l_draw ["_law_row_here", "_law_many"] (defScope s_l_draw) := ⟨rfl, rfl, rfl, by decide +kernel, rfl, by decide +kernel, by decide +kernel⟩
theorem ok_l_draw (T : Tx mg) {f : Addr} {fd : FuncData} (F : L2.Fun K "_law_draw" "_law_draw" s_l_draw f fd) (hm : mg "_law_draw" = some (.ref f)) (hb : Binds K fd ["_law_row_here", "_law_many"] [])  : Fn P w K mg base ct 1 "_law_draw" 2 F_l_draw := by
  refine fn_mk (k := 0) [0, 1] F sc_l_draw hm hb fun cdv A outer s H E hr tk hp hu => ?_
  exact (css_cons (cs_if (ct_gt (co_e (ce_b cr_len prLen (by rfl) T.b_len (by decide +kernel) (ca_cons (co_v 0) ca_nil))) (co_e ce_int)) (css_one (cs_ret (ce_mod (co_e (ce_bT call_int1 prInt (by rfl) T.b_int (by decide +kernel) (ca_cons (co_e (ce_pop 0)) ca_nil))) (co_v 1)))) css_nil)
  (css_cons (cs_store 0 hu (ce_mod (co_e (ce_bT call_int1 prInt (by rfl) T.b_int (by decide +kernel) (ca_cons (co_e (ce_mul (co_e (ce_idx hu (co_v 0) (co_e ce_int))) (co_e ce_int))) ca_nil))) (co_e ce_int)) ce_int)
  (css_one (cs_ret (ce_mod (co_e (ce_bT call_int1 prInt (by rfl) T.b_int (by decide +kernel) (ca_cons (co_e (ce_div (co_e (ce_idx hu (co_v 0) (co_e ce_int))) (co_e ce_int))) ca_nil))) (co_v 1))))))
theorem sc_l_word : FnScope N_l_word ["_law_row_here", "_law_size"] (defScope s_l_word) := ⟨rfl, rfl, rfl, by decide +kernel, rfl, by decide +kernel, by decide +kernel⟩
theorem ok_l_word (T : Tx mg) {f : Addr} {fd : FuncData} (F : L2.Fun K "_law_word" "_law_word" s_l_word f fd) (hm : mg "_law_word" = some (.ref f)) (hb : Binds K fd ["_law_row_here", "_law_size"] []) (h_l_draw : Fn P w K mg base ct 1 "_law_draw" 2 F_l_draw) : Fn P w K mg base ct 2 "_law_word" 2 F_l_word := by
  obtain ⟨f_l_draw, fd_l_draw, ps_l_draw, G_l_draw, hm_l_draw, kp_l_draw, hb_l_draw⟩ := id h_l_draw.ex
  refine fn_mk (k := 1) [0, 1] F sc_l_word hm hb fun cdv A outer s H E hr tk hp hu => ?_
  exact (css_cons (cs_set 2 sc_l_word.nd ce_str)
  (css_one (cs_ret (ce_join (co_e ce_str) (co_e (ce_lc [("_law_k", 3)] rfl sc_l_word.nd (ci_range1 (by rfl) T.b_range (co_v 1)) (blkOk_by (own := [("_law_k", 3)]) (N := N_l_word) (sc := defScope s_l_word) (by decide +kernel)) LenG.name (fun fx' hf => SG.name (hf 3 (by decide))) (fun _ _ _ _ _ => pg_name (i := 3) sc_l_word.nd rfl (Or.inl rfl)) (fun _ _ _ _ _ => pts_nil) ST.yes (fun _ _ _ _ _ => (pe_ix (ix_any (by exact Nat.lt_of_le_of_lt (Nat.add_le_add_left (by decide) _) hu)) (pv 2) (pe_callS G_l_draw (hr.mono (by decide)) (by rfl) hm_l_draw kp_l_draw hb_l_draw (fun σ => passAt takes0 σ) (pa_cons (pv 0) (pa_cons pe_int pa_nil))) (fun _ _ => rfl))) (SE.op2 prIdx (show SO _ _ (tVar 2) (.v 2) from rfl) (SE.call (SA.cons (show SO _ _ (tVar 0) (.v 0) from rfl) (SA.cons (SE.c fun _ _ => .int _) SA.nil)) rfl))))))))
theorem sc_l_names : FnScope N_l_names ["_law_row_here", "_law_many"] (defScope s_l_names) := ⟨rfl, rfl, rfl, by decide +kernel, rfl, by decide +kernel, by decide +kernel⟩
theorem ok_l_names (T : Tx mg) {f : Addr} {fd : FuncData} (F : L2.Fun K "_law_names" "_law_names" s_l_names f fd) (hm : mg "_law_names" = some (.ref f)) (hb : Binds K fd ["_law_row_here", "_law_many"] []) (h_l_draw : Fn P w K mg base ct 1 "_law_draw" 2 F_l_draw) (h_l_word : Fn P w K mg base ct 2 "_law_word" 2 F_l_word) : Fn P w K mg base ct 3 "_law_names" 2 F_l_names := by
  refine fn_mk (k := 2) [0, 1] F sc_l_names hm hb fun cdv A outer s H E hr tk hp hu => ?_
  exact (css_cons (cs_set 2 sc_l_names.nd ce_str)
  (css_cons (cs_set 3 sc_l_names.nd (ce_call h_l_draw hr (by decide) (by rfl) tk (ca_cons (co_v 0) (ca_cons (co_e ce_int) ca_nil)) rfl))
  (css_cons (cs_set 4 sc_l_names.nd (ce_eq hu (co_e (ce_call h_l_draw hr (by decide) (by rfl) tk (ca_cons (co_v 0) (ca_cons (co_e ce_int) ca_nil)) rfl)) (co_e ce_int)))
  (css_cons (cs_set 5 sc_l_names.nd (ce_call h_l_draw hr (by decide) (by rfl) tk (ca_cons (co_v 0) (ca_cons (co_e ce_int) ca_nil)) rfl))
  (css_cons (cs_set 6 sc_l_names.nd (ce_call h_l_word hr (by decide) (by rfl) tk (ca_cons (co_v 0) (ca_cons (co_v 3) ca_nil)) rfl))
  (css_cons (cs_set 7 sc_l_names.nd (ce_call h_l_word hr (by decide) (by rfl) tk (ca_cons (co_v 0) (ca_cons (co_e (ce_call h_l_draw hr (by decide) (by rfl) tk (ca_cons (co_v 0) (ca_cons (co_e ce_int) ca_nil)) rfl)) ca_nil)) rfl))
  (css_cons (cs_set 8 sc_l_names.nd (ce_lst ca_nil))
  (css_cons (cs_for hp rfl (ci_range1 (by rfl) T.b_range (co_v 1)) (cg_name 9 sc_l_names.nd) (css_cons (cs_expr (ce_app 8 (ce_add (co_e (ce_add (co_v 6) (co_e (ce_idx hu (co_v 2) (co_e (ce_mod (co_e (ce_bT call_int1 prInt (by rfl) T.b_int (by decide +kernel) (ca_cons (co_e (ce_add (co_v 5) (co_v 9))) ca_nil))) (co_e ce_int))))))) (co_v 7))))
  (css_one (cs_if (ct_not (ct_val (ce_var 4))) (css_cons (cs_set 6 sc_l_names.nd (ce_call h_l_word hr (by decide) (by rfl) tk (ca_cons (co_v 0) (ca_cons (co_v 3) ca_nil)) rfl))
  (css_one (cs_set 7 sc_l_names.nd (ce_call h_l_word hr (by decide) (by rfl) tk (ca_cons (co_v 0) (ca_cons (co_e (ce_call h_l_draw hr (by decide) (by rfl) tk (ca_cons (co_v 0) (ca_cons (co_e ce_int) ca_nil)) rfl)) ca_nil)) rfl)))) css_nil))))
  (css_one (cs_ret (ce_move 8)))))))))))
theorem sc_l_value : FnScope N_l_value ["_law_row_here", "_law_base"] (defScope s_l_value) := ⟨rfl, rfl, rfl, by decide +kernel, rfl, by decide +kernel, by decide +kernel⟩
theorem ok_l_value (T : Tx mg) {f : Addr} {fd : FuncData} (F : L2.Fun K "_law_value" "_law_value" s_l_value f fd) (hm : mg "_law_value" = some (.ref f)) (hb : Binds K fd ["_law_row_here", "_law_base"] []) (h_l_draw : Fn P w K mg base ct 1 "_law_draw" 2 F_l_draw) : Fn P w K mg base ct 2 "_law_value" 2 F_l_value := by
  refine fn_mk (k := 1) [0, 1] F sc_l_value hm hb fun cdv A outer s H E hr tk hp hu => ?_
  exact (css_cons (cs_if (ct_eq hu (co_e (ce_call h_l_draw hr (by decide) (by rfl) tk (ca_cons (co_v 0) (ca_cons (co_e ce_int) ca_nil)) rfl)) (co_e ce_int)) (css_one (cs_ret (ce_add (co_e (ce_mul (co_e (ce_call h_l_draw hr (by decide) (by rfl) tk (ca_cons (co_v 0) (ca_cons (co_e ce_int) ca_nil)) rfl)) (co_e (ce_pow (co_e ce_int) (co_e ce_int))))) (co_e (ce_call h_l_draw hr (by decide) (by rfl) tk (ca_cons (co_v 0) (ca_cons (co_e ce_int) ca_nil)) rfl))))) css_nil)
  (css_cons (cs_if (ct_isN (co_v 1) (co_e ce_non)) (css_one (cs_ret (ce_call h_l_draw hr (by decide) (by rfl) tk (ca_cons (co_v 0) (ca_cons (co_e ce_int) ca_nil)) rfl))) css_nil)
  (css_one (cs_ret (ce_call h_l_draw hr (by decide) (by rfl) tk (ca_cons (co_v 0) (ca_cons (co_v 1) ca_nil)) rfl)))))
theorem sc_l_is : FnScope N_l_is ["_law_told", "_law_due_here"] (defScope s_l_is) := ⟨rfl, rfl, rfl, by decide +kernel, rfl, by decide +kernel, by decide +kernel⟩
theorem ok_l_is (T : Tx mg) {f : Addr} {fd : FuncData} (F : L2.Fun K "_law_is" "_law_is" s_l_is f fd) (hm : mg "_law_is" = some (.ref f)) (hb : Binds K fd ["_law_told", "_law_due_here"] [])  : Fn P w K mg base ct 1 "_law_is" 2 F_l_is := by
  refine fn_mk (k := 0) [0, 1] F sc_l_is hm hb fun cdv A outer s H E hr tk hp hu => ?_
  exact (css_one (cs_ret (ce_and (ce_b call_isi prIsi (by rfl) T.b_isinstance (by decide +kernel) (ca_cons (co_v 0) (ca_cons (co_e (ce_ty (n := "bool") (by rfl) T.b_bool (by decide +kernel))) ca_nil))) (ce_one (ce_eq hu (co_v 0) (co_v 1))))))
theorem sc_p_worth_of : FnScope N_p_worth_of ["worth", "values", "base"] (defScope s_p_worth_of) := ⟨rfl, rfl, rfl, by decide +kernel, rfl, by decide +kernel, by decide +kernel⟩
theorem ok_p_worth_of (T : Tx mg) {f : Addr} {fd : FuncData} (F : L2.Fun K "worth_of" "worth_of" s_p_worth_of f fd) (hm : mg "worth_of" = some (.ref f)) (hb : Binds K fd ["worth", "values", "base"] [])  : Fn P w K mg base ct 1 "worth_of" 3 F_p_worth_of := by
  refine fn_mk (k := 0) [0, 1, 2] F sc_p_worth_of hm hb fun cdv A outer s H E hr tk hp hu => ?_
  exact (css_cons (cs_set 3 sc_p_worth_of.nd ce_int)
  (css_cons (cs_for hp rfl (ci_seq (ce_var 0)) (cg_name 4 sc_p_worth_of.nd) (css_one (cs_if (ct_val (ce_b call_isi prIsi (by rfl) T.b_isinstance (by decide +kernel) (ca_cons (co_v 4) (ca_cons (co_e (ce_ty (n := "str") (by rfl) T.b_str (by decide +kernel))) ca_nil)))) (css_one (cs_aug 3 ip_add prAddI sc_p_worth_of.nd (ce_get2 hu (co_v 1) (co_v 4) (co_e ce_int)))) (css_one (cs_aug 3 ip_add prAddI sc_p_worth_of.nd (ce_var 4))))))
  (css_cons (cs_if (ct_isN (co_v 2) (co_e ce_non)) (css_one (cs_ret (ce_move 3))) css_nil)
  (css_one (cs_ret (ce_mod (co_e (ce_bT call_int1 prInt (by rfl) T.b_int (by decide +kernel) (ca_cons (co_v 3) ca_nil))) (co_v 2)))))))
theorem sc_p_holds : FnScope N_p_holds ["guard", "values", "base"] (defScope s_p_holds) := ⟨rfl, rfl, rfl, by decide +kernel, rfl, by decide +kernel, by decide +kernel⟩
theorem ok_p_holds (T : Tx mg) {f : Addr} {fd : FuncData} (F : L2.Fun K "holds" "holds" s_p_holds f fd) (hm : mg "holds" = some (.ref f)) (hb : Binds K fd ["guard", "values", "base"] []) (h_p_worth_of : Fn P w K mg base ct 1 "worth_of" 3 F_p_worth_of) : Fn P w K mg base ct 2 "holds" 3 F_p_holds := by
  refine fn_mk (k := 1) [0, 1, 2] F sc_p_holds hm hb fun cdv A outer s H E hr tk hp hu => ?_
  exact (css_cons (cs_if (ct_isN (co_v 0) (co_e ce_non)) (css_one (cs_ret ce_bl)) css_nil)
  (css_cons (cs_asgT (ce_var 0) (cg_tup rfl (cgs_cons (cg_name 3 sc_p_holds.nd) (cgs_cons (cg_name 4 sc_p_holds.nd) (cgs_cons (cg_name 5 sc_p_holds.nd) cgs_nil)))))
  (css_cons (cs_set 6 sc_p_holds.nd (ce_get2 hu (co_v 1) (co_v 3) (co_e ce_int)))
  (css_cons (cs_set 7 sc_p_holds.nd (ce_call h_p_worth_of hr (by decide) (by rfl) tk (ca_cons (co_v 5) (ca_cons (co_v 1) (ca_cons (co_v 2) ca_nil))) rfl))
  (css_cons (cs_if (ct_eq hu (co_v 4) (co_e ce_str)) (css_one (cs_ret (ce_eq hu (co_v 6) (co_v 7)))) css_nil)
  (css_cons (cs_if (ct_eq hu (co_v 4) (co_e ce_str)) (css_one (cs_ret (ce_ne hu (co_v 6) (co_v 7)))) css_nil)
  (css_one (cs_ret (ce_lt (co_v 6) (co_v 7))))))))))
theorem sc_l_worth : FnScope N_l_worth ["_law_row_here", "_law_names_here"] (defScope s_l_worth) := ⟨rfl, rfl, rfl, by decide +kernel, rfl, by decide +kernel, by decide +kernel⟩
theorem ok_l_worth (T : Tx mg) {f : Addr} {fd : FuncData} (F : L2.Fun K "_law_worth" "_law_worth" s_l_worth f fd) (hm : mg "_law_worth" = some (.ref f)) (hb : Binds K fd ["_law_row_here", "_law_names_here"] []) (h_l_draw : Fn P w K mg base ct 1 "_law_draw" 2 F_l_draw) : Fn P w K mg base ct 2 "_law_worth" 2 F_l_worth := by
  refine fn_mk (k := 1) [0, 1] F sc_l_worth hm hb fun cdv A outer s H E hr tk hp hu => ?_
  exact (css_cons (cs_set 2 sc_l_worth.nd (ce_lst ca_nil))
  (css_cons (cs_for hp rfl (ci_range1 (by rfl) T.b_range (co_e (ce_add (co_e ce_int) (co_e (ce_call h_l_draw hr (by decide) (by rfl) tk (ca_cons (co_v 0) (ca_cons (co_e ce_int) ca_nil)) rfl))))) (cg_name 3 sc_l_worth.nd) (css_cons (cs_set 4 sc_l_worth.nd (ce_call h_l_draw hr (by decide) (by rfl) tk (ca_cons (co_v 0) (ca_cons (co_e (ce_add (co_e ce_int) (co_e (ce_mul (co_e ce_int) (co_e (ce_b cr_len prLen (by rfl) T.b_len (by decide +kernel) (ca_cons (co_v 1) ca_nil))))))) ca_nil)) rfl))
  (css_one (cs_if (ct_lt (co_v 4) (co_e ce_int)) (css_one (cs_expr (ce_app 2 (ce_var 4)))) (css_one (cs_expr (ce_app 2 (ce_idx hu (co_v 1) (co_e (ce_mod (co_e (ce_bT call_int1 prInt (by rfl) T.b_int (by decide +kernel) (ca_cons (co_e (ce_sub (co_v 4) (co_e ce_int))) ca_nil))) (co_e (ce_b cr_len prLen (by rfl) T.b_len (by decide +kernel) (ca_cons (co_v 1) ca_nil)))))))))))))
  (css_one (cs_ret (ce_bT cr_tuple prTuple (by rfl) T.b_tuple (by decide +kernel) (ca_cons (co_v 2) ca_nil))))))
theorem sc_l_due : FnScope N_l_due ["_law_worth_here", "_law_values", "_law_base"] (defScope s_l_due) := ⟨rfl, rfl, rfl, by decide +kernel, rfl, by decide +kernel, by decide +kernel⟩
theorem ok_l_due (T : Tx mg) {f : Addr} {fd : FuncData} (F : L2.Fun K "_law_due" "_law_due" s_l_due f fd) (hm : mg "_law_due" = some (.ref f)) (hb : Binds K fd ["_law_worth_here", "_law_values", "_law_base"] [])  : Fn P w K mg base ct 1 "_law_due" 3 F_l_due := by
  refine fn_mk (k := 0) [0, 1, 2] F sc_l_due hm hb fun cdv A outer s H E hr tk hp hu => ?_
  exact (css_cons (cs_set 3 sc_l_due.nd ce_int)
  (css_cons (cs_for hp rfl (ci_seq (ce_var 0)) (cg_name 4 sc_l_due.nd) (css_one (cs_if (ct_val (ce_b call_isi prIsi (by rfl) T.b_isinstance (by decide +kernel) (ca_cons (co_v 4) (ca_cons (co_e (ce_ty (n := "str") (by rfl) T.b_str (by decide +kernel))) ca_nil)))) (css_one (cs_set 3 sc_l_due.nd (ce_add (co_v 3) (co_e (ce_idx hu (co_v 1) (co_v 4)))))) (css_one (cs_set 3 sc_l_due.nd (ce_add (co_v 3) (co_v 4)))))))
  (css_cons (cs_if (ct_isN (co_v 2) (co_e ce_non)) (css_one (cs_ret (ce_move 3))) css_nil)
  (css_one (cs_ret (ce_mod (co_e (ce_bT call_int1 prInt (by rfl) T.b_int (by decide +kernel) (ca_cons (co_v 3) ca_nil))) (co_v 2)))))))
theorem sc_l_right : FnScope N_l_right ["_law_worth_here", "_law_values", "_law_base"] (defScope s_l_right) := ⟨rfl, rfl, rfl, by decide +kernel, rfl, by decide +kernel, by decide +kernel⟩
theorem ok_l_right (T : Tx mg) {f : Addr} {fd : FuncData} (F : L2.Fun K "_law_right" "_law_right" s_l_right f fd) (hm : mg "_law_right" = some (.ref f)) (hb : Binds K fd ["_law_worth_here", "_law_values", "_law_base"] []) (h_l_due : Fn P w K mg base ct 1 "_law_due" 3 F_l_due) (h_p_worth_of : Fn P w K mg base ct 1 "worth_of" 3 F_p_worth_of) (h_l_is : Fn P w K mg base ct 1 "_law_is" 2 F_l_is) (h_p_holds : Fn P w K mg base ct 2 "holds" 3 F_p_holds) : Fn P w K mg base ct 3 "_law_right" 3 F_l_right := by
  refine fn_mk (k := 2) [0, 1, 2] F sc_l_right hm hb fun cdv A outer s H E hr tk hp hu => ?_
  exact (css_cons (cs_set 3 sc_l_right.nd (ce_bT call_dictC prDict (by rfl) T.b_dict (by decide +kernel) (ca_cons (co_v 1) ca_nil)))
  (css_cons (cs_set 4 sc_l_right.nd (ce_call h_l_due hr (by decide) (by rfl) tk (ca_cons (co_v 0) (ca_cons (co_v 1) (ca_cons (co_v 2) ca_nil))) rfl))
  (css_cons (cs_set 5 sc_l_right.nd (ce_call h_p_worth_of hr (by decide) (by rfl) tk (ca_cons (co_v 0) (ca_cons (co_v 3) (ca_cons (co_v 2) ca_nil))) rfl))
  (css_cons (cs_if (CW.toT (cw_or (ct_not (ct_val (ce_b call_isi prIsi (by rfl) T.b_isinstance (by decide +kernel) (ca_cons (co_v 5) (ca_cons (co_e (ce_ty (n := "int") (by rfl) T.b_int (by decide +kernel))) ca_nil))))) (cw_or (ct_val (ce_b call_isi prIsi (by rfl) T.b_isinstance (by decide +kernel) (ca_cons (co_v 5) (ca_cons (co_e (ce_ty (n := "bool") (by rfl) T.b_bool (by decide +kernel))) ca_nil)))) (cw_or1 (ct_ne hu (co_v 5) (co_v 4)))))) (css_one (cs_ret ce_bl)) css_nil)
  (css_cons (cs_for hp rfl (ci_seq (ce_bT (cr_list rfl) prListA (by rfl) T.b_list (by decide +kernel) (ca_cons (co_v 1) ca_nil))) (cg_name 6 sc_l_right.nd) (css_cons (cs_set 7 sc_l_right.nd (ce_idx hu (co_v 1) (co_v 6)))
  (css_cons (cs_if (CW.toT (cw_or (ct_isN (co_v 2) (co_e ce_non)) (cw_or1 (ct_lt (co_v 7) (co_v 2))))) (css_cons (cs_if (ct_not (ct_val (ce_call h_l_is hr (by decide) (by rfl) tk (ca_cons (co_e (ce_call h_p_holds hr (by decide) (by rfl) tk (ca_cons (co_e (ce_tup (ca_cons (co_e (ce_var 6)) (ca_cons (co_e ce_str) (ca_cons (co_e (ce_var 0)) ca_nil))))) (ca_cons (co_v 3) (ca_cons (co_v 2) ca_nil))) rfl)) (ca_cons (co_e (ce_eq hu (co_v 7) (co_v 4))) ca_nil)) rfl))) (css_one (cs_ret ce_bl)) css_nil)
  (css_one (cs_if (ct_not (ct_val (ce_call h_l_is hr (by decide) (by rfl) tk (ca_cons (co_e (ce_call h_p_holds hr (by decide) (by rfl) tk (ca_cons (co_e (ce_tup (ca_cons (co_e (ce_var 6)) (ca_cons (co_e ce_str) (ca_cons (co_e (ce_var 0)) ca_nil))))) (ca_cons (co_v 3) (ca_cons (co_v 2) ca_nil))) rfl)) (ca_cons (co_e (ce_ne hu (co_v 7) (co_v 4))) ca_nil)) rfl))) (css_one (cs_ret ce_bl)) css_nil))) css_nil)
  (css_one (cs_if (CW.toT (cw_and (ct_notN (co_v 2) (co_e ce_non)) (cw_and1 (ct_lt (co_v 7) (co_v 2))))) (css_one (cs_if (ct_not (ct_val (ce_call h_l_is hr (by decide) (by rfl) tk (ca_cons (co_e (ce_call h_p_holds hr (by decide) (by rfl) tk (ca_cons (co_e (ce_tup (ca_cons (co_e (ce_var 6)) (ca_cons (co_e ce_str) (ca_cons (co_e (ce_var 0)) ca_nil))))) (ca_cons (co_v 3) (ca_cons (co_v 2) ca_nil))) rfl)) (ca_cons (co_e (ce_lt (co_v 7) (co_v 4))) ca_nil)) rfl))) (css_one (cs_ret ce_bl)) css_nil)) css_nil)))))
  (css_one (cs_ret (ce_eq hu (co_v 3) (co_v 1)))))))))
theorem sc_law : FnScope N_law ["_law_script"] (defScope s_law) := ⟨rfl, rfl, rfl, by decide +kernel, rfl, by decide +kernel, by decide +kernel⟩
theorem ok_law (T : Tx mg) {f : Addr} {fd : FuncData} (F : L2.Fun K "law" "law" s_law f fd) (h_l_row : Fn P w K mg base ct 1 "_law_row" 1 F_l_row) (h_l_draw : Fn P w K mg base ct 1 "_law_draw" 2 F_l_draw) (h_l_names : Fn P w K mg base ct 3 "_law_names" 2 F_l_names) (h_l_value : Fn P w K mg base ct 2 "_law_value" 2 F_l_value) (h_l_is : Fn P w K mg base ct 1 "_law_is" 2 F_l_is) (h_p_holds : Fn P w K mg base ct 2 "holds" 3 F_p_holds) (h_l_worth : Fn P w K mg base ct 2 "_law_worth" 2 F_l_worth) (h_l_right : Fn P w K mg base ct 3 "_law_right" 3 F_l_right) : FnOk P w K mg base (L2.CX P w) 4 f fd ["_law_script"] (spD ⟨K, ct⟩ F_law 1) := by
  refine fn_mkL (k := 3) [0] F sc_law fun cdv A outer s H E hr tk hp hu => ?_
  exact (css_cons (cs_set 1 sc_law.nd (ce_call h_l_row hr (by decide) (by rfl) tk (ca_cons (co_v 0) ca_nil) rfl))
  (css_cons (cs_set 2 sc_law.nd (ce_idx hu (co_e (ce_lst (ca_cons (co_e ce_non) (ca_cons (co_e ce_int) (ca_cons (co_e ce_int) (ca_cons (co_e ce_int) (ca_cons (co_e ce_int) ca_nil))))))) (co_e (ce_call h_l_draw hr (by decide) (by rfl) tk (ca_cons (co_v 1) (ca_cons (co_e ce_int) ca_nil)) rfl))))
  (css_cons (cs_set 3 sc_law.nd (ce_call h_l_names hr (by decide) (by rfl) tk (ca_cons (co_v 1) (ca_cons (co_e (ce_add (co_e ce_int) (co_e (ce_call h_l_draw hr (by decide) (by rfl) tk (ca_cons (co_v 1) (ca_cons (co_e ce_int) ca_nil)) rfl)))) ca_nil)) rfl))
  (css_cons (cs_set 4 sc_law.nd ce_dK)
  (css_cons (cs_for hp rfl (ci_seq (ce_var 3)) (cg_name 5 sc_law.nd) (css_one (cs_store 4 hu (ce_call h_l_value hr (by decide) (by rfl) tk (ca_cons (co_v 1) (ca_cons (co_v 2) ca_nil)) rfl) (ce_var 5))))
  (css_cons (cs_if (ct_not (ct_val (ce_call h_l_is hr (by decide) (by rfl) tk (ca_cons (co_e (ce_call h_p_holds hr (by decide) (by rfl) tk (ca_cons (co_e ce_non) (ca_cons (co_e (ce_bT call_dictC prDict (by rfl) T.b_dict (by decide +kernel) (ca_cons (co_v 4) ca_nil))) (ca_cons (co_v 2) ca_nil))) rfl)) (ca_cons (co_e ce_bl) ca_nil)) rfl))) (css_one (cs_ret ce_bl)) css_nil)
  (css_cons (cs_for hp rfl (ci_range1 (by rfl) T.b_range (co_e (ce_add (co_e ce_int) (co_e (ce_call h_l_draw hr (by decide) (by rfl) tk (ca_cons (co_v 1) (ca_cons (co_e ce_int) ca_nil)) rfl))))) (cg_name 6 sc_law.nd) (css_cons (cs_set 7 sc_law.nd (ce_call h_l_worth hr (by decide) (by rfl) tk (ca_cons (co_v 1) (ca_cons (co_v 3) ca_nil)) rfl))
  (css_cons (cs_if (ct_not (ct_val (ce_call h_l_right hr (by decide) (by rfl) tk (ca_cons (co_v 7) (ca_cons (co_v 4) (ca_cons (co_v 2) ca_nil))) rfl))) (css_one (cs_ret ce_bl)) css_nil)
  (css_cons (cs_store 4 hu (ce_call h_l_value hr (by decide) (by rfl) tk (ca_cons (co_v 1) (ca_cons (co_v 2) ca_nil)) rfl) (ce_idx hu (co_v 3) (co_e (ce_call h_l_draw hr (by decide) (by rfl) tk (ca_cons (co_v 1) (ca_cons (co_e (ce_b cr_len prLen (by rfl) T.b_len (by decide +kernel) (ca_cons (co_v 3) ca_nil))) ca_nil)) rfl))))
  (css_one (cs_if (ct_not (ct_val (ce_call h_l_right hr (by decide) (by rfl) tk (ca_cons (co_v 7) (ca_cons (co_v 4) (ca_cons (co_v 2) ca_nil))) rfl))) (css_one (cs_ret ce_bl)) css_nil))))))
  (css_one (cs_ret ce_bl)))))))))
end
end K24

namespace K24
open PySem L2 VS
abbrev il (xs : List Int) : D := .lst (xs.map D.int)
theorem draw_ok (xs : List Int) (h : xs ≠ []) (n : Int) (hn : 0 < n) : ∃ v ys, 0 ≤ v ∧ v < n ∧ ys ≠ [] ∧
    F_l_draw [(il xs, true), (.int n, false)] = .ok (.int v, false) [some (il ys, true), some (.int n, false)] := by
  by_cases h1 : 1 < xs.length
  · obtain ⟨y, hy⟩ : ∃ y, xs[xs.length - 1]? = some y := ⟨xs[xs.length - 1], List.getElem?_eq_getElem (by omega)⟩
    refine ⟨y % n, xs.dropLast, Int.emod_nonneg _ (by omega), Int.emod_lt_of_pos _ hn, ?_, ?_⟩
    · intro e
      have := congrArg List.length e
      simp at this
      omega
    · have e1 : (1 : Int) < (xs.length : Int) := by omega
      simp [F_l_draw, m_l_draw, hn, e1, hy, List.map_dropLast]
  · obtain ⟨x, rfl⟩ : ∃ x, xs = [x] := by
      match xs, h, h1 with
      | [x], _, _ => exact ⟨x, rfl⟩
      | [], h, _ => exact absurd rfl h
      | _ :: _ :: _, _, h1 => simp at h1
    refine ⟨x * 131 % 65521 / 8 % n, [x * 131 % 65521], Int.emod_nonneg _ (by omega), Int.emod_lt_of_pos _ hn, by simp, ?_⟩
    simp [F_l_draw, m_l_draw, hn, atI, ixN]
theorem atI_in {α : Type} {xs : List α} {v : Int} (h0 : 0 ≤ v) (h1 : v < xs.length) : ∃ x, atI xs v = some x ∧ x ∈ xs := by
  have hv : v.toNat < xs.length := by omega
  refine ⟨xs[v.toNat], ?_, List.getElem_mem hv⟩
  unfold atI ixN
  rw [if_pos h0, if_pos h1]
  simp [hv]
theorem slen (x y : Str) : (x ++ y).length = x.length + y.length := by
  show (x.cps ++ y.cps).size = _
  rw [Array.size_append]
  rfl
theorem jlen : ∀ ys : List Str, (Str.join (Str.ofString "") ys).length = (ys.map (·.length)).sum
  | [] => rfl
  | [y] => by simp [Str.join]
  | y :: z :: r => by
    have h := jlen (z :: r)
    show (y ++ Str.ofString "" ++ Str.join (Str.ofString "") (z :: r)).length = _
    rw [slen, slen, h]
    have : (Str.ofString "").length = 0 := rfl
    simp [this]
theorem strsOf_map : ∀ ys : List Str, strsOf (ys.map D.str) = some ys
  | [] => rfl
  | y :: r => by simp [strsOf, strsOf_map r]
theorem sum_ones : ∀ ys : List Str, (∀ y ∈ ys, y.length = 1) → (ys.map (·.length)).sum = ys.length
  | [], _ => rfl
  | y :: r, h => by
    have := sum_ones r fun z hz => h z (List.mem_cons_of_mem _ hz)
    rw [List.map_cons, List.sum_cons, this, h y List.mem_cons_self, List.length_cons]
    omega
abbrev letters : Str := Str.ofString "abcdefghijklmnopqrstuvwxyz"
theorem letters_len : letters.length = 26 := by decide +kernel
theorem letters_cps : letters.cps.toList.length = 26 := by decide +kernel
theorem letter_at {v : Int} (h0 : 0 ≤ v) (h1 : v < 26) : ∃ s : Str, s.length = 1 ∧ dAt (.str letters) (.int v) = some (.str s) := by
  obtain ⟨c, hc, _⟩ := atI_in (xs := letters.cps.toList) h0 (by rw [letters_cps]; exact h1)
  refine ⟨⟨#[c]⟩, rfl, ?_⟩
  rw [e_at_s, if_pos (by rw [letters_len]; decide), hc]
  rfl
theorem szl : sizeLine = 16777216 := sizeLine_eq
theorem word_ok (xs : List Int) (h : xs ≠ []) (n : Int) (h0 : 0 ≤ n) (h1 : n ≤ 100) : ∃ s ys, ys ≠ [] ∧ s.length = n.toNat ∧
    F_l_word [(il xs, true), (.int n, false)] = .ok (.str s, false) [some (il ys, true), some (.int n, false)] := by
  obtain ⟨acc, ρ', e, ws, ys, hy, rfl, h2, h3, rfl⟩ := lc_go (tg := tgN 3) (c := cYes) (e := e_l_word_1) (vs := [3]) (ds := rngD 0 n.toNat) (ρ := [some (il xs, true), some (.int n, false), some (.str letters, false), none])
    (fun i acc ρ => ∃ (ws : List Str) (ys : List Int), ys ≠ [] ∧ acc = ws.map D.str ∧ ws.length = i ∧ (∀ s ∈ ws, s.length = 1) ∧ ρ = [some (il ys, true), some (.int n, false), some (.str letters, false), none])
    ⟨[], xs, h, rfl, rfl, (fun _ h => nomatch h), rfl⟩ (by
      rintro i d acc ρ hd ⟨ws, ys, hy, rfl, hl, h1', rfl⟩
      obtain ⟨hi, rfl⟩ := rngD_at hd
      obtain ⟨v, zs, hv0, hv1, hz, e⟩ := draw_ok ys hy 26 (by decide)
      obtain ⟨s, hs, es⟩ := letter_at hv0 hv1
      refine ⟨_, rfl, .inl ⟨_, (.str s, false), [some (il zs, true), some (.int n, false), some (.str letters, false), some (.int (0 + (i : Int)), false)], rfl, ?_, ?_, ws ++ [s], zs, hz, ?_, ?_, ?_, ?_⟩⟩
      · simp [e_l_word_1, e, es]
      · rw [List.length_map, hl, szl]; omega
      · simp
      · simp [hl]
      · intro t ht
        rcases List.mem_append.mp ht with q | q
        · exact h1' t q
        · rw [List.mem_singleton.mp q]; exact hs
      · simp)
  refine ⟨Str.join (Str.ofString "") ws, ys, hy, ?_, ?_⟩
  · rw [jlen, sum_ones ws h3, h2, rngD_len]
  · have hn1 : n.natAbs < 4611686018427387904 := by omega
    have hj : (ws.map (·.length)).sum + ws.length * (Str.ofString "").length ≤ 16777216 := by
      have : (Str.ofString "").length = 0 := rfl
      rw [sum_ones ws h3, h2, rngD_len, this]; omega
    simp [F_l_word, m_l_word, hn1, e, strsOf_map, hj]
end K24

namespace K24
open PySem L2 VS
/-! the row of draws -/
theorem loop_row (left : Int) (acc : List Int) (hz : acc.length ≤ 10000) (a b c k0 : Option Slot) :
    ∃ left' acc' k', acc'.length ≤ acc.length + 60 ∧ loop (tgN 5) b_l_row_1 (rngD 0 60) [a, b, some (il acc, true), c, some (.int left, false), k0] = .ok .nx [a, b, some (il acc', true), c, some (.int left', false), k'] := by
  refine loop_ind (P := fun r => ∃ left' acc' k', acc'.length ≤ acc.length + 60 ∧ r = .ok .nx [a, b, some (il acc', true), c, some (.int left', false), k']) (fun i ρ => ∃ left' acc' k', acc'.length ≤ acc.length + i ∧ ρ = [a, b, some (il acc', true), c, some (.int left', false), k']) ⟨left, acc, k0, by omega, rfl⟩ ?_ ?_
  · rintro i d ρ hd ⟨l, ac, k, h1, rfl⟩
    obtain ⟨hi, rfl⟩ := rngD_at hd
    refine ⟨_, rfl, ?_⟩
    by_cases h0 : l = 0
    · subst h0
      refine .inr (.inr (.inl ⟨[a, b, some (il ac, true), c, some (.int 0, false), some (.int (0 + (i : Int)), false)], by simp [b_l_row_1], _, _, _, by omega, rfl⟩))
    · refine .inl ⟨[a, b, some (il (ac ++ [l % 1000]), true), c, some (.int (l / 1000), false), some (.int (0 + (i : Int)), false)], ?_, _, _, _, ?_, rfl⟩
      · have hh : ac.length < 16777216 := by omega
        simp [b_l_row_1, h0, szl, hh]
      · simp; omega
  · rintro ρ ⟨l, ac, k, h1, rfl⟩
    rw [rngD_len] at h1
    exact ⟨l, ac, k, h1, rfl⟩
theorem row_ok (ns : List Int) (hn : ns.length ≤ 63) : ∃ ys, ys ≠ [] ∧ F_l_row [(.scr ns, false)] = .ok (il ys, true) [some (.scr ns, false)] := by
  obtain ⟨ρ', e, acc, sd, c1, c2, c3, h1, rfl⟩ := loop_goN (j := 3) (body := b_l_row_2)
    (ds := ns.map D.int) (ρ := [some (.scr ns, false), some (.int ((ns.length : Int) * 7919), false), some (.lst [], true), none, none, none])
    (fun i ρ => ∃ (acc : List Int) (sd : Int) (c1 c2 c3 : Option Slot), acc.length ≤ 61 * i ∧ ρ = [some (.scr ns, false), some (.int sd, false), some (il acc, true), c1, c2, c3]) ⟨[], _, none, none, none, Nat.le_refl _, rfl⟩ (by
      rintro i d ρ hd ⟨acc, sd, c1, c2, c3, hl, rfl⟩
      obtain ⟨x, hx, rfl⟩ := map_some hd
      have hi : i < 63 := Nat.lt_of_lt_of_le (lt_of_at hx) hn
      have hh : acc.length < 16777216 := by omega
      by_cases hs : (if x < 0 then -x else x) < 1000000000000000000
      · obtain ⟨l', ac', k', g1, g2⟩ := loop_row 0 (acc ++ [(if x < 0 then -x else x) % 1000]) (by simp; omega) (some (.scr ns, false)) (some (.int ((sd * 31 + (if x < 0 then -x else x)) % 65521), false)) (some (.int x, false)) c3
        refine ⟨?w, ?h1, ?h2⟩
        case h1 =>
          simp [b_l_row_2, hs, szl, hh]
          simp only [il, List.map_append, List.map_cons, List.map_nil] at g2
          exact g2
        case h2 =>
          simp [List.length_append] at g1
          exact ⟨ac', _, _, _, _, by omega, rfl⟩
      · obtain ⟨l', ac', k', g1, g2⟩ := loop_row (if x < 0 then -x else x) acc (by omega) (some (.scr ns, false)) (some (.int ((sd * 31 + (if x < 0 then -x else x)) % 65521), false)) (some (.int x, false)) c3
        refine ⟨?w', ?h1', ?h2'⟩
        case h1' =>
          simp [b_l_row_2, hs, szl, hh]
          exact g2
        case h2' => exact ⟨ac', _, _, _, _, by omega, rfl⟩)
  refine ⟨sd :: acc.reverse, by simp, ?_⟩
  have hh : 1 + acc.length ≤ 16777216 := by
    rw [List.length_map] at h1
    omega
  simp [F_l_row, m_l_row, e, szl, hh, List.map_reverse]
end K24

namespace K24
open PySem L2 VS
abbrev sl (xs : List Str) : D := .lst (xs.map D.str)
theorem names_ok (xs : List Int) (h : xs ≠ []) (n : Int) (h0 : 1 ≤ n) (h1 : n ≤ 4) : ∃ names ys, ys ≠ [] ∧ names.length = n.toNat ∧
    F_l_names [(il xs, true), (.int n, false)] = .ok (sl names, true) [some (il ys, true), some (.int n, false)] := by
  obtain ⟨pl, x1, a0, a1, y1, e1⟩ := draw_ok xs h 4 (by decide)
  obtain ⟨al, x2, b0, b1, y2, e2⟩ := draw_ok x1 y1 2 (by decide)
  obtain ⟨st, x3, c0, c1, y3, e3⟩ := draw_ok x2 y2 26 (by decide)
  obtain ⟨hd, x4, y4, hl, e4⟩ := word_ok x3 y3 pl a0 (by omega)
  obtain ⟨v5, x5, d0, d1, y5, e5⟩ := draw_ok x4 y4 5 (by decide)
  obtain ⟨tl, x6, y6, tll, e6⟩ := word_ok x5 y5 v5 d0 (by omega)
  obtain ⟨ρ', e, names, zs, hd', tl', k', g1, g2, g3, g4, rfl⟩ := loop_goN (j := 9) (body := b_l_names_1) (ds := rngD 0 n.toNat) (ρ := [some (il x6, true), some (.int n, false), some (.str letters, false), some (.int pl, false), some (.bl (al == 0), false), some (.int st, false), some (.str hd, false), some (.str tl, false), some (.lst [], true), none])
    (fun i ρ => ∃ (names : List Str) (zs : List Int) (hd tl : Str) (k : Option Slot), zs ≠ [] ∧ names.length = i ∧ hd.length ≤ 10 ∧ tl.length ≤ 10 ∧ ρ = [some (il zs, true), some (.int n, false), some (.str letters, false), some (.int pl, false), some (.bl (al == 0), false), some (.int st, false), some (.str hd, false), some (.str tl, false), some (sl names, true), k])
    ⟨[], x6, hd, tl, none, y6, rfl, by omega, by omega, rfl⟩ (by
      rintro i d ρ hd0 ⟨names, zs, hd, tl, k, q1, q2, q3, q4, rfl⟩
      obtain ⟨hi, rfl⟩ := rngD_at hd0
      obtain ⟨s, hs, es⟩ := letter_at (v := (st + (0 + (i : Int))) % 26) (Int.emod_nonneg _ (by decide)) (Int.emod_lt_of_pos _ (by decide))
      simp at es
      have hn : names.length < 16777216 := by omega
      have k1 : hd.length + s.length ≤ 16777216 := by omega
      have k2 : (hd ++ s).length + tl.length ≤ 16777216 := by rw [slen]; omega
      by_cases ha : al = 0
      · refine ⟨?w, ?h1, ?h2⟩
        case h1 => simp [b_l_names_1, es, szl, k1, k2, hn, ha]; rfl
        case h2 => exact ⟨names ++ [hd ++ s ++ tl], zs, hd, tl, _, q1, by simp [q2], q3, q4, by simp [ha]; rfl⟩
      · obtain ⟨hd2, z2, r1, r2, r3⟩ := word_ok zs q1 pl a0 (by omega)
        obtain ⟨v3, z3, r4, r5, r6, r7⟩ := draw_ok z2 r1 5 (by decide)
        obtain ⟨tl2, z4, r8, r9, r10⟩ := word_ok z3 r6 v3 r4 (by omega)
        refine ⟨?w', ?h1', ?h2'⟩
        case h1' => simp [b_l_names_1, es, szl, k1, k2, hn, ha, r3, r7, r10]; rfl
        case h2' => exact ⟨names ++ [hd ++ s ++ tl], z4, hd2, tl2, _, r8, by simp [q2], by omega, by omega, by simp [ha]; rfl⟩)
  rw [rngD_len] at g2
  refine ⟨names, zs, g1, g2, ?_⟩
  have hn1 : n.natAbs < 4611686018427387904 := by omega
  simp [F_l_names, m_l_names, e1, e2, e3, e4, e5, e6, hn1, e]
end K24

namespace K24
open PySem L2 VS
/-- the base: None or a number -/
def bD : Option Int → D
  | none => .non
  | some k => .int k
def bOk : Option Int → Prop
  | none => True
  | some k => 0 < k
theorem value_ok (xs : List Int) (h : xs ≠ []) (bs : Option Int) (hb : bOk bs) : ∃ v ys, ys ≠ [] ∧
    F_l_value [(il xs, true), (bD bs, false)] = .ok (.int v, false) [some (il ys, true), some (bD bs, false)] := by
  obtain ⟨v1, x1, a0, a1, y1, e1⟩ := draw_ok xs h 4 (by decide)
  by_cases h3 : v1 = 3
  · subst h3
    obtain ⟨v2, x2, b0, b1, y2, e2⟩ := draw_ok x1 y1 1000 (by decide)
    obtain ⟨v3, x3, c0, c1, y3, e3⟩ := draw_ok x2 y2 1000 (by decide)
    exact ⟨v2 * 1000000000000 + v3, x3, y3, by simp [F_l_value, m_l_value, e1, e2, e3]⟩
  · cases bs with
    | none =>
      obtain ⟨v2, x2, b0, b1, y2, e2⟩ := draw_ok x1 y1 10 (by decide)
      exact ⟨v2, x2, y2, by simp [F_l_value, m_l_value, e1, e2, h3, bD]⟩
    | some k =>
      obtain ⟨v2, x2, b0, b1, y2, e2⟩ := draw_ok x1 y1 k hb
      exact ⟨v2, x2, y2, by simp [F_l_value, m_l_value, e1, e2, h3, bD]⟩
/-- a part of a worth -/
def PartOk (names : List Str) (d : D) : Prop := (∃ i, d = .int i) ∨ ∃ s ∈ names, d = .str s
theorem worth_ok (xs : List Int) (h : xs ≠ []) (names : List Str) (hn : names ≠ []) (hm : names.length ≤ 4) : ∃ parts ys, ys ≠ [] ∧ (∀ d ∈ parts, PartOk names d) ∧
    F_l_worth [(il xs, true), (sl names, false)] = .ok (.tup parts, false) [some (il ys, true), some (sl names, false)] := by
  obtain ⟨n, x1, a0, a1, y1, e1⟩ := draw_ok xs h 3 (by decide)
  have hp : 0 < names.length := by
    cases names with
    | nil => exact absurd rfl hn
    | cons _ _ => simp
  obtain ⟨ρ', e, parts, zs, k1, k2, g1, g2, g3, rfl⟩ := loop_goN (j := 3) (body := b_l_worth_1) (ds := rngD 0 (1 + n).toNat) (ρ := [some (il x1, true), some (sl names, false), some (.lst [], true), none, none])
    (fun i ρ => ∃ (parts : List D) (zs : List Int) (k1 k2 : Option Slot), zs ≠ [] ∧ parts.length = i ∧ (∀ d ∈ parts, PartOk names d) ∧ ρ = [some (il zs, true), some (sl names, false), some (.lst parts, true), k1, k2])
    ⟨[], x1, none, none, y1, rfl, (fun _ h => nomatch h), rfl⟩ (by
      rintro i d ρ hd0 ⟨parts, zs, k1, k2, q1, q2, q3, rfl⟩
      obtain ⟨hi, rfl⟩ := rngD_at hd0
      obtain ⟨v, z1, r1, r2, r3, r4⟩ := draw_ok zs q1 (10 + 3 * (names.length : Int)) (by omega)
      have hl : parts.length < 16777216 := by omega
      by_cases hv : v < 10
      · refine ⟨?w, ?h1, ?h2⟩
        case h1 => simp [b_l_worth_1, r4, szl, hl, hv]; rfl
        case h2 =>
          refine ⟨parts ++ [.int v], z1, _, _, r3, by simp [q2], fun d hd => ?_, rfl⟩
          rcases List.mem_append.mp hd with q | q
          · exact q3 d q
          · rw [List.mem_singleton.mp q]; exact .inl ⟨v, rfl⟩
      · obtain ⟨s, hs, hs2⟩ := atI_in (xs := names.map D.str) (v := (v - 10) % (names.length : Int)) (Int.emod_nonneg _ (by omega)) (by rw [List.length_map]; exact Int.emod_lt_of_pos _ (by omega))
        obtain ⟨s', hs3, rfl⟩ := List.mem_map.mp hs2
        have hp2 : (0 : Int) < (names.length : Int) := by omega
        refine ⟨?w', ?h1', ?h2'⟩
        case h1' => simp [b_l_worth_1, r4, szl, hl, hv, hp, hs]; rfl
        case h2' =>
          refine ⟨parts ++ [.str s'], z1, _, _, r3, by simp [q2], fun d hd => ?_, rfl⟩
          rcases List.mem_append.mp hd with q | q
          · exact q3 d q
          · rw [List.mem_singleton.mp q]; exact .inr ⟨s', hs3, rfl⟩)
  refine ⟨parts, zs, g1, g3, ?_⟩
  have hn1 : (1 + n).natAbs < 4611686018427387904 := by omega
  simp [F_l_worth, m_l_worth, e1, hn1, e]
/-- the dict of values -/
abbrev kd (p : Str × Int) : Key × D := (Sum.inr p.1, .int p.2)
theorem get_kd (s : Str) : ∀ vals : List (Str × Int), dGet (vals.map kd) (Sum.inr s : Key) = (dGet vals s).map D.int
  | [] => rfl
  | (k, v) :: r => by
    have := get_kd s r
    by_cases e : k = s
    · subst e; simp [dGet]
    · have e2 : ¬ (Sum.inr k : Key) = Sum.inr s := fun z => e (Sum.inr.inj z)
      simp [dGet, e, this]
theorem has_kd (s : Str) : ∀ vals : List (Str × Int), dHas (vals.map kd) (Sum.inr s : Key) = dHas vals s
  | [] => rfl
  | (k, v) :: r => by
    have := has_kd s r
    by_cases e : k = s
    · subst e; simp [dHas]
    · simp [dHas, e, this]
theorem set_kd (s : Str) (v : Int) : ∀ vals : List (Str × Int), dSet (vals.map kd) (Sum.inr s : Key) (D.int v) = (dSet vals s v).map kd
  | [] => rfl
  | (k, u) :: r => by
    have := set_kd s v r
    by_cases e : k = s
    · subst e; simp [dSet, this]
    · simp [dSet, e, this]
theorem put_kd (s : Str) (v : Int) (vals : List (Str × Int)) : dPut (vals.map kd) (Sum.inr s : Key) (D.int v) = (dPut vals s v).map kd := by
  unfold dPut
  rw [has_kd, set_kd]
  split <;> simp
/-- the sum of the parts -/
def sumP (vals : List (Str × Int)) : List D → Int
  | [] => 0
  | .int i :: r => i + sumP vals r
  | .str s :: r => (dGet vals s).getD 0 + sumP vals r
  | _ :: r => sumP vals r
def finP (bs : Option Int) (t : Int) : Int := match bs with
  | none => t
  | some k => t % k
theorem loop_due (vals : List (Str × Int)) (names : List Str) (hv : ∀ s ∈ names, ∃ i, dGet vals s = some i) (a c : Option Slot) : ∀ (parts : List D) (t : Int) (k : Option Slot), (∀ d ∈ parts, PartOk names d) →
    ∃ k', loop (tgN 4) b_l_due_1 parts [a, some (.dK (vals.map kd), true), c, some (.int t, false), k] = .ok .nx [a, some (.dK (vals.map kd), true), c, some (.int (t + sumP vals parts), false), k'] ∧
      loop (tgN 4) b_p_worth_of_1 parts [a, some (.dK (vals.map kd), true), c, some (.int t, false), k] = .ok .nx [a, some (.dK (vals.map kd), true), c, some (.int (t + sumP vals parts), false), k']
  | [], t, k, _ => ⟨k, by simp [loop, sumP], by simp [loop, sumP]⟩
  | d :: r, t, k, h => by
    rcases h d List.mem_cons_self with ⟨i, rfl⟩ | ⟨s, hs, rfl⟩
    · obtain ⟨k', e1, e2⟩ := loop_due vals names hv a c r (t + i) (some (.int i, false)) fun d hd => h d (List.mem_cons_of_mem _ hd)
      refine ⟨k', ?_, ?_⟩
      · rw [loop_nxN (ρ2 := [a, some (.dK (vals.map kd), true), c, some (.int (t + i), false), some (.int i, false)]) (by simp [b_l_due_1]), e1]
        simp [sumP, Int.add_assoc]
      · rw [loop_nxN (ρ2 := [a, some (.dK (vals.map kd), true), c, some (.int (t + i), false), some (.int i, false)]) (by simp [b_p_worth_of_1]), e2]
        simp [sumP, Int.add_assoc]
    · obtain ⟨i, hi⟩ := hv s hs
      obtain ⟨k', e1, e2⟩ := loop_due vals names hv a c r (t + i) (some (.str s, false)) fun d hd => h d (List.mem_cons_of_mem _ hd)
      have hg := get_kd s vals
      rw [hi] at hg
      refine ⟨k', ?_, ?_⟩
      · rw [loop_nxN (ρ2 := [a, some (.dK (vals.map kd), true), c, some (.int (t + i), false), some (.str s, false)]) (by simp [b_l_due_1, hg]), e1]
        simp [sumP, hi, Int.add_assoc]
      · rw [loop_nxN (ρ2 := [a, some (.dK (vals.map kd), true), c, some (.int (t + i), false), some (.str s, false)]) (by simp [b_p_worth_of_1, hg]), e2]
        simp [sumP, hi, Int.add_assoc]
theorem due_ok (vals : List (Str × Int)) (names : List Str) (hv : ∀ s ∈ names, ∃ i, dGet vals s = some i) (parts : List D) (hp : ∀ d ∈ parts, PartOk names d) (bs : Option Int) (hb : bOk bs) :
    F_l_due [(.tup parts, false), (.dK (vals.map kd), true), (bD bs, false)] = .ok (.int (finP bs (sumP vals parts)), false) [some (.tup parts, false), some (.dK (vals.map kd), true), some (bD bs, false)] ∧
    F_p_worth_of [(.tup parts, false), (.dK (vals.map kd), true), (bD bs, false)] = .ok (.int (finP bs (sumP vals parts)), false) [some (.tup parts, false), some (.dK (vals.map kd), true), some (bD bs, false)] := by
  obtain ⟨k', e1, e2⟩ := loop_due vals names hv (some (.tup parts, false)) (some (bD bs, false)) parts 0 none hp
  cases bs with
  | none => exact ⟨by simp [F_l_due, m_l_due, e1, bD, finP] <;> simp [bD] at e1 <;> simp [e1], by simp [F_p_worth_of, m_p_worth_of, e2, bD, finP] <;> simp [bD] at e2 <;> simp [e2]⟩
  | some k =>
    have hk : 0 < k := hb
    exact ⟨by simp [F_l_due, m_l_due, e1, bD, finP, hk] <;> simp [bD] at e1 <;> simp [e1, hk], by simp [F_p_worth_of, m_p_worth_of, e2, bD, finP, hk] <;> simp [bD] at e2 <;> simp [e2, hk]⟩
end K24

namespace K24
open PySem L2 VS
theorem is_ok (b c : Bool) : F_l_is [(.bl b, false), (.bl c, false)] = .ok (.bl (b == c), false) [some (.bl b, false), some (.bl c, false)] := by
  simp [F_l_is, m_l_is]
theorem sg1 : ((Str.ofString "!") == (Str.ofString "=")) = false := by decide +kernel
theorem sg2 : ((Str.ofString "<") == (Str.ofString "=")) = false := by decide +kernel
theorem sg3 : ((Str.ofString "<") == (Str.ofString "!")) = false := by decide +kernel
section
variable (vals : List (Str × Int)) (names : List Str) (hv : ∀ s ∈ names, ∃ i, dGet vals s = some i) (parts : List D) (hp : ∀ d ∈ parts, PartOk names d) (bs : Option Int) (hb : bOk bs)
include hv hp hb
theorem holds_eq (s : Str) (i : Int) (hi : dGet vals s = some i) : F_p_holds [(.tup [.str s, .str "=", .tup parts], false), (.dK (vals.map kd), true), (bD bs, false)] = .ok (.bl (i == finP bs (sumP vals parts)), false) [some (.tup [.str s, .str "=", .tup parts], false), some (.dK (vals.map kd), true), some (bD bs, false)] := by
  have hg := get_kd s vals
  rw [hi] at hg
  have e := (due_ok vals names hv parts hp bs hb).2
  simp [F_p_holds, m_p_holds, hg, e]
theorem holds_ne (s : Str) (i : Int) (hi : dGet vals s = some i) : F_p_holds [(.tup [.str s, .str "!", .tup parts], false), (.dK (vals.map kd), true), (bD bs, false)] = .ok (.bl (!(i == finP bs (sumP vals parts))), false) [some (.tup [.str s, .str "!", .tup parts], false), some (.dK (vals.map kd), true), some (bD bs, false)] := by
  have hg := get_kd s vals
  rw [hi] at hg
  have e := (due_ok vals names hv parts hp bs hb).2
  have s1 := sg1
  simp at s1
  simp [F_p_holds, m_p_holds, hg, e, s1]
theorem holds_lt (s : Str) (i : Int) (hi : dGet vals s = some i) : F_p_holds [(.tup [.str s, .str "<", .tup parts], false), (.dK (vals.map kd), true), (bD bs, false)] = .ok (.bl (decide (i < finP bs (sumP vals parts))), false) [some (.tup [.str s, .str "<", .tup parts], false), some (.dK (vals.map kd), true), some (bD bs, false)] := by
  have hg := get_kd s vals
  rw [hi] at hg
  have e := (due_ok vals names hv parts hp bs hb).2
  have s2 := sg2
  have s3 := sg3
  simp at s2 s3
  simp [F_p_holds, m_p_holds, hg, e, s2, s3]
/-- one name of the dict -/
theorem right_turn (s : Str) (i : Int) (hi : dGet vals s = some i) (t : Int) (k6 k7 : Option Slot) : ∃ k7', b_l_right_1 [some (.tup parts, false), some (.dK (vals.map kd), true), some (bD bs, false), some (.dK (vals.map kd), true), some (.int (finP bs (sumP vals parts)), false), some (.int t, false), some (.str s, false), k7] =
    .ok .nx [some (.tup parts, false), some (.dK (vals.map kd), true), some (bD bs, false), some (.dK (vals.map kd), true), some (.int (finP bs (sumP vals parts)), false), some (.int t, false), some (.str s, false), k7'] := by
  have hg := get_kd s vals
  rw [hi] at hg
  have e1 := holds_eq vals names hv parts hp bs hb s i hi
  have e2 := holds_ne vals names hv parts hp bs hb s i hi
  have e3 := holds_lt vals names hv parts hp bs hb s i hi
  have i1 := is_ok
  refine ⟨some (.int i, false), ?_⟩
  cases bs with
  | none =>
    simp only [bD] at e1 e2 e3 ⊢
    simp [b_l_right_1, hg, e1, e2, i1]
  | some k =>
    simp only [bD] at e1 e2 e3 ⊢
    by_cases h : i < k
    · simp [b_l_right_1, hg, e1, e2, e3, i1, h]
    · simp [b_l_right_1, hg, h]
theorem right_ok (nd : ∀ p ∈ vals, dGet vals p.1 = some p.2) : F_l_right [(.tup parts, false), (.dK (vals.map kd), true), (bD bs, false)] = .ok (.bl true, false) [some (.tup parts, false), some (.dK (vals.map kd), true), some (bD bs, false)] := by
  obtain ⟨d1, d2⟩ := due_ok vals names hv parts hp bs hb
  have hk : ((vals.map kd).map fun kv => keyD kv.1) = vals.map fun p => D.str p.1 := by
    rw [List.map_map]; rfl
  obtain ⟨ρ', e, k6, k7, rfl⟩ := loop_goN (j := 6) (body := b_l_right_1) (ds := vals.map fun p => D.str p.1) (ρ := [some (.tup parts, false), some (.dK (vals.map kd), true), some (bD bs, false), some (.dK (vals.map kd), true), some (.int (finP bs (sumP vals parts)), false), some (.int (finP bs (sumP vals parts)), false), none, none])
    (fun i ρ => ∃ k6 k7 : Option Slot, ρ = [some (.tup parts, false), some (.dK (vals.map kd), true), some (bD bs, false), some (.dK (vals.map kd), true), some (.int (finP bs (sumP vals parts)), false), some (.int (finP bs (sumP vals parts)), false), k6, k7])
    ⟨none, none, rfl⟩ (by
      rintro i d ρ hd ⟨k6, k7, rfl⟩
      obtain ⟨p, hp1, rfl⟩ := map_some hd
      obtain ⟨k7', e⟩ := right_turn vals names hv parts hp bs hb p.1 p.2 (nd p (List.mem_of_getElem? hp1)) (finP bs (sumP vals parts)) k6 k7
      exact ⟨_, e, _, _, rfl⟩)
  have hq : eqK (vals.map kd) (vals.map kd) = true := by
    unfold eqK
    simp only [decide_true, Bool.true_and, List.all_eq_true]
    intro x hx
    obtain ⟨p, hp1, rfl⟩ := List.mem_map.mp hx
    show (match dGet (vals.map kd) (Sum.inr p.1 : Key) with | some e => sameS (.int p.2) e | none => false) = true
    rw [get_kd, nd p hp1]
    simp [sameS]
  simp [F_l_right, m_l_right, d1, d2, hk, e, hq]
end
end K24

namespace K24
open PySem L2 VS
theorem base_at {v : Int} (h0 : 0 ≤ v) (h1 : v < 5) : ∃ bs, bOk bs ∧ atI [D.non, D.int 2, D.int 3, D.int 4, D.int 5] v = some (bD bs) := by
  have : v = 0 ∨ v = 1 ∨ v = 2 ∨ v = 3 ∨ v = 4 := by omega
  rcases this with rfl | rfl | rfl | rfl | rfl
  · exact ⟨none, trivial, rfl⟩
  · exact ⟨some 2, (by show (0 : Int) < 2; decide), rfl⟩
  · exact ⟨some 3, (by show (0 : Int) < 3; decide), rfl⟩
  · exact ⟨some 4, (by show (0 : Int) < 4; decide), rfl⟩
  · exact ⟨some 5, (by show (0 : Int) < 5; decide), rfl⟩
theorem law_ok (ns : List Int) (hn : ns.length ≤ 63) : F_law [(.scr ns, false)] = .ok (.bl true, false) [some (.scr ns, false)] := by
  obtain ⟨x0, y0, e0⟩ := row_ok ns hn
  obtain ⟨v1, x1, a0, a1, y1, e1⟩ := draw_ok x0 y0 5 (by decide)
  obtain ⟨bs, hb, eb⟩ := base_at a0 a1
  obtain ⟨v2, x2, b0, b1, y2, e2⟩ := draw_ok x1 y1 4 (by decide)
  obtain ⟨names, x3, y3, l3, e3⟩ := names_ok x2 y2 (1 + v2) (by omega) (by omega)
  have nne : names ≠ [] := by rintro rfl; simp at l3; omega
  have nle : names.length ≤ 4 := by omega
  -- the values
  obtain ⟨ρ', e4, vals, x4, k5, y4, nd4, ln4, cv4, rfl⟩ := loop_goN (j := 5) (body := b_law_1) (ds := names.map D.str) (ρ := [some (.scr ns, false), some (il x3, true), some (bD bs, false), some (sl names, false), some (.dK [], true), none, none, none])
    (fun i ρ => ∃ (vals : List (Str × Int)) (xs : List Int) (k5 : Option Slot), xs ≠ [] ∧ (vals.map (·.1)).Nodup ∧ vals.length ≤ i ∧ (∀ j s, j < i → names[j]? = some s → ∃ v, dGet vals s = some v) ∧ ρ = [some (.scr ns, false), some (il xs, true), some (bD bs, false), some (sl names, false), some (.dK (vals.map kd), true), k5, none, none])
    ⟨[], x3, none, y3, List.nodup_nil, Nat.le_refl _, (fun j s h => by omega), rfl⟩ (by
      rintro i d ρ hd ⟨vals, xs, k5, q1, q2, q3, q4, rfl⟩
      obtain ⟨s, hs, rfl⟩ := map_some hd
      have hi : i < names.length := lt_of_at hs
      obtain ⟨v, zs, r1, r2⟩ := value_ok xs q1 bs hb
      have hl : vals.length < 16777216 := by omega
      refine ⟨?w, ?h1, ?h2⟩
      case h1 =>
        simp [b_law_1, r2, szl, hl, put_kd]
        rfl
      case h2 =>
        refine ⟨dPut vals s v, zs, _, r1, dPut_nodup q2, ?_, ?_, rfl⟩
        · have := dPut_len (k := s) (v := v) (kvs := vals)
          omega
        · intro j t hj ht
          rw [dGet_put]
          by_cases es : s = t
          · exact ⟨v, by rw [if_pos es]⟩
          · rw [if_neg es]
            by_cases ej : j = i
            · subst ej; rw [hs] at ht; exact absurd (Option.some.inj ht) es
            · exact q4 j t (by omega) ht)
  rw [List.length_map] at ln4 cv4
  have cv : ∀ s ∈ names, ∃ i, dGet vals s = some i := by
    intro s hs
    obtain ⟨j, hj⟩ := List.getElem?_of_mem hs
    exact cv4 j s (lt_of_at hj) hj
  -- holds(None, ..)
  have eh : F_p_holds [(.non, false), (.dK (vals.map kd), false), (bD bs, false)] = .ok (.bl true, false) [some (.non, false), some (.dK (vals.map kd), false), some (bD bs, false)] := by
    simp [F_p_holds, m_p_holds]
  obtain ⟨v5, x5, c0, c1, y5, e5⟩ := draw_ok x4 y4 4 (by decide)
  obtain ⟨ρ', e6, vals', x6, k5', k6, k7, y6, nd6, ln6, cv6, rfl⟩ := loop_goN (j := 6) (body := b_law_2) (ds := rngD 0 (1 + v5).toNat) (ρ := [some (.scr ns, false), some (il x5, true), some (bD bs, false), some (sl names, false), some (.dK (vals.map kd), true), k5, none, none])
    (fun i ρ => ∃ (vals : List (Str × Int)) (xs : List Int) (k5 k6 k7 : Option Slot), xs ≠ [] ∧ (vals.map (·.1)).Nodup ∧ vals.length ≤ 10 + i ∧ (∀ s ∈ names, ∃ v, dGet vals s = some v) ∧ ρ = [some (.scr ns, false), some (il xs, true), some (bD bs, false), some (sl names, false), some (.dK (vals.map kd), true), k5, k6, k7])
    ⟨vals, x5, _, none, none, y5, nd4, by omega, cv, rfl⟩ (by
      rintro i d ρ hd ⟨vals, xs, k5, k6, k7, q1, q2, q3, q4, rfl⟩
      obtain ⟨hi, rfl⟩ := rngD_at hd
      obtain ⟨parts, z1, r1, r2, r3⟩ := worth_ok xs q1 names nne nle
      have t1 := right_ok vals names q4 parts r2 bs hb fun p hp => dGet_mem q2 hp
      obtain ⟨v2, z2, u1, u2⟩ := value_ok z1 r1 bs hb
      have np : 0 < names.length := by
        cases names with
        | nil => exact absurd rfl nne
        | cons _ _ => simp
      obtain ⟨v3, z3, w0, w1, w2, w3⟩ := draw_ok z2 u1 (names.length : Int) (by omega)
      obtain ⟨s, hs, hs2⟩ := atI_in (xs := names.map D.str) (v := v3) w0 (by rw [List.length_map]; exact w1)
      obtain ⟨s', hs3, rfl⟩ := List.mem_map.mp hs2
      have q4' : ∀ s ∈ names, ∃ v, dGet (dPut vals s' v2) s = some v := by
        intro s hs
        rw [dGet_put]
        split
        · exact ⟨v2, rfl⟩
        · exact q4 s hs
      have t2 := right_ok (dPut vals s' v2) names q4' parts r2 bs hb fun p hp => dGet_mem (dPut_nodup q2) hp
      have hl : vals.length < 16777216 := by omega
      refine ⟨?w', ?h1', ?h2'⟩
      case h1' =>
        simp [b_law_2, r3, t1, u2, w3, hs, szl, hl, put_kd, t2]
        rfl
      case h2' =>
        refine ⟨dPut vals s' v2, z3, _, _, _, w2, dPut_nodup q2, ?_, q4', rfl⟩
        have := dPut_len (k := s') (v := v2) (kvs := vals)
        omega)
  have hr : (1 + v5).natAbs < 4611686018427387904 := by omega
  have i1 := is_ok true true
  simp [F_law, m_law, e0, e1, eb, e2, e3, e4, eh, i1, e5, hr, e6]
end K24

namespace K24
open PySem L2 PySem.Spec PyProof.Rows VS
/-- what the top has left -/
theorem all_mk {l : PySem.W.OpenLaw} {w : World} {K : PySem.W.Frag} {h : Heap} {mg : Str → Option Value} {fa : Addr} (X : K.In h) (G : h.Ns mainGlobals mg) (hfa : mg "law" = some (.ref fa))
    {f0 : Addr} {od0 an0 : Option Addr} {sl0 : Array (Option Value)} {oc0 kV0 dc0 pm0 cd0 ct0 : Value}
    {f1 : Addr} {od1 an1 : Option Addr} {sl1 : Array (Option Value)} {oc1 kV1 dc1 pm1 cd1 ct1 : Value}
    {f2 : Addr} {od2 an2 : Option Addr} {sl2 : Array (Option Value)} {oc2 kV2 dc2 pm2 cd2 ct2 : Value}
    {f3 : Addr} {od3 an3 : Option Addr} {sl3 : Array (Option Value)} {oc3 kV3 dc3 pm3 cd3 ct3 : Value}
    {f4 : Addr} {od4 an4 : Option Addr} {sl4 : Array (Option Value)} {oc4 kV4 dc4 pm4 cd4 ct4 : Value}
    {f5 : Addr} {od5 an5 : Option Addr} {sl5 : Array (Option Value)} {oc5 kV5 dc5 pm5 cd5 ct5 : Value}
    {f6 : Addr} {od6 an6 : Option Addr} {sl6 : Array (Option Value)} {oc6 kV6 dc6 pm6 cd6 ct6 : Value}
    {f7 : Addr} {od7 an7 : Option Addr} {sl7 : Array (Option Value)} {oc7 kV7 dc7 pm7 cd7 ct7 : Value}
    {f8 : Addr} {od8 an8 : Option Addr} {sl8 : Array (Option Value)} {oc8 kV8 dc8 pm8 cd8 ct8 : Value}
    {f9 : Addr} {od9 an9 : Option Addr} {sl9 : Array (Option Value)} {oc9 kV9 dc9 pm9 cd9 ct9 : Value}
    {f10 : Addr} {od10 an10 : Option Addr} {sl10 : Array (Option Value)} {oc10 kV10 dc10 pm10 cd10 ct10 : Value}
    {f11 : Addr} {od11 an11 : Option Addr} {sl11 : Array (Option Value)} {oc11 kV11 dc11 pm11 cd11 ct11 : Value}
    (a0 : PySem.W.nsIn K mainGlobals "_law_row" = some (some (.ref f0))) (l0 : K.lookup f0 = some ⟨oc0, od0, .func (PySem.W.fnOf "_law_row" "_law_row" (defArgs s_l_row) (defBody s_l_row) (defScope s_l_row) .none kV0 dc0 pm0 an0 cd0 ct0), sl0⟩) (c0 : PySem.W.codeIn K cd0 "_law_row" = true) (k0 : PySem.W.keepIn K (.ref f0) = true)
    (a1 : PySem.W.nsIn K mainGlobals "_law_draw" = some (some (.ref f1))) (l1 : K.lookup f1 = some ⟨oc1, od1, .func (PySem.W.fnOf "_law_draw" "_law_draw" (defArgs s_l_draw) (defBody s_l_draw) (defScope s_l_draw) .none kV1 dc1 pm1 an1 cd1 ct1), sl1⟩) (c1 : PySem.W.codeIn K cd1 "_law_draw" = true) (k1 : PySem.W.keepIn K (.ref f1) = true)
    (a2 : PySem.W.nsIn K mainGlobals "_law_word" = some (some (.ref f2))) (l2 : K.lookup f2 = some ⟨oc2, od2, .func (PySem.W.fnOf "_law_word" "_law_word" (defArgs s_l_word) (defBody s_l_word) (defScope s_l_word) .none kV2 dc2 pm2 an2 cd2 ct2), sl2⟩) (c2 : PySem.W.codeIn K cd2 "_law_word" = true) (k2 : PySem.W.keepIn K (.ref f2) = true)
    (a3 : PySem.W.nsIn K mainGlobals "_law_names" = some (some (.ref f3))) (l3 : K.lookup f3 = some ⟨oc3, od3, .func (PySem.W.fnOf "_law_names" "_law_names" (defArgs s_l_names) (defBody s_l_names) (defScope s_l_names) .none kV3 dc3 pm3 an3 cd3 ct3), sl3⟩) (c3 : PySem.W.codeIn K cd3 "_law_names" = true) (k3 : PySem.W.keepIn K (.ref f3) = true)
    (a4 : PySem.W.nsIn K mainGlobals "_law_value" = some (some (.ref f4))) (l4 : K.lookup f4 = some ⟨oc4, od4, .func (PySem.W.fnOf "_law_value" "_law_value" (defArgs s_l_value) (defBody s_l_value) (defScope s_l_value) .none kV4 dc4 pm4 an4 cd4 ct4), sl4⟩) (c4 : PySem.W.codeIn K cd4 "_law_value" = true) (k4 : PySem.W.keepIn K (.ref f4) = true)
    (a5 : PySem.W.nsIn K mainGlobals "_law_is" = some (some (.ref f5))) (l5 : K.lookup f5 = some ⟨oc5, od5, .func (PySem.W.fnOf "_law_is" "_law_is" (defArgs s_l_is) (defBody s_l_is) (defScope s_l_is) .none kV5 dc5 pm5 an5 cd5 ct5), sl5⟩) (c5 : PySem.W.codeIn K cd5 "_law_is" = true) (k5 : PySem.W.keepIn K (.ref f5) = true)
    (a6 : PySem.W.nsIn K mainGlobals "worth_of" = some (some (.ref f6))) (l6 : K.lookup f6 = some ⟨oc6, od6, .func (PySem.W.fnOf "worth_of" "worth_of" (defArgs s_p_worth_of) (defBody s_p_worth_of) (defScope s_p_worth_of) .none kV6 dc6 pm6 an6 cd6 ct6), sl6⟩) (c6 : PySem.W.codeIn K cd6 "worth_of" = true) (k6 : PySem.W.keepIn K (.ref f6) = true)
    (a7 : PySem.W.nsIn K mainGlobals "holds" = some (some (.ref f7))) (l7 : K.lookup f7 = some ⟨oc7, od7, .func (PySem.W.fnOf "holds" "holds" (defArgs s_p_holds) (defBody s_p_holds) (defScope s_p_holds) .none kV7 dc7 pm7 an7 cd7 ct7), sl7⟩) (c7 : PySem.W.codeIn K cd7 "holds" = true) (k7 : PySem.W.keepIn K (.ref f7) = true)
    (a8 : PySem.W.nsIn K mainGlobals "_law_worth" = some (some (.ref f8))) (l8 : K.lookup f8 = some ⟨oc8, od8, .func (PySem.W.fnOf "_law_worth" "_law_worth" (defArgs s_l_worth) (defBody s_l_worth) (defScope s_l_worth) .none kV8 dc8 pm8 an8 cd8 ct8), sl8⟩) (c8 : PySem.W.codeIn K cd8 "_law_worth" = true) (k8 : PySem.W.keepIn K (.ref f8) = true)
    (a9 : PySem.W.nsIn K mainGlobals "_law_due" = some (some (.ref f9))) (l9 : K.lookup f9 = some ⟨oc9, od9, .func (PySem.W.fnOf "_law_due" "_law_due" (defArgs s_l_due) (defBody s_l_due) (defScope s_l_due) .none kV9 dc9 pm9 an9 cd9 ct9), sl9⟩) (c9 : PySem.W.codeIn K cd9 "_law_due" = true) (k9 : PySem.W.keepIn K (.ref f9) = true)
    (a10 : PySem.W.nsIn K mainGlobals "_law_right" = some (some (.ref f10))) (l10 : K.lookup f10 = some ⟨oc10, od10, .func (PySem.W.fnOf "_law_right" "_law_right" (defArgs s_l_right) (defBody s_l_right) (defScope s_l_right) .none kV10 dc10 pm10 an10 cd10 ct10), sl10⟩) (c10 : PySem.W.codeIn K cd10 "_law_right" = true) (k10 : PySem.W.keepIn K (.ref f10) = true)
    (a11 : PySem.W.nsIn K mainGlobals "law" = some (some (.ref f11))) (l11 : K.lookup f11 = some ⟨oc11, od11, .func (PySem.W.fnOf "law" "law" (defArgs s_law) (defBody s_law) (defScope s_law) .none kV11 dc11 pm11 an11 cd11 ct11), sl11⟩) (c11 : PySem.W.codeIn K cd11 "law" = true) (k11 : PySem.W.keepIn K (.ref f11) = true)
    (z0 : PySem.W.nsIn K mainGlobals "abs" = some none)
    (z1 : PySem.W.nsIn K mainGlobals "bool" = some none)
    (z2 : PySem.W.nsIn K mainGlobals "dict" = some none)
    (z3 : PySem.W.nsIn K mainGlobals "int" = some none)
    (z4 : PySem.W.nsIn K mainGlobals "isinstance" = some none)
    (z5 : PySem.W.nsIn K mainGlobals "len" = some none)
    (z6 : PySem.W.nsIn K mainGlobals "list" = some none)
    (z7 : PySem.W.nsIn K mainGlobals "range" = some none)
    (z8 : PySem.W.nsIn K mainGlobals "str" = some none)
    (z9 : PySem.W.nsIn K mainGlobals "tuple" = some none)
    : ∃ fd : FuncData, (∀ (s : Shared) (v : Value), BindsTo s fd ⟨[v], []⟩ [("_law_script", v)]) ∧ ∃ ct : Nat → Addr, ∀ base : Heap, K.In base → base.Ns mainGlobals mg → FnOk l.prog w K mg base (L2.CX l.prog w) 4 fa fd ["_law_script"] (spD ⟨K, ct⟩ F_law 1) := by
  have e := hfa.symm.trans (PySem.W.mg_of X G a11)
  cases e
  have T : Tx mg := ⟨PySem.W.mg_none_of X G z0, PySem.W.mg_none_of X G z1, PySem.W.mg_none_of X G z2, PySem.W.mg_none_of X G z3, PySem.W.mg_none_of X G z4, PySem.W.mg_none_of X G z5, PySem.W.mg_none_of X G z6, PySem.W.mg_none_of X G z7, PySem.W.mg_none_of X G z8, PySem.W.mg_none_of X G z9⟩
  have F0 := fun_mk (st := s_l_row) l0 c0 k0
  have b0 := F0.binds (ps := ["_law_script"]) fun _ _ _ _ _ _ us hl => match us, hl with | [_], _ => rfl
  have m0 := PySem.W.mg_of X G a0
  have F1 := fun_mk (st := s_l_draw) l1 c1 k1
  have b1 := F1.binds (ps := ["_law_row_here", "_law_many"]) fun _ _ _ _ _ _ us hl => match us, hl with | [_, _], _ => rfl
  have m1 := PySem.W.mg_of X G a1
  have F2 := fun_mk (st := s_l_word) l2 c2 k2
  have b2 := F2.binds (ps := ["_law_row_here", "_law_size"]) fun _ _ _ _ _ _ us hl => match us, hl with | [_, _], _ => rfl
  have m2 := PySem.W.mg_of X G a2
  have F3 := fun_mk (st := s_l_names) l3 c3 k3
  have b3 := F3.binds (ps := ["_law_row_here", "_law_many"]) fun _ _ _ _ _ _ us hl => match us, hl with | [_, _], _ => rfl
  have m3 := PySem.W.mg_of X G a3
  have F4 := fun_mk (st := s_l_value) l4 c4 k4
  have b4 := F4.binds (ps := ["_law_row_here", "_law_base"]) fun _ _ _ _ _ _ us hl => match us, hl with | [_, _], _ => rfl
  have m4 := PySem.W.mg_of X G a4
  have F5 := fun_mk (st := s_l_is) l5 c5 k5
  have b5 := F5.binds (ps := ["_law_told", "_law_due_here"]) fun _ _ _ _ _ _ us hl => match us, hl with | [_, _], _ => rfl
  have m5 := PySem.W.mg_of X G a5
  have F6 := fun_mk (st := s_p_worth_of) l6 c6 k6
  have b6 := F6.binds (ps := ["worth", "values", "base"]) fun _ _ _ _ _ _ us hl => match us, hl with | [_, _, _], _ => rfl
  have m6 := PySem.W.mg_of X G a6
  have F7 := fun_mk (st := s_p_holds) l7 c7 k7
  have b7 := F7.binds (ps := ["guard", "values", "base"]) fun _ _ _ _ _ _ us hl => match us, hl with | [_, _, _], _ => rfl
  have m7 := PySem.W.mg_of X G a7
  have F8 := fun_mk (st := s_l_worth) l8 c8 k8
  have b8 := F8.binds (ps := ["_law_row_here", "_law_names_here"]) fun _ _ _ _ _ _ us hl => match us, hl with | [_, _], _ => rfl
  have m8 := PySem.W.mg_of X G a8
  have F9 := fun_mk (st := s_l_due) l9 c9 k9
  have b9 := F9.binds (ps := ["_law_worth_here", "_law_values", "_law_base"]) fun _ _ _ _ _ _ us hl => match us, hl with | [_, _, _], _ => rfl
  have m9 := PySem.W.mg_of X G a9
  have F10 := fun_mk (st := s_l_right) l10 c10 k10
  have b10 := F10.binds (ps := ["_law_worth_here", "_law_values", "_law_base"]) fun _ _ _ _ _ _ us hl => match us, hl with | [_, _, _], _ => rfl
  have m10 := PySem.W.mg_of X G a10
  have F11 := fun_mk (st := s_law) l11 c11 k11
  refine ⟨PySem.W.fnOf "law" "law" (defArgs s_law) (defBody s_law) (defScope s_law) .none kV11 dc11 pm11 an11 cd11 ct11, fun s v => .of_eq rfl, fun _ => 0, fun base _ _ => ?_⟩
  have h0 : Fn l.prog w K mg base (fun _ => 0) 1 "_law_row" 1 F_l_row := ok_l_row T F0 m0 b0 
  have h1 : Fn l.prog w K mg base (fun _ => 0) 1 "_law_draw" 2 F_l_draw := ok_l_draw T F1 m1 b1 
  have h2 : Fn l.prog w K mg base (fun _ => 0) 2 "_law_word" 2 F_l_word := ok_l_word T F2 m2 b2 h1
  have h3 : Fn l.prog w K mg base (fun _ => 0) 3 "_law_names" 2 F_l_names := ok_l_names T F3 m3 b3 h1 h2
  have h4 : Fn l.prog w K mg base (fun _ => 0) 2 "_law_value" 2 F_l_value := ok_l_value T F4 m4 b4 h1
  have h5 : Fn l.prog w K mg base (fun _ => 0) 1 "_law_is" 2 F_l_is := ok_l_is T F5 m5 b5 
  have h6 : Fn l.prog w K mg base (fun _ => 0) 1 "worth_of" 3 F_p_worth_of := ok_p_worth_of T F6 m6 b6 
  have h7 : Fn l.prog w K mg base (fun _ => 0) 2 "holds" 3 F_p_holds := ok_p_holds T F7 m7 b7 h6
  have h8 : Fn l.prog w K mg base (fun _ => 0) 2 "_law_worth" 2 F_l_worth := ok_l_worth T F8 m8 b8 h1
  have h9 : Fn l.prog w K mg base (fun _ => 0) 1 "_law_due" 3 F_l_due := ok_l_due T F9 m9 b9 
  have h10 : Fn l.prog w K mg base (fun _ => 0) 3 "_law_right" 3 F_l_right := ok_l_right T F10 m10 b10 h9 h6 h5 h7
  exact ok_law T F11 h0 h1 h3 h4 h5 h7 h8 h10
end K24
open PySem PySem.W PyProof.Rows
set_option maxRecDepth 100000 in
set_option maxHeartbeats 0 in
theorem PySem.Challenge.cw_coretower_k24_worth_and_guard_holds : PySem.Challenge.rw_coretower_k24_worth_and_guard.Holds := by
  w_on; o_law; k_head; (case hw => w_witness2)
  k_fill
  refine VS.walkD (l := PySem.Challenge.rw_coretower_k24_worth_and_guard) (F := K24.F_law) (k := 4) (x := "_law_script") (fun ns hn => ⟨_, K24.law_ok ns hn⟩) ⟨rfl, by decide, by decide⟩ rfl rfl (fun w h Y => PySem.W.kIn_of Y) ?F
  case F =>
    intro w mg fa h KX G hmg
    refine' K24.all_mk KX G hmg ?a0 ?l0 ?c0 ?k0 ?a1 ?l1 ?c1 ?k1 ?a2 ?l2 ?c2 ?k2 ?a3 ?l3 ?c3 ?k3 ?a4 ?l4 ?c4 ?k4 ?a5 ?l5 ?c5 ?k5 ?a6 ?l6 ?c6 ?k6 ?a7 ?l7 ?c7 ?k7 ?a8 ?l8 ?c8 ?k8 ?a9 ?l9 ?c9 ?k9 ?a10 ?l10 ?c10 ?k10 ?a11 ?l11 ?c11 ?k11 ?z0 ?z1 ?z2 ?z3 ?z4 ?z5 ?z6 ?z7 ?z8 ?z9
    (case a0 => k_is)
    (case l0 => k_is)
    (case c0 => k_is)
    (case k0 => k_is)
    (case a1 => k_is)
    (case l1 => k_is)
    (case c1 => k_is)
    (case k1 => k_is)
    (case a2 => k_is)
    (case l2 => k_is)
    (case c2 => k_is)
    (case k2 => k_is)
    (case a3 => k_is)
    (case l3 => k_is)
    (case c3 => k_is)
    (case k3 => k_is)
    (case a4 => k_is)
    (case l4 => k_is)
    (case c4 => k_is)
    (case k4 => k_is)
    (case a5 => k_is)
    (case l5 => k_is)
    (case c5 => k_is)
    (case k5 => k_is)
    (case a6 => k_is)
    (case l6 => k_is)
    (case c6 => k_is)
    (case k6 => k_is)
    (case a7 => k_is)
    (case l7 => k_is)
    (case c7 => k_is)
    (case k7 => k_is)
    (case a8 => k_is)
    (case l8 => k_is)
    (case c8 => k_is)
    (case k8 => k_is)
    (case a9 => k_is)
    (case l9 => k_is)
    (case c9 => k_is)
    (case k9 => k_is)
    (case a10 => k_is)
    (case l10 => k_is)
    (case c10 => k_is)
    (case k10 => k_is)
    (case a11 => k_is)
    (case l11 => k_is)
    (case c11 => k_is)
    (case k11 => k_is)
    (case z0 => k_is)
    (case z1 => k_is)
    (case z2 => k_is)
    (case z3 => k_is)
    (case z4 => k_is)
    (case z5 => k_is)
    (case z6 => k_is)
    (case z7 => k_is)
    (case z8 => k_is)
    (case z9 => k_is)
