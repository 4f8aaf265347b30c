import PyProof.Rows.All
import Wide.All
import OpenK.AllK
import Wide.FinOn
import HandS.Conv
import HandS.Deep
import HandS.DeepEq
import HandS.Defaults
import HandS.ExcInit
import HandS.ForExc
import HandS.ForMost
import HandS.HotCalls
import HandS.IsInst
import HandS.Iter
import HandS.IterVal
import HandS.MakeKwOnly
import HandS.OwnIter
import HandS.SortInts
import HandS.SortOrd
import HandS.SortRule
import HandS.Star
import HandS.Style
import HandS.Text
import HandS.TryMany
import HandS.TupAny
import HandS.Walk
import HandS.WordsExc
import KE.GoesEnum
import KE.GoesMore
import KE.KExcIs
import KE.KExcSuper
import KE.KOwnIter
import KE.KSortAsk
import KE.KSortTupAny
import KE.RegKSuper
import PySem.Challenge.RW_coretower_k33_pairs_as_sets
set_option Elab.async false
set_option linter.all false
set_option maxRecDepth 100000
set_option maxHeartbeats 4000000
namespace VS
open PySem L2

/-! ### data -/
inductive D where
  | non
  | bl (b : Bool)
  | int (i : Int)
  | str (x : Str)
  | tup (xs : List D)
  | ktup (xs : List D)
  | lst (xs : List D)
  | dK (kvs : List (Key × D))
  | dT (kvs : List (List Key × D))
  | obj (c : Nat) (fs : List (Str × D))
  | ty (n : String)
  | scr (ns : List Int)
  | exc (c : Nat) (fs : List (Str × D))
  | cls (c : Nat)

/-- where the classes stand; the exception that is handled (where it stands, its class, its dict) -/
structure Cn where
  ct : Nat → Addr
  xa : Option (Addr × Nat × Option Addr)
structure Gm where
  K : PySem.W.Frag
  cn : Cn
abbrev Gm.ct (Γ : Gm) : Nat → Addr := Γ.cn.ct
abbrev Gm.xa (Γ : Gm) : Option (Addr × Nat × Option Addr) := Γ.cn.xa

/-- a key's text is a text -/
def kOk : Key → Bool
  | .inl _ => true
  | .inr x => PyData.strOk x
def ksOk (ds : List (Key × D)) : Bool := ds.all fun kd => kOk kd.1
def ktOk (ds : List (List Key × D)) : Bool := ds.all fun kd => kd.1.all kOk
/-- a tuple of the module -/
def KT (K : PySem.W.Frag) (a : Addr) (xs : List V) : Prop := ∃ (o : Obj) (its : Array Value) (n : Nat), K.lookup a = some o ∧ o.cls = .type "tuple" ∧ o.data = .seq its n ∧ its.size ≤ sizeLine ∧ Vals xs its.toList
/-- the script: a list that is read alone -/
def Scr (K : PySem.W.Frag) (H : Hp) (a : Addr) (ns : List Int) : Prop := (∃ o, H a = some (.frz o (.lst (ns.map V.int)))) ∨
  ∃ (o : Obj) (its : Array Value) (n : Nat), K.lookup a = some o ∧ o.cls = .type "list" ∧ o.dict = none ∧ o.data = .seq its n ∧ its.size ≤ sizeLine ∧ Vals (ns.map V.int) its.toList
theorem Scr.sq {K : PySem.W.Frag} {H : Hp} {a : Addr} {ns : List Int} (h : Scr K H a ns) : SqL K H a (ns.map V.int) := by
  rcases h with ⟨o, h⟩ | h
  · exact .inl (.inr ⟨o, h⟩)
  · exact .inr h
mutual
inductive Rep (Γ : Gm) (O : Addr → Prop) (H : Hp) : V → D → Prop
  | non : Rep Γ O H .non .non
  | bl (b : Bool) : Rep Γ O H (.bl b) (.bl b)
  | int (i : Int) : Rep Γ O H (.int i) (.int i)
  | str (x : Str) : PyData.strOk x = true → Rep Γ O H (.str x) (.str x)
  | ty (n : String) : Rep Γ O H (.ty n) (.ty n)
  | tup {a : Addr} {vs : List V} {ds : List D} : H a = some (.tup vs) → Reps Γ O H vs ds → Rep Γ O H (.ref a) (.tup ds)
  | ktup {a : Addr} {vs : List V} {ds : List D} : KT Γ.K a vs → Reps Γ O H vs ds → Rep Γ O H (.ref a) (.ktup ds)
  | scr {a : Addr} {ns : List Int} : Scr Γ.K H a ns → Rep Γ O H (.ref a) (.scr ns)
  | lst {a : Addr} {vs : List V} {ds : List D} : H a = some (.lst vs) → ¬ O a → Reps Γ O H vs ds → Rep Γ O H (.ref a) (.lst ds)
  | dK {a : Addr} {kvs : List (Key × V)} {ds : List (Key × D)} : H a = some (.dK kvs) → ¬ O a → kvs.map (·.1) = ds.map (·.1) ∧ ksOk ds = true → Reps Γ O H (kvs.map (·.2)) (ds.map (·.2)) → Rep Γ O H (.ref a) (.dK ds)
  | dT {a : Addr} {kvs : List (List Key × V)} {ds : List (List Key × D)} : H a = some (.dT kvs) → ¬ O a → kvs.map (·.1) = ds.map (·.1) ∧ ktOk ds = true → Reps Γ O H (kvs.map (·.2)) (ds.map (·.2)) → Rep Γ O H (.ref a) (.dT ds)
  | obj {a dx : Addr} {fs : List (Str × V)} {c : Nat} {ds : List (Str × D)} : H a = some (.ins (Γ.ct c) dx fs) → ¬ O a → fs.map (·.1) = ds.map (·.1) → Reps Γ O H (fs.map (·.2)) (ds.map (·.2)) → Rep Γ O H (.ref a) (.obj c ds)
  | cls (c : Nat) : Rep Γ O H (.ref (Γ.ct c)) (.cls c)
  | exn {a : Addr} {c : Nat} : Γ.xa = some (a, c, none) → Rep Γ O H (.ref a) (.exc c [])
  | exd {a dx : Addr} {c : Nat} {vs : List (Str × V)} {fs : List (Str × D)} : Γ.xa = some (a, c, some dx) → H dx = some (.xd vs) → vs.map (·.1) = fs.map (·.1) → Reps Γ O H (vs.map (·.2)) (fs.map (·.2)) → Rep Γ O H (.ref a) (.exc c fs)
inductive Reps (Γ : Gm) (O : Addr → Prop) (H : Hp) : List V → List D → Prop
  | nil : Reps Γ O H [] []
  | cons {v : V} {vs : List V} {d : D} {ds : List D} : Rep Γ O H v d → Reps Γ O H vs ds → Reps Γ O H (v :: vs) (d :: ds)
end

/-- what may be carried over: O' within O on what stands, the objects outside O stay -/
structure Ov (O O' : Addr → Prop) (H H' : Hp) : Prop where
  sub : ∀ a o, H a = some o → O' a → O a
  mu : ∀ a, O a → Mut (H a)
  keep : ∀ a o, H a = some o → ¬ O a → H' a = some o
theorem Ov.not {O O' : Addr → Prop} {H H' : Hp} {a : Addr} {u : HO} (e : Ov O O' H H') (h : H a = some u) (n : ¬ O a) : ¬ O' a := fun z => n (e.sub a _ h z)
theorem Ov.scr {O O' : Addr → Prop} {H H' : Hp} {K : PySem.W.Frag} {a : Addr} {ns : List Int} (e : Ov O O' H H') (h : Scr K H a ns) : Scr K H' a ns := by
  rcases h with ⟨o, h⟩ | h
  · refine .inl ⟨o, e.keep a _ h fun z => ?_⟩
    have := e.mu a z
    rw [h] at this
    exact this
  · exact .inr h
theorem Ov.tup {O O' : Addr → Prop} {H H' : Hp} {a : Addr} {vs : List V} (e : Ov O O' H H') (h : H a = some (.tup vs)) : H' a = some (.tup vs) := by
  refine e.keep a _ h fun z => ?_
  have := e.mu a z
  rw [h] at this
  exact this
theorem Ov.xd {O O' : Addr → Prop} {H H' : Hp} {a : Addr} {vs : List (Str × V)} (e : Ov O O' H H') (h : H a = some (.xd vs)) : H' a = some (.xd vs) := by
  refine e.keep a _ h fun z => ?_
  have := e.mu a z
  rw [h] at this
  exact this
mutual
theorem Rep.to {Γ : Gm} {O O' : Addr → Prop} {H H' : Hp} (e : Ov O O' H H') : ∀ {v : V} {d : D}, Rep Γ O H v d → Rep Γ O' H' v d
  | _, _, .non => .non
  | _, _, .bl b => .bl b
  | _, _, .int i => .int i
  | _, _, .str x h => .str x h
  | _, _, .ty x => .ty x
  | _, _, .tup h r => .tup (e.tup h) (Reps.to e r)
  | _, _, .ktup h r => .ktup h (Reps.to e r)
  | _, _, .scr h => .scr (e.scr h)
  | _, _, .lst h n r => .lst (e.keep _ _ h n) (e.not h n) (Reps.to e r)
  | _, _, .dK h n k r => .dK (e.keep _ _ h n) (e.not h n) k (Reps.to e r)
  | _, _, .dT h n k r => .dT (e.keep _ _ h n) (e.not h n) k (Reps.to e r)
  | _, _, .obj h n k r => .obj (e.keep _ _ h n) (fun z => n (e.sub _ _ h z)) k (Reps.to e r)
  | _, _, .cls c => .cls c
  | _, _, .exn h => .exn h
  | _, _, .exd x h k r => .exd x (e.xd h) k (Reps.to e r)
theorem Reps.to {Γ : Gm} {O O' : Addr → Prop} {H H' : Hp} (e : Ov O O' H H') : ∀ {vs : List V} {ds : List D}, Reps Γ O H vs ds → Reps Γ O' H' vs ds
  | _, _, .nil => .nil
  | _, _, .cons h r => .cons (Rep.to e h) (Reps.to e r)
end

/-- a root that nobody else refers to: its children avoid all such roots -/
inductive Own (Γ : Gm) (O : Addr → Prop) (H : Hp) : V → D → Prop
  | lst {a : Addr} {vs : List V} {ds : List D} : H a = some (.lst vs) → O a → Reps Γ O H vs ds → Own Γ O H (.ref a) (.lst ds)
  | dK {a : Addr} {kvs : List (Key × V)} {ds : List (Key × D)} : H a = some (.dK kvs) → O a → kvs.map (·.1) = ds.map (·.1) ∧ ksOk ds = true → Reps Γ O H (kvs.map (·.2)) (ds.map (·.2)) → Own Γ O H (.ref a) (.dK ds)
  | dT {a : Addr} {kvs : List (List Key × V)} {ds : List (List Key × D)} : H a = some (.dT kvs) → O a → kvs.map (·.1) = ds.map (·.1) ∧ ktOk ds = true → Reps Γ O H (kvs.map (·.2)) (ds.map (·.2)) → Own Γ O H (.ref a) (.dT ds)
  | obj {a dx : Addr} {fs : List (Str × V)} {c : Nat} {ds : List (Str × D)} : H a = some (.ins (Γ.ct c) dx fs) → O a → fs.map (·.1) = ds.map (·.1) → Reps Γ O H (fs.map (·.2)) (ds.map (·.2)) → Own Γ O H (.ref a) (.obj c ds)
/-- a value that is looked at: its root may be owned -/
inductive Bor (Γ : Gm) (O : Addr → Prop) (H : Hp) : V → D → Prop
  | rep {v : V} {d : D} : Rep Γ O H v d → Bor Γ O H v d
  | own {v : V} {d : D} : Own Γ O H v d → Bor Γ O H v d
inductive Bors (Γ : Gm) (O : Addr → Prop) (H : Hp) : List V → List D → Prop
  | nil : Bors Γ O H [] []
  | cons {v : V} {vs : List V} {d : D} {ds : List D} : Bor Γ O H v d → Bors Γ O H vs ds → Bors Γ O H (v :: vs) (d :: ds)

/-- an owned root let go -/
theorem Own.rep {Γ : Gm} {O O' : Addr → Prop} {H : Hp} {a : Addr} {d : D} (h : Own Γ O H (.ref a) d) (e : Ov O O' H H) (n : ¬ O' a) : Rep Γ O' H (.ref a) d := by
  cases h with
  | lst h o r => exact .lst h n (r.to e)
  | dK h o k r => exact .dK h n k (r.to e)
  | dT h o k r => exact .dT h n k (r.to e)
  | obj h o k r => exact .obj h n k (r.to e)
/-- an owned root carried over: its own object stays too -/
theorem Own.to {Γ : Gm} {O O' : Addr → Prop} {H H' : Hp} {a : Addr} {d : D} (h : Own Γ O H (.ref a) d) (e : Ov O O' H H') (n : O' a) (k : ∀ o, H a = some o → H' a = some o) : Own Γ O' H' (.ref a) d := by
  cases h with
  | lst h o r => exact .lst (k _ h) n (r.to e)
  | dK h o q r => exact .dK (k _ h) n q (r.to e)
  | dT h o q r => exact .dT (k _ h) n q (r.to e)
  | obj h o q r => exact .obj (k _ h) n q (r.to e)
theorem Own.ref {Γ : Gm} {O : Addr → Prop} {H : Hp} {v : V} {d : D} (h : Own Γ O H v d) : ∃ a, v = .ref a ∧ O a ∧ ∃ o, H a = some o := by
  cases h with
  | lst h o r => exact ⟨_, rfl, o, _, h⟩
  | dK h o q r => exact ⟨_, rfl, o, _, h⟩
  | dT h o q r => exact ⟨_, rfl, o, _, h⟩
  | obj h o q r => exact ⟨_, rfl, o, _, h⟩

/-! ### slots -/
abbrev Slot := D × Bool
abbrev Sl := List (Option Slot)
def roots (σ : St) (ρ : Sl) (a : Addr) : Prop := ∃ (i : Nat) (d : D), ρ[i]? = some (some (d, true)) ∧ σ[i]? = some (some (V.ref a))
def OA (Z : Addr → Prop) (σ : St) (ρ : Sl) (a : Addr) : Prop := Z a ∨ roots σ ρ a
def Zadd (Z : Addr → Prop) (p : Addr) : Addr → Prop := fun b => Z b ∨ b = p
structure FR (Γ : Gm) (Z : Addr → Prop) (σ : St) (ρ : Sl) (H : Hp) : Prop where
  len : σ.length = ρ.length
  mu : ∀ a, OA Z σ ρ a → Mut (H a)
  sh : ∀ (i : Nat) d, ρ[i]? = some (some (d, false)) → ∃ v, σ[i]? = some (some v) ∧ Rep Γ (OA Z σ ρ) H v d
  ow : ∀ (i : Nat) d, ρ[i]? = some (some (d, true)) → ∃ v, σ[i]? = some (some v) ∧ Own Γ (OA Z σ ρ) H v d
  inj : ∀ (i j : Nat) d e a, ρ[i]? = some (some (d, true)) → ρ[j]? = some (some (e, true)) → σ[i]? = some (some (V.ref a)) → σ[j]? = some (some (V.ref a)) → i = j
  dis : ∀ a, Z a → ¬ roots σ ρ a
structure Step (σ : St) (ρ : Sl) (H : Hp) (σ' : St) (ρ' : Sl) (H' : Hp) : Prop where
  keep : ∀ a o, H a = some o → ¬ roots σ ρ a → H' a = some o
  dom : ∀ a o, H a = some o → ∃ o', H' a = some o'
  new : ∀ a, roots σ' ρ' a → roots σ ρ a ∨ H a = none
theorem Step.refl {σ : St} {ρ : Sl} {H : Hp} : Step σ ρ H σ ρ H := ⟨fun _ _ h _ => h, fun _ _ h => ⟨_, h⟩, fun _ h => .inl h⟩
theorem Step.free {σ σ' : St} {ρ ρ' : Sl} {H H' : Hp} (s : Step σ ρ H σ' ρ' H') {a : Addr} (h : H' a = none) : H a = none := by
  cases e : H a with
  | none => rfl
  | some o => obtain ⟨o', e'⟩ := s.dom a o e; rw [h] at e'; cases e'
theorem Step.trans {σ σ' σ2 : St} {ρ ρ' ρ2 : Sl} {H H' H2 : Hp} (s : Step σ ρ H σ' ρ' H') (t : Step σ' ρ' H' σ2 ρ2 H2) : Step σ ρ H σ2 ρ2 H2 where
  keep := fun a o h n => t.keep a o (s.keep a o h n) fun z => by
    rcases s.new a z with q | q
    · exact n q
    · rw [h] at q; cases q
  dom := fun a o h => by
    obtain ⟨o', h'⟩ := s.dom a o h
    exact t.dom a o' h'
  new := fun a z => by
    rcases t.new a z with q | q
    · exact s.new a q
    · exact .inr (s.free q)
section
variable {Γ : Gm} {Z Z' : Addr → Prop} {σ σ' : St} {ρ ρ' : Sl} {H H' : Hp}
/-- what is not owned is carried over a step -/
theorem Step.ov (s : Step σ ρ H σ' ρ' H') (f : FR Γ Z σ ρ H) : Ov (OA Z σ ρ) (OA Z σ' ρ') H H' where
  sub := fun a o h z => by
    rcases z with z | z
    · exact .inl z
    · rcases s.new a z with q | q
      · exact .inr q
      · rw [h] at q; cases q
  mu := f.mu
  keep := fun a o h n => s.keep a o h fun z => n (.inr z)
theorem Step.rep (s : Step σ ρ H σ' ρ' H') (f : FR Γ Z σ ρ H) {v : V} {d : D} (h : Rep Γ (OA Z σ ρ) H v d) : Rep Γ (OA Z σ' ρ') H' v d := h.to (s.ov f)
theorem FR.get (f : FR Γ Z σ ρ H) {i : Nat} {s : Slot} (h : ρ[i]? = some (some s)) : ∃ v, σ[i]? = some (some v) ∧ Bor Γ (OA Z σ ρ) H v s.1 := by
  obtain ⟨d, b⟩ := s
  cases b with
  | false => obtain ⟨v, e, r⟩ := f.sh i d h; exact ⟨v, e, .rep r⟩
  | true => obtain ⟨v, e, r⟩ := f.ow i d h; exact ⟨v, e, .own r⟩
theorem FR.nfresh (f : FR Γ Z σ ρ H) {a : Addr} (h : H a = none) : ¬ OA Z σ ρ a := fun z => by
  have := f.mu a z
  rw [h] at this
  exact this
/-- the heap has grown -/
structure Ext (H H' : Hp) : Prop where
  ex : ∀ a o, H a = some o → H' a = some o
theorem Ext.refl (H : Hp) : Ext H H := ⟨fun _ _ h => h⟩
theorem Ext.trans {H H1 H2 : Hp} (a : Ext H H1) (b : Ext H1 H2) : Ext H H2 := ⟨fun x o h => b.ex x o (a.ex x o h)⟩
theorem Ext.new {H : Hp} {p : Addr} {o : HO} (h : H p = none) : Ext H (upd H p o) := ⟨fun a u e => by rw [upd_ne (ne_of_none e h)]; exact e⟩
theorem Ext.step (e : Ext H H') : Step σ ρ H σ ρ H' := ⟨fun a o h _ => e.ex a o h, fun a o h => ⟨o, e.ex a o h⟩, fun a z => .inl z⟩
theorem Ext.ov {O : Addr → Prop} (e : Ext H H') (m : ∀ a, O a → Mut (H a)) : Ov O O H H' := ⟨fun _ _ _ z => z, m, fun a o h _ => e.ex a o h⟩
theorem FR.ext (f : FR Γ Z σ ρ H) (e : Ext H H') : FR Γ Z σ ρ H' where
  len := f.len
  mu := fun a z => by
    have := f.mu a z
    cases q : H a with
    | none => rw [q] at this; exact this.elim
    | some o => rw [e.ex a o q]; rw [q] at this; exact this
  sh := fun i d h => by
    obtain ⟨v, e1, r⟩ := f.sh i d h
    exact ⟨v, e1, r.to (e.ov f.mu)⟩
  ow := fun i d h => by
    obtain ⟨v, e1, r⟩ := f.ow i d h
    obtain ⟨a, rfl, o, _⟩ := r.ref
    exact ⟨_, e1, r.to (e.ov f.mu) o fun u q => e.ex a u q⟩
  inj := f.inj
  dis := f.dis
/-- a new root joins Z -/
theorem OA.zadd {p a : Addr} : OA (Zadd Z p) σ ρ a ↔ OA Z σ ρ a ∨ a = p := by
  unfold OA Zadd
  constructor
  · rintro ((h | h) | h)
    · exact .inl (.inl h)
    · exact .inr h
    · exact .inl (.inr h)
  · rintro ((h | h) | h)
    · exact .inl (.inl h)
    · exact .inr h
    · exact .inl (.inr h)
theorem FR.zadd (f : FR Γ Z σ ρ H) {p : Addr} (e : Ext H H') (hp : H p = none) (mp : Mut (H' p)) : FR Γ (Zadd Z p) σ ρ H' := by
  have ov : Ov (OA Z σ ρ) (OA (Zadd Z p) σ ρ) H H' := ⟨fun a o h z => by
    rcases OA.zadd.mp z with z | z
    · exact z
    · rw [z, hp] at h; exact (nomatch h), f.mu, fun a o h _ => e.ex a o h⟩
  have f' := f.ext e
  refine ⟨f.len, fun a z => ?_, fun i d h => ?_, fun i d h => ?_, f.inj, fun a z r => ?_⟩
  · rcases OA.zadd.mp z with z | z
    · exact f'.mu a z
    · rw [z]; exact mp
  · obtain ⟨v, e1, r⟩ := f.sh i d h
    exact ⟨v, e1, r.to ov⟩
  · obtain ⟨v, e1, r⟩ := f.ow i d h
    obtain ⟨a, rfl, o, _⟩ := r.ref
    exact ⟨_, e1, r.to ov (OA.zadd.mpr (.inl o)) fun u q => e.ex a u q⟩
  · rcases z with z | z
    · exact f.dis a z r
    · subst z
      exact f.nfresh hp (.inr r)
/-- a root leaves Z -/
theorem FR.zdrop (f : FR Γ Z σ ρ H) (s : ∀ a, Z' a → Z a) : FR Γ Z' σ ρ H := by
  have ov : Ov (OA Z σ ρ) (OA Z' σ ρ) H H := ⟨fun a o h z => z.imp (s a) id, f.mu, fun _ _ h _ => h⟩
  refine ⟨f.len, fun a z => f.mu a (z.imp (s a) id), fun i d h => ?_, fun i d h => ?_, f.inj, fun a z => f.dis a (s a z)⟩
  · obtain ⟨v, e1, r⟩ := f.sh i d h
    exact ⟨v, e1, r.to ov⟩
  · obtain ⟨v, e1, r⟩ := f.ow i d h
    obtain ⟨a, rfl, o, _⟩ := r.ref
    exact ⟨_, e1, r.to ov (.inr ⟨i, d, h, e1⟩) fun u q => q⟩
end
end VS

namespace VS
open PySem L2

/-! ### results -/
inductive Res (α : Type) where
  | ok (a : α) (ρ : Sl)
  | exc (c : Nat) (fs : List (Str × D)) (ρ : Sl)
  | stuck
def Res.bind {α β : Type} (x : Res α) (f : α → Sl → Res β) : Res β := match x with
  | .ok a ρ => f a ρ
  | .exc c fs ρ => .exc c fs ρ
  | .stuck => .stuck
@[simp] theorem Res.bind_ok {α β : Type} (a : α) (ρ : Sl) (f : α → Sl → Res β) : (Res.ok a ρ).bind f = f a ρ := rfl
@[simp] theorem Res.bind_exc {α β : Type} (c : Nat) (fs : List (Str × D)) (ρ : Sl) (f : α → Sl → Res β) : (Res.exc c fs ρ : Res α).bind f = .exc c fs ρ := rfl
@[simp] theorem Res.bind_stuck {α β : Type} (f : α → Sl → Res β) : (Res.stuck : Res α).bind f = .stuck := rfl
abbrev CExp := Sl → Res Slot
abbrev CTst := Sl → Res Bool
inductive Out where
  | nx | bk | ct
  | rt (s : Slot)
abbrev CStm := Sl → Res Out

def XRep (Γ : Gm) (O : Addr → Prop) (H : Hp) (d : Option Addr) (fs : List (Str × D)) : Prop := match d with
  | some dx => ∃ vs : List (Str × V), H dx = some (.xd vs) ∧ vs.map (·.1) = fs.map (·.1) ∧ Reps Γ O H (vs.map (·.2)) (fs.map (·.2))
  | none => fs = []
def Fx (fx : List Nat) (σ σ' : St) : Prop := ∀ i ∈ fx, σ'[i]? = σ[i]?
theorem Fx.refl {fx : List Nat} {σ : St} : Fx fx σ σ := fun _ _ => rfl
theorem Fx.trans {fx : List Nat} {σ σ' σ2 : St} (a : Fx fx σ σ') (b : Fx fx σ' σ2) : Fx fx σ σ2 := fun i h => (b i h).trans (a i h)

section
variable (Γ : Gm) (Z : Addr → Prop) (σ : St) (ρ : Sl) (H : Hp)
def PostX (c : Nat) (fs : List (Str × D)) (ρ' : Sl) (W : WX) : Prop := ∀ d H', FR Γ Z σ ρ' H' → Step σ ρ H σ ρ' H' → XRep Γ (OA Z σ ρ') H' d fs → W (.ref (Γ.ct c)) d σ H'
def PostV (s : Slot) (ρ' : Sl) (Q : VK) : Prop := match s with
  | (d, false) => ∀ v H', FR Γ Z σ ρ' H' → Step σ ρ H σ ρ' H' → Rep Γ (OA Z σ ρ') H' v d → Q v H'
  | (d, true) => ∀ a H', FR Γ (Zadd Z a) σ ρ' H' → Step σ ρ H σ ρ' H' → ¬ Z a → (H a = none ∨ roots σ ρ a) → Own Γ (OA (Zadd Z a) σ ρ') H' (.ref a) d → Q (.ref a) H'
def EndV (r : Res Slot) (W : WX) (Q : VK) : Prop := match r with
  | .ok s ρ' => PostV Γ Z σ ρ H s ρ' Q
  | .exc c fs ρ' => PostX Γ Z σ ρ H c fs ρ' W
  | .stuck => False
def EndD (r : Res Slot) (W : WX) (Q : VK) : Prop := match r with
  | .ok s ρ' => ∀ v H', FR Γ Z σ ρ' H' → Step σ ρ H σ ρ' H' → Rep Γ (OA Z σ ρ') H' v s.1 → Q v H'
  | .exc c fs ρ' => PostX Γ Z σ ρ H c fs ρ' W
  | .stuck => False
def EndB (r : Res Bool) (W : WX) (Q : Bool → Hp → Prop) : Prop := match r with
  | .ok b ρ' => ∀ H', FR Γ Z σ ρ' H' → Step σ ρ H σ ρ' H' → Q b H'
  | .exc c fs ρ' => PostX Γ Z σ ρ H c fs ρ' W
  | .stuck => False
def EndS (fx : List Nat) (r : Res Out) (W : WX) (E : Ends) : Prop := match r with
  | .ok .nx ρ' => ∀ σ' H', FR Γ Z σ' ρ' H' → Step σ ρ H σ' ρ' H' → Fx fx σ σ' → E.nx σ' H'
  | .ok .bk ρ' => ∀ σ' H', FR Γ Z σ' ρ' H' → Step σ ρ H σ' ρ' H' → Fx fx σ σ' → E.bk σ' H'
  | .ok .ct ρ' => ∀ σ' H', FR Γ Z σ' ρ' H' → Step σ ρ H σ' ρ' H' → Fx fx σ σ' → E.ct σ' H'
  | .ok (.rt (d, false)) ρ' => ∀ v σ' H', FR Γ Z σ' ρ' H' → Step σ ρ H σ' ρ' H' → Fx fx σ σ' → Rep Γ (OA Z σ' ρ') H' v d → E.rt v H'
  | .ok (.rt (d, true)) ρ' => ∀ a σ' H', FR Γ (Zadd Z a) σ' ρ' H' → Step σ ρ H σ' ρ' H' → Fx fx σ σ' → ¬ Z a → (H a = none ∨ roots σ ρ a) → Own Γ (OA (Zadd Z a) σ' ρ') H' (.ref a) d → E.rt (.ref a) H'
  | .exc c fs ρ' => ∀ d σ' H', FR Γ Z σ' ρ' H' → Step σ ρ H σ' ρ' H' → Fx fx σ σ' → XRep Γ (OA Z σ' ρ') H' d fs → W (.ref (Γ.ct c)) d σ' H'
  | .stuck => False
end
def SE (Γ : Gm) (W : WX) (t : TE) (m : CExp) : Prop := ∀ Z σ ρ H Q, FR Γ Z σ ρ H → EndV Γ Z σ ρ H (m ρ) W Q → t σ H Q
def ST (Γ : Gm) (W : WX) (t : TT) (m : CTst) : Prop := ∀ Z σ ρ H Q, FR Γ Z σ ρ H → EndB Γ Z σ ρ H (m ρ) W Q → t σ H Q
def SS (Γ : Gm) (fx : List Nat) (W : WX) (t : TS) (m : CStm) : Prop := ∀ Z σ ρ H E, FR Γ Z σ ρ H → EndS Γ Z σ ρ H fx (m ρ) W E → t E σ H

section
variable {Γ : Gm} {W : WX} {Z : Addr → Prop} {σ σ1 : St} {ρ ρ1 ρ' : Sl} {H H1 : Hp} {t u : TE} {m m' : CExp} {fx : List Nat}
/-- the state of an exception, carried over a step -/
theorem Step.root (s : Step σ ρ H σ1 ρ1 H1) {a : Addr} (h : H1 a = none ∨ roots σ1 ρ1 a) : H a = none ∨ roots σ ρ a := by
  rcases h with h | h
  · exact .inl (s.free h)
  · exact (s.new a h).symm
theorem PostX.on {c : Nat} {fs : List (Str × D)} (s : Step σ ρ H σ ρ1 H1) (p : PostX Γ Z σ ρ H c fs ρ' W) : PostX Γ Z σ ρ1 H1 c fs ρ' W := fun d H' f t x => p d H' f (s.trans t) x
theorem PostV.on {sl : Slot} {Q : VK} (s : Step σ ρ H σ ρ1 H1) (p : PostV Γ Z σ ρ H sl ρ' Q) : PostV Γ Z σ ρ1 H1 sl ρ' Q := by
  obtain ⟨d, b⟩ := sl
  cases b with
  | false => exact fun v H' f t x => p v H' f (s.trans t) x
  | true => exact fun a H' f t n q x => p a H' f (s.trans t) n (s.root q) x
theorem EndV.on {r : Res Slot} {Q : VK} (s : Step σ ρ H σ ρ1 H1) (p : EndV Γ Z σ ρ H r W Q) : EndV Γ Z σ ρ1 H1 r W Q := by
  cases r with
  | ok sl ρ' => exact PostV.on s p
  | exc c fs ρ' => exact PostX.on s p
  | stuck => exact p
theorem EndD.on {r : Res Slot} {Q : VK} (s : Step σ ρ H σ ρ1 H1) (p : EndD Γ Z σ ρ H r W Q) : EndD Γ Z σ ρ1 H1 r W Q := by
  cases r with
  | ok sl ρ' => exact fun v H' f t x => p v H' f (s.trans t) x
  | exc c fs ρ' => exact PostX.on s p
  | stuck => exact p
theorem EndB.on {r : Res Bool} {Q : Bool → Hp → Prop} (s : Step σ ρ H σ ρ1 H1) (p : EndB Γ Z σ ρ H r W Q) : EndB Γ Z σ ρ1 H1 r W Q := by
  cases r with
  | ok sl ρ' => exact fun H' f t => p H' f (s.trans t)
  | exc c fs ρ' => exact PostX.on s p
  | stuck => exact p
theorem EndS.on {r : Res Out} {E : Ends} (s : Step σ ρ H σ1 ρ1 H1) (g : Fx fx σ σ1) (p : EndS Γ Z σ ρ H fx r W E) : EndS Γ Z σ1 ρ1 H1 fx r W E := by
  cases r with
  | ok o ρ' =>
    cases o with
    | nx => exact fun σ' H' f t x => p σ' H' f (s.trans t) (g.trans x)
    | bk => exact fun σ' H' f t x => p σ' H' f (s.trans t) (g.trans x)
    | ct => exact fun σ' H' f t x => p σ' H' f (s.trans t) (g.trans x)
    | rt sl =>
      obtain ⟨d, b⟩ := sl
      cases b with
      | false => exact fun v σ' H' f t x r => p v σ' H' f (s.trans t) (g.trans x) r
      | true => exact fun a σ' H' f t x n q r => p a σ' H' f (s.trans t) (g.trans x) n (s.root q) r
  | exc c fs ρ' => exact fun d σ' H' f t x r => p d σ' H' f (s.trans t) (g.trans x) r
  | stuck => exact p
/-- only the value is wanted -/
theorem SE.val {Q : VK} (h : SE Γ W t m) (f : FR Γ Z σ ρ H) (k : EndD Γ Z σ ρ H (m ρ) W Q) : t σ H Q := by
  refine h Z σ ρ H Q f ?_
  revert k
  cases m ρ with
  | ok sl ρ' =>
    obtain ⟨d, b⟩ := sl
    cases b with
    | false => exact fun k => k
    | true =>
      intro k a H' f' s n q o
      have f2 : FR Γ Z σ ρ' H' := f'.zdrop fun _ z => .inl z
      refine k (.ref a) H' f2 s (o.rep ⟨fun b u _ z => ?_, f'.mu, fun _ _ h _ => h⟩ fun z => ?_)
      · exact OA.zadd.mpr (.inl z)
      · rcases z with z | z
        · exact n z
        · exact f'.dis a (.inr rfl) z
  | exc c fs ρ' => exact fun k => k
  | stuck => exact fun k => k

/-! ### operands: a name is looked at when all are there -/
inductive Opd where
  | v (i : Nat)
  | e (m : CExp)
def SO (Γ : Gm) (W : WX) (t : TE) : Opd → Prop
  | .v i => t = tVar i
  | .e m => SE Γ W t m
inductive SA (Γ : Gm) (W : WX) : TA → List Opd → Prop
  | nil : SA Γ W tNil []
  | cons {te : TE} {ta : TA} {o : Opd} {os : List Opd} : SO Γ W te o → SA Γ W ta os → SA Γ W (tCons te ta) (o :: os)
def evO : List Opd → Sl → Res (List (Option D))
  | [], ρ => .ok [] ρ
  | .v i :: os, ρ => match ρ[i]? with
    | some (some _) => (evO os ρ).bind fun xs ρ' => .ok (none :: xs) ρ'
    | _ => .stuck
  | .e m :: os, ρ => (m ρ).bind fun s ρ1 => (evO os ρ1).bind fun xs ρ2 => .ok (some s.1 :: xs) ρ2
inductive OR (Γ : Gm) (Z : Addr → Prop) (σ : St) (ρ : Sl) (H : Hp) : List Opd → List (Option D) → List V → Prop
  | nil : OR Γ Z σ ρ H [] [] []
  | v {i : Nat} {v : V} {os : List Opd} {xs : List (Option D)} {vs : List V} : σ[i]? = some (some v) → OR Γ Z σ ρ H os xs vs → OR Γ Z σ ρ H (.v i :: os) (none :: xs) (v :: vs)
  | e {m : CExp} {d : D} {v : V} {os : List Opd} {xs : List (Option D)} {vs : List V} : Rep Γ (OA Z σ ρ) H v d → OR Γ Z σ ρ H os xs vs → OR Γ Z σ ρ H (.e m :: os) (some d :: xs) (v :: vs)
def EndA (Γ : Gm) (Z : Addr → Prop) (σ : St) (ρ : Sl) (H : Hp) (os : List Opd) (r : Res (List (Option D))) (W : WX) (Q : List V → Hp → Prop) : Prop := match r with
  | .ok xs ρ' => ∀ vs H', FR Γ Z σ ρ' H' → Step σ ρ H σ ρ' H' → OR Γ Z σ ρ' H' os xs vs → Q vs H'
  | .exc c fs ρ' => PostX Γ Z σ ρ H c fs ρ' W
  | .stuck => False
theorem SA.run {ta : TA} {os : List Opd} (h : SA Γ W ta os) : ∀ {Z σ ρ H} {Q : List V → Hp → Prop}, FR Γ Z σ ρ H → EndA Γ Z σ ρ H os (evO os ρ) W Q → ta σ H Q := by
  induction h with
  | nil => exact fun f k => k _ _ f Step.refl .nil
  | @cons te ta o os ho ha ih =>
    intro Z σ ρ H Q f k
    cases o with
    | v i =>
      have e : te = tVar i := ho
      subst e
      unfold evO at k
      cases q : ρ[i]? with
      | none => rw [q] at k; exact k.elim
      | some w =>
        cases w with
        | none => rw [q] at k; exact k.elim
        | some sl =>
          rw [q] at k
          obtain ⟨v, hv, _⟩ := f.get q
          refine ⟨v, hv, ih f ?_⟩
          simp only at k
          revert k
          cases evO os ρ with
          | ok xs ρ' => exact fun k vs H' f' s r => k (v :: vs) H' f' s (.v hv r)
          | exc c fs ρ' => exact fun k => k
          | stuck => exact fun k => k
    | e m =>
      have hm : SE Γ W te m := ho
      refine hm.val f ?_
      unfold evO at k
      revert k
      cases m ρ with
      | ok sl ρ1 =>
        intro k v H1 f1 s1 r1
        refine ih f1 ?_
        simp only [Res.bind_ok] at k
        revert k
        cases evO os ρ1 with
        | ok xs ρ' => exact fun k vs H' f' s r => k (v :: vs) H' f' (s1.trans s) (.e (s.rep f1 r1) r)
        | exc c fs ρ' => exact fun k => PostX.on s1 k
        | stuck => exact fun k => k
      | exc c fs ρ1 => exact fun k => k
      | stuck => exact fun k => k
def late : List Opd → List (Option D) → Sl → Option (List D)
  | [], [], _ => some []
  | .v i :: os, none :: xs, ρ => match ρ[i]?, late os xs ρ with
    | some (some s), some ds => some (s.1 :: ds)
    | _, _ => none
  | .e _ :: os, some d :: xs, ρ => match late os xs ρ with
    | some ds => some (d :: ds)
    | none => none
  | _, _, _ => none
theorem OR.late (f : FR Γ Z σ ρ H) {os : List Opd} {xs : List (Option D)} {vs : List V} (h : OR Γ Z σ ρ H os xs vs) : ∀ {ds : List D}, VS.late os xs ρ = some ds → Bors Γ (OA Z σ ρ) H vs ds := by
  induction h with
  | nil => intro ds e; cases e; exact .nil
  | @v i v os xs vs hv _ ih =>
    intro ds e
    unfold VS.late at e
    cases q : ρ[i]? with
    | none => rw [q] at e; cases e
    | some w =>
      cases w with
      | none => rw [q] at e; cases e
      | some sl =>
        rw [q] at e
        cases q2 : VS.late os xs ρ with
        | none => rw [q2] at e; cases e
        | some ds' =>
          rw [q2] at e
          cases e
          obtain ⟨v', hv', b⟩ := f.get q
          rw [hv] at hv'
          cases hv'
          exact .cons b (ih q2)
  | @e m d v os xs vs hr _ ih =>
    intro ds e
    unfold VS.late at e
    cases q2 : VS.late os xs ρ with
    | none => rw [q2] at e; cases e
    | some ds' =>
      rw [q2] at e
      cases e
      exact .cons (.rep hr) (ih q2)

/-! ### primitive operations -/
def PEnd (Γ : Gm) (O : Addr → Prop) (H : Hp) (s : Slot) (Q : VK) : Prop := match s with
  | (d, false) => ∀ v H', Ext H H' → Rep Γ O H' v d → Q v H'
  | (d, true) => ∀ p H', H p = none → Ext H H' → Own Γ (fun b => O b ∨ b = p) H' (.ref p) d → Q (.ref p) H'
def PrimR (Γ : Gm) (r : List V → Hp → VK → Prop) (f : List D → Option Slot) : Prop :=
  ∀ O H vs ds s Q, (∀ a, O a → Mut (H a)) → Bors Γ O H vs ds → f ds = some s → PEnd Γ O H s Q → r vs H Q
def fin (f : List D → Option Slot) (os : List Opd) (xs : List (Option D)) (ρ : Sl) : Res Slot := match late os xs ρ with
  | some ds => match f ds with
    | some s => .ok s ρ
    | none => .stuck
  | none => .stuck
def cPrim (f : List D → Option Slot) (os : List Opd) : CExp := fun ρ => (evO os ρ).bind fun xs ρ' => fin f os xs ρ'
theorem Own.mut {O : Addr → Prop} {a : Addr} {d : D} (o : Own Γ O H (.ref a) d) : Mut (H a) := by
  cases o with
  | lst h _ _ => rw [h]; trivial
  | dK h _ _ _ => rw [h]; trivial
  | dT h _ _ _ => rw [h]; trivial
  | obj h _ _ _ => rw [h]; trivial
theorem prim_end {r : List V → Hp → VK → Prop} {f : List D → Option Slot} {os : List Opd} {xs : List (Option D)} {vs : List V} {Q : VK} (hr : PrimR Γ r f) (F : FR Γ Z σ ρ H) (o : OR Γ Z σ ρ H os xs vs) (k : EndV Γ Z σ ρ H (fin f os xs ρ) W Q) : r vs H Q := by
  unfold fin at k
  cases q : late os xs ρ with
  | none => rw [q] at k; exact k.elim
  | some ds =>
    rw [q] at k
    simp only at k
    cases q2 : f ds with
    | none => rw [q2] at k; exact k.elim
    | some s =>
      rw [q2] at k
      refine hr _ _ _ _ s Q F.mu (o.late F q) q2 ?_
      obtain ⟨d, b⟩ := s
      cases b with
      | false => exact fun v H' e r => k v H' (F.ext e) e.step r
      | true =>
        intro p H' hp e w
        refine k p H' (F.zadd e hp w.mut) e.step (fun z => F.nfresh hp (.inl z)) (.inl hp) ?_
        have e2 : (OA (Zadd Z p) σ ρ) = (fun b => OA Z σ ρ b ∨ b = p) := by
          funext b
          exact propext OA.zadd
        rw [e2]
        exact w
theorem SE.prim {r : List V → Hp → VK → Prop} {f : List D → Option Slot} {ta : TA} {os : List Opd} (hr : PrimR Γ r f) (ha : SA Γ W ta os) : SE Γ W (tCB r ta) (cPrim f os) := by
  intro Z σ ρ H Q F k
  refine ha.run F ?_
  unfold cPrim at k
  revert k
  cases evO os ρ with
  | ok xs ρ' => exact fun k vs H' f' s o => prim_end hr f' o (EndV.on s k)
  | exc c fs ρ' => exact fun k => k
  | stuck => exact fun k => k
def r2l (r : R2) : List V → Hp → VK → Prop := fun vs H Q => match vs with
  | [x, y] => r x y H Q
  | _ => False
def r1l (r : V → Hp → VK → Prop) : List V → Hp → VK → Prop := fun vs H Q => match vs with
  | [x] => r x H Q
  | _ => False
theorem SE.op2 {r : R2} {f : List D → Option Slot} {ta tb : TE} {o1 o2 : Opd} (hr : PrimR Γ (r2l r) f) (h1 : SO Γ W ta o1) (h2 : SO Γ W tb o2) : SE Γ W (tOp r ta tb) (cPrim f [o1, o2]) :=
  SE.prim (r := r2l r) hr (.cons h1 (.cons h2 .nil))
theorem SE.op1 {r : V → Hp → VK → Prop} {f : List D → Option Slot} {ta : TE} {o1 : Opd} (hr : PrimR Γ (r1l r) f) (h1 : SO Γ W ta o1) : SE Γ W (tUn r ta) (cPrim f [o1]) :=
  SE.prim (r := r1l r) hr (.cons h1 .nil)
end
end VS

namespace VS
open PySem L2
section
variable {Γ : Gm} {W : WX} {Z : Addr → Prop} {σ σ1 : St} {ρ ρ1 ρ' : Sl} {H H1 : Hp} {fx : List Nat}
theorem set_some {α : Type} {l : List α} {i j : Nat} {a b : α} (h : (l.set i a)[j]? = some b) : (i = j ∧ b = a ∧ i < l.length) ∨ (l[j]? = some b ∧ (i ≠ j)) := by
  rw [List.getElem?_set] at h
  by_cases e : i = j
  · rw [if_pos e] at h
    by_cases l1 : i < l.length
    · rw [if_pos l1] at h
      exact .inl ⟨e, (Option.some.inj h).symm, l1⟩
    · rw [if_neg l1] at h; cases h
  · rw [if_neg e] at h
    exact .inr ⟨h, e⟩
theorem set_at {α : Type} {l : List α} {i : Nat} {a : α} (h : i < l.length) : (l.set i a)[i]? = some a := List.getElem?_set_self h
theorem set_off {α : Type} {l : List α} {i j : Nat} {a : α} (h : i ≠ j) : (l.set i a)[j]? = l[j]? := List.getElem?_set_ne h
theorem lt_of_at {α : Type} {l : List α} {i : Nat} {a : α} (h : l[i]? = some a) : i < l.length := (List.getElem?_eq_some_iff.mp h).1

/-- slots forgotten or let go -/
theorem roots_sub (h : ∀ (i : Nat) s, ρ'[i]? = some (some s) → ρ[i]? = some (some s) ∨ (s.2 = false ∧ ρ[i]? = some (some (s.1, true)))) {a : Addr} (r : roots σ ρ' a) : roots σ ρ a := by
  obtain ⟨i, d, e1, e2⟩ := r
  rcases h i _ e1 with q | ⟨q, _⟩
  · exact ⟨i, d, q, e2⟩
  · cases q
theorem FR.sub (f : FR Γ Z σ ρ H) (hl : ρ'.length = ρ.length) (h : ∀ (i : Nat) s, ρ'[i]? = some (some s) → ρ[i]? = some (some s) ∨ (s.2 = false ∧ ρ[i]? = some (some (s.1, true)))) : FR Γ Z σ ρ' H := by
  have hs : ∀ a, roots σ ρ' a → roots σ ρ a := fun a r => roots_sub h r
  have ov : Ov (OA Z σ ρ) (OA Z σ ρ') H H := ⟨fun a o _ z => z.imp id (hs a), f.mu, fun _ _ q _ => q⟩
  refine ⟨f.len.trans hl.symm, fun a z => f.mu a (z.imp id (hs a)), fun i d e => ?_, fun i d e => ?_, fun i j d e a h1 h2 h3 h4 => ?_, fun a z r => f.dis a z (hs a r)⟩
  · rcases h i _ e with q | ⟨_, q⟩
    · obtain ⟨v, e1, r⟩ := f.sh i d q
      exact ⟨v, e1, r.to ov⟩
    · obtain ⟨v, e1, r⟩ := f.ow i d q
      obtain ⟨a, rfl, _, _⟩ := r.ref
      refine ⟨_, e1, r.rep ov fun z => ?_⟩
      rcases z with z | ⟨j, d', q1, q2⟩
      · exact f.dis a z ⟨i, d, q, e1⟩
      · rcases h j _ q1 with q3 | ⟨q3, _⟩
        · have ej := f.inj i j d d' a q q3 e1 q2
          subst ej
          rw [e] at q1
          cases q1
        · cases q3
  · rcases h i _ e with q | ⟨q, _⟩
    · obtain ⟨v, e1, r⟩ := f.ow i d q
      obtain ⟨a, rfl, o, _⟩ := r.ref
      exact ⟨_, e1, r.to ov (.inr ⟨i, d, e, e1⟩) fun _ q => q⟩
    · cases q
  · rcases h i _ h1 with q | ⟨q, _⟩
    · rcases h j _ h2 with q' | ⟨q', _⟩
      · exact f.inj i j d e a q q' h3 h4
      · cases q'
    · cases q
theorem sub_none {k : Nat} (i : Nat) (s : Slot) (h : (ρ.set k none)[i]? = some (some s)) : ρ[i]? = some (some s) ∨ (s.2 = false ∧ ρ[i]? = some (some (s.1, true))) := by
  rcases set_some h with ⟨_, q, _⟩ | ⟨q, _⟩
  · cases q
  · exact .inl q
theorem sub_copy {k : Nat} {d : D} {b : Bool} (hk : ρ[k]? = some (some (d, b))) (i : Nat) (s : Slot) (h : (ρ.set k (some (d, false)))[i]? = some (some s)) : ρ[i]? = some (some s) ∨ (s.2 = false ∧ ρ[i]? = some (some (s.1, true))) := by
  rcases set_some h with ⟨e, q, _⟩ | ⟨q, _⟩
  · subst e
    cases q
    cases b with
    | false => exact .inl hk
    | true => exact .inr ⟨rfl, hk⟩
  · exact .inl q
theorem FR.copy (f : FR Γ Z σ ρ H) {k : Nat} {d : D} {b : Bool} (hk : ρ[k]? = some (some (d, b))) : FR Γ Z σ (ρ.set k (some (d, false))) H := f.sub (by simp) (sub_copy hk)
theorem FR.forget (f : FR Γ Z σ ρ H) (k : Nat) : FR Γ Z σ (ρ.set k none) H := f.sub (by simp) sub_none
theorem Step.sub (h : ∀ (i : Nat) s, ρ'[i]? = some (some s) → ρ[i]? = some (some s) ∨ (s.2 = false ∧ ρ[i]? = some (some (s.1, true)))) : Step σ ρ H σ ρ' H := ⟨fun _ _ q _ => q, fun _ _ q => ⟨_, q⟩, fun a r => .inl (roots_sub h r)⟩

/-! ### names, constants -/
def cVar (i : Nat) : CExp := fun ρ => match ρ[i]? with
  | some (some (d, false)) => .ok (d, false) ρ
  | some (some (d, true)) => .ok (d, false) (ρ.set i (some (d, false)))
  | _ => .stuck
def cMove (i : Nat) : CExp := fun ρ => match ρ[i]? with
  | some (some (d, b)) => .ok (d, b) (ρ.set i none)
  | _ => .stuck
def cC (d : D) : CExp := fun ρ => .ok (d, false) ρ
theorem SE.c {v : V} {d : D} (h : ∀ O H, Rep Γ O H v d) : SE Γ W (tC v) (cC d) := fun Z σ ρ H Q f k => k v H f Step.refl (h _ _)
theorem SE.var {i : Nat} : SE Γ W (tVar i) (cVar i) := by
  intro Z σ ρ H Q f k
  unfold cVar at k
  cases q : ρ[i]? with
  | none => rw [q] at k; exact k.elim
  | some w =>
    cases w with
    | none => rw [q] at k; exact k.elim
    | some s =>
      obtain ⟨d, b⟩ := s
      rw [q] at k
      cases b with
      | false =>
        obtain ⟨v, hv, r⟩ := f.sh i d q
        exact ⟨v, hv, k v H f Step.refl r⟩
      | true =>
        obtain ⟨v, hv, r⟩ := f.ow i d q
        have f' := f.copy q
        obtain ⟨v', hv', r'⟩ := f'.sh i d (set_at (lt_of_at q))
        rw [hv] at hv'
        cases hv'
        exact ⟨v, hv, k v H f' (Step.sub (sub_copy q)) r'⟩
theorem SE.move {i : Nat} : SE Γ W (tVar i) (cMove i) := by
  intro Z σ ρ H Q f k
  unfold cMove at k
  cases q : ρ[i]? with
  | none => rw [q] at k; exact k.elim
  | some w =>
    cases w with
    | none => rw [q] at k; exact k.elim
    | some s =>
      obtain ⟨d, b⟩ := s
      rw [q] at k
      have f' := f.forget i
      cases b with
      | false =>
        obtain ⟨v, hv, r⟩ := f.sh i d q
        exact ⟨v, hv, k v H f' (Step.sub sub_none) (r.to ⟨fun a o _ z => z.imp id (roots_sub sub_none), f.mu, fun _ _ h _ => h⟩)⟩
      | true =>
        obtain ⟨v, hv, r⟩ := f.ow i d q
        obtain ⟨a, rfl, o, hm⟩ := r.ref
        have hra : roots σ ρ a := ⟨i, d, q, hv⟩
        have na : ¬ roots σ (ρ.set i none) a := by
          rintro ⟨j, d', e1, e2⟩
          rcases set_some e1 with ⟨_, z, _⟩ | ⟨z, ne⟩
          · cases z
          · exact ne (f.inj i j d d' a q z hv e2)
        have ov : Ov (OA Z σ ρ) (OA (Zadd Z a) σ (ρ.set i none)) H H := ⟨fun b u _ z => by
          rcases OA.zadd.mp z with z | z
          · exact z.imp id (roots_sub sub_none)
          · rw [z]; exact .inr hra, f.mu, fun _ _ h _ => h⟩
        refine ⟨_, hv, k a H ⟨f'.len, fun b z => ?_, fun j e h => ?_, fun j e h => ?_, f'.inj, fun b z n => ?_⟩ (Step.sub sub_none) (fun z => f.dis a z hra) (.inr hra) (r.to ov (OA.zadd.mpr (.inr rfl)) fun _ h => h)⟩
        · rcases OA.zadd.mp z with z | z
          · exact f'.mu b z
          · rw [z]; exact f.mu a (.inr hra)
        · rcases set_some h with ⟨_, z, _⟩ | ⟨z, ne⟩
          · cases z
          · obtain ⟨v, hv', r'⟩ := f.sh j e z
            exact ⟨v, hv', r'.to ov⟩
        · rcases set_some h with ⟨_, z, _⟩ | ⟨z, ne⟩
          · cases z
          · obtain ⟨v, hv', r'⟩ := f.ow j e z
            obtain ⟨a', rfl, o', _⟩ := r'.ref
            refine ⟨_, hv', r'.to ov (OA.zadd.mpr (.inl (.inr ⟨j, e, h, hv'⟩))) fun _ h => h⟩
        · rcases z with z | z
          · exact f'.dis b z n
          · rw [z] at n; exact na n

/-! ### stores to a name -/
theorem roots_put {v : V} {d : D} {i : Nat} {a : Addr} (r : roots (σ.set i (some v)) (ρ.set i (some (d, false))) a) : roots σ ρ a := by
  obtain ⟨j, e, e1, e2⟩ := r
  rcases set_some e1 with ⟨_, z, _⟩ | ⟨z, ne⟩
  · cases z
  · rw [set_off ne] at e2
    exact ⟨j, e, z, e2⟩
theorem FR.put (f : FR Γ Z σ ρ H) {i : Nat} {v : V} {d : D} (r : Rep Γ (OA Z σ ρ) H v d) : FR Γ Z (σ.set i (some v)) (ρ.set i (some (d, false))) H := by
  have ov : Ov (OA Z σ ρ) (OA Z (σ.set i (some v)) (ρ.set i (some (d, false)))) H H := ⟨fun a o _ z => z.imp id roots_put, f.mu, fun _ _ h _ => h⟩
  refine ⟨by simp [f.len], fun a z => f.mu a (z.imp id roots_put), fun j e h => ?_, fun j e h => ?_, fun j l e g a h1 h2 h3 h4 => ?_, fun a z n => f.dis a z (roots_put n)⟩
  · rcases set_some h with ⟨rfl, z, hl⟩ | ⟨z, ne⟩
    · cases z
      exact ⟨v, set_at (by rw [f.len]; exact hl), r.to ov⟩
    · obtain ⟨v', hv', r'⟩ := f.sh j e z
      exact ⟨v', by rw [set_off ne]; exact hv', r'.to ov⟩
  · rcases set_some h with ⟨rfl, z, hl⟩ | ⟨z, ne⟩
    · cases z
    · obtain ⟨v', hv', r'⟩ := f.ow j e z
      obtain ⟨a', rfl, o', _⟩ := r'.ref
      have hv2 : (σ.set i (some v))[j]? = some (some (.ref a')) := by rw [set_off ne]; exact hv'
      exact ⟨_, hv2, r'.to ov (.inr ⟨j, e, h, hv2⟩) fun _ h => h⟩
  · rcases set_some h1 with ⟨_, z, _⟩ | ⟨z, ne⟩
    · cases z
    · rcases set_some h2 with ⟨_, z', _⟩ | ⟨z', ne'⟩
      · cases z'
      · rw [set_off ne] at h3
        rw [set_off ne'] at h4
        exact f.inj j l e g a z z' h3 h4
theorem Step.put {i : Nat} {v : V} {d : D} : Step σ ρ H (σ.set i (some v)) (ρ.set i (some (d, false))) H := ⟨fun _ _ h _ => h, fun _ _ h => ⟨_, h⟩, fun a r => .inl (roots_put r)⟩
theorem roots_own {p : Addr} {d : D} {i : Nat} {a : Addr} (r : roots (σ.set i (some (.ref p))) (ρ.set i (some (d, true))) a) : roots σ ρ a ∨ a = p := by
  obtain ⟨j, e, e1, e2⟩ := r
  rcases set_some e1 with ⟨rfl, _, _⟩ | ⟨z, ne⟩
  · rcases set_some e2 with ⟨_, z2, _⟩ | ⟨_, ne2⟩
    · cases z2
      exact .inr rfl
    · exact absurd rfl ne2
  · rw [set_off ne] at e2
    exact .inl ⟨j, e, z, e2⟩
theorem FR.putOwn (f : FR Γ (Zadd Z p) σ ρ H) (n : ¬ Z p) {i : Nat} {d : D} (r : Own Γ (OA (Zadd Z p) σ ρ) H (.ref p) d) : FR Γ Z (σ.set i (some (.ref p))) (ρ.set i (some (d, true))) H := by
  have hsub : ∀ a, OA Z (σ.set i (some (.ref p))) (ρ.set i (some (d, true))) a → OA (Zadd Z p) σ ρ a := fun a z => by
    rcases z with z | z
    · exact .inl (.inl z)
    · rcases roots_own z with z | z
      · exact .inr z
      · exact .inl (.inr z)
  have ov : Ov (OA (Zadd Z p) σ ρ) (OA Z (σ.set i (some (.ref p))) (ρ.set i (some (d, true)))) H H := ⟨fun a o _ z => hsub a z, f.mu, fun _ _ h _ => h⟩
  have np : ¬ roots σ ρ p := f.dis p (.inr rfl)
  refine ⟨by simp [f.len], fun a z => f.mu a (hsub a z), fun j e h => ?_, fun j e h => ?_, fun j l e g a h1 h2 h3 h4 => ?_, fun a z q => ?_⟩
  · rcases set_some h with ⟨rfl, z, hl⟩ | ⟨z, ne⟩
    · cases z
    · obtain ⟨v', hv', r'⟩ := f.sh j e z
      exact ⟨v', by rw [set_off ne]; exact hv', r'.to ov⟩
  · rcases set_some h with ⟨rfl, z, hl⟩ | ⟨z, ne⟩
    · cases z
      have hv2 : (σ.set i (some (V.ref p)))[i]? = some (some (.ref p)) := set_at (by rw [f.len]; exact hl)
      exact ⟨_, hv2, r.to ov (.inr ⟨i, _, h, hv2⟩) fun _ h => h⟩
    · obtain ⟨v', hv', r'⟩ := f.ow j e z
      obtain ⟨a', rfl, o', _⟩ := r'.ref
      have hv2 : (σ.set i (some (V.ref p)))[j]? = some (some (.ref a')) := by rw [set_off ne]; exact hv'
      exact ⟨_, hv2, r'.to ov (.inr ⟨j, e, h, hv2⟩) fun _ h => h⟩
  · rcases set_some h1 with ⟨e1, z, hl1⟩ | ⟨z, ne⟩
    · subst e1
      rcases set_some h2 with ⟨e2, z', _⟩ | ⟨z', ne'⟩
      · exact e2
      · rw [set_at (by rw [f.len]; exact hl1)] at h3
        cases h3
        rw [set_off ne'] at h4
        exact absurd ⟨l, g, z', h4⟩ np
    · rw [set_off ne] at h3
      rcases set_some h2 with ⟨e2, z', hl2⟩ | ⟨z', ne'⟩
      · subst e2
        rw [set_at (by rw [f.len]; exact hl2)] at h4
        cases h4
        exact absurd ⟨j, e, z, h3⟩ np
      · rw [set_off ne'] at h4
        exact f.inj j l e g a z z' h3 h4
  · rcases roots_own q with q | q
    · exact f.dis a (.inl z) q
    · rw [q] at z; exact n z
theorem Step.putOwn {H0 : Hp} {σ0 : St} {ρ0 : Sl} {i : Nat} {p : Addr} {d : D} (s : Step σ0 ρ0 H0 σ ρ H) (hp : H0 p = none ∨ roots σ0 ρ0 p) : Step σ0 ρ0 H0 (σ.set i (some (.ref p))) (ρ.set i (some (d, true))) H := ⟨s.keep, s.dom, fun a r => by
  rcases roots_own r with q | q
  · exact s.new a q
  · rw [q]; exact hp.symm⟩

/-! ### an owned root changed in place -/
theorem FR.write (f : FR Γ Z σ ρ H) {i : Nat} {d d' : D} {a : Addr} {o : HO} (hi : ρ[i]? = some (some (d, true))) (hv : σ[i]? = some (some (.ref a))) (hw : Own Γ (OA Z σ ρ) (upd H a o) (.ref a) d') :
    FR Γ Z σ (ρ.set i (some (d', true))) (upd H a o) ∧ Step σ ρ H σ (ρ.set i (some (d', true))) (upd H a o) := by
  have hra : roots σ ρ a := ⟨i, d, hi, hv⟩
  have hoa : OA Z σ ρ a := .inr hra
  have hl : i < ρ.length := lt_of_at hi
  have rt : ∀ b, roots σ (ρ.set i (some (d', true))) b ↔ roots σ ρ b := fun b => by
    constructor
    · rintro ⟨j, e, e1, e2⟩
      rcases set_some e1 with ⟨rfl, _, _⟩ | ⟨z, ne⟩
      · exact ⟨i, d, hi, e2⟩
      · exact ⟨j, e, z, e2⟩
    · rintro ⟨j, e, e1, e2⟩
      by_cases hj : i = j
      · subst hj
        exact ⟨i, d', set_at hl, e2⟩
      · exact ⟨j, e, by rw [set_off hj]; exact e1, e2⟩
  have oa : OA Z σ (ρ.set i (some (d', true))) = OA Z σ ρ := by
    funext b
    exact propext ⟨fun z => z.imp id (rt b).mp, fun z => z.imp id (rt b).mpr⟩
  have ov : Ov (OA Z σ ρ) (OA Z σ ρ) H (upd H a o) := ⟨fun _ _ _ z => z, f.mu, fun b u h n => by
    rw [upd_ne (fun e => n (by rw [e]; exact hoa))]; exact h⟩
  refine ⟨⟨by simp [f.len], fun b z => ?_, fun j e h => ?_, fun j e h => ?_, fun j l e g b h1 h2 h3 h4 => ?_, fun b z n => f.dis b z ((rt b).mp n)⟩, ⟨fun b u h n => ?_, fun b u h => ?_, fun b z => .inl ((rt b).mp z)⟩⟩
  · rw [oa] at z
    by_cases e : b = a
    · subst e; exact hw.mut
    · rw [upd_ne e]; exact f.mu b z
  · rw [oa]
    rcases set_some h with ⟨_, z, _⟩ | ⟨z, ne⟩
    · cases z
    · obtain ⟨v', hv', r'⟩ := f.sh j e z
      exact ⟨v', hv', r'.to ov⟩
  · rw [oa]
    rcases set_some h with ⟨rfl, z, _⟩ | ⟨z, ne⟩
    · cases z
      exact ⟨_, hv, hw⟩
    · obtain ⟨v', hv', r'⟩ := f.ow j e z
      obtain ⟨b, rfl, ob, _⟩ := r'.ref
      have nb : b ≠ a := fun q => ne (f.inj i j d e a hi z hv (by rw [← q]; exact hv'))
      exact ⟨_, hv', r'.to ov ob fun u hu => by rw [upd_ne nb]; exact hu⟩
  · have g1 : ∃ e', ρ[j]? = some (some (e', true)) := by
      rcases set_some h1 with ⟨rfl, _, _⟩ | ⟨z, _⟩
      · exact ⟨d, hi⟩
      · exact ⟨e, z⟩
    have g2 : ∃ e', ρ[l]? = some (some (e', true)) := by
      rcases set_some h2 with ⟨rfl, _, _⟩ | ⟨z, _⟩
      · exact ⟨d, hi⟩
      · exact ⟨g, z⟩
    obtain ⟨e1, g1⟩ := g1
    obtain ⟨e2, g2⟩ := g2
    exact f.inj j l e1 e2 b g1 g2 h3 h4
  · rw [upd_ne (fun e => n (by rw [e]; exact hra))]; exact h
  · by_cases e : b = a
    · subst e; exact ⟨o, upd_same⟩
    · exact ⟨u, by rw [upd_ne e]; exact h⟩
end
end VS

namespace VS
open PySem L2
section
variable {Γ : Gm} {W : WX} {Z : Addr → Prop} {σ σ1 : St} {ρ ρ1 ρ' : Sl} {H H1 : Hp} {fx : List Nat}

/-! ### tests -/
def cTst (m : CExp) : CTst := fun ρ => (m ρ).bind fun s ρ' => match s.1 with
  | .bl b => .ok b ρ'
  | _ => .stuck
theorem Rep.bl_inv {O : Addr → Prop} {v : V} {b : Bool} (h : Rep Γ O H v (.bl b)) : v = .bl b := by cases h; rfl
theorem Rep.int_inv {O : Addr → Prop} {v : V} {b : Int} (h : Rep Γ O H v (.int b)) : v = .int b := by cases h; rfl
theorem Rep.str_inv {O : Addr → Prop} {v : V} {b : Str} (h : Rep Γ O H v (.str b)) : v = .str b := by cases h; rfl
theorem ST.test {t : TE} {m : CExp} (h : SE Γ W t m) : ST Γ W (tTest t) (cTst m) := by
  intro Z σ ρ H Q f k
  refine h.val f ?_
  unfold cTst at k
  revert k
  cases m ρ with
  | ok s ρ' =>
    obtain ⟨d, b⟩ := s
    cases d with
    | bl c =>
      intro k v H' f' s r
      have e := r.bl_inv
      subst e
      exact ⟨c, rfl, k H' f' s⟩
    | _ => exact fun k => k.elim
  | exc c fs ρ' => exact fun k => k
  | stuck => exact fun k => k
theorem ST.testB {t : TE} {m : CExp} (h : SE Γ W t m) : ST Γ W (tB t) (cTst m) := ST.test h
def cAnd (a b : CTst) : CTst := fun ρ => (a ρ).bind fun x ρ1 => if x = true then b ρ1 else .ok false ρ1
def cOr (a b : CTst) : CTst := fun ρ => (a ρ).bind fun x ρ1 => if x = true then .ok true ρ1 else b ρ1
def cNot (a : CTst) : CTst := fun ρ => (a ρ).bind fun x ρ1 => .ok (!x) ρ1
theorem ST.and {t u : TT} {a b : CTst} (h1 : ST Γ W t a) (h2 : ST Γ W u b) : ST Γ W (tAnd t u) (cAnd a b) := by
  intro Z σ ρ H Q f k
  refine h1 Z σ ρ H _ f ?_
  unfold cAnd at k
  revert k
  cases a ρ with
  | ok x ρ1 =>
    cases x with
    | true =>
      intro k H1 f1 s1
      show u σ H1 Q
      exact h2 Z σ ρ1 H1 Q f1 (EndB.on s1 k)
    | false => exact fun k H1 f1 s1 => k H1 f1 s1
  | exc c fs ρ' => exact fun k => k
  | stuck => exact fun k => k
theorem ST.or {t u : TT} {a b : CTst} (h1 : ST Γ W t a) (h2 : ST Γ W u b) : ST Γ W (tOr t u) (cOr a b) := by
  intro Z σ ρ H Q f k
  refine h1 Z σ ρ H _ f ?_
  unfold cOr at k
  revert k
  cases a ρ with
  | ok x ρ1 =>
    cases x with
    | false =>
      intro k H1 f1 s1
      show u σ H1 Q
      exact h2 Z σ ρ1 H1 Q f1 (EndB.on s1 k)
    | true => exact fun k H1 f1 s1 => k H1 f1 s1
  | exc c fs ρ' => exact fun k => k
  | stuck => exact fun k => k
theorem ST.not {t : TT} {a : CTst} (h1 : ST Γ W t a) : ST Γ W (tNot t) (cNot a) := by
  intro Z σ ρ H Q f k
  refine h1 Z σ ρ H _ f ?_
  unfold cNot at k
  revert k
  cases a ρ with
  | ok x ρ1 => exact fun k H1 f1 s1 => k H1 f1 s1
  | exc c fs ρ' => exact fun k => k
  | stuck => exact fun k => k
/-- and, or, not as values -/
def cAndV (a b : CExp) : CExp := fun ρ => (a ρ).bind fun x ρ1 => match x.1 with
  | .bl true => b ρ1
  | .bl false => .ok (.bl false, false) ρ1
  | _ => .stuck
def cOrV (a b : CExp) : CExp := fun ρ => (a ρ).bind fun x ρ1 => match x.1 with
  | .bl true => .ok (.bl true, false) ρ1
  | .bl false => b ρ1
  | _ => .stuck
def cNotV (a : CExp) : CExp := fun ρ => (a ρ).bind fun x ρ1 => match x.1 with
  | .bl b => .ok (.bl (!b), false) ρ1
  | _ => .stuck
theorem SE.andV {t u : TE} {a b : CExp} (h1 : SE Γ W t a) (h2 : SE Γ W u b) : SE Γ W (tAndV t u) (cAndV a b) := by
  intro Z σ ρ H Q f k
  refine h1.val f ?_
  unfold cAndV at k
  revert k
  cases a ρ with
  | ok x ρ1 =>
    obtain ⟨d, o⟩ := x
    cases d with
    | bl c =>
      intro k v H1 f1 s1 r
      have e := r.bl_inv
      subst e
      refine ⟨c, rfl, ?_⟩
      cases c with
      | true =>
        show u σ H1 Q
        exact h2 Z σ ρ1 H1 Q f1 (EndV.on s1 k)
      | false => exact k _ H1 f1 s1 (.bl false)
    | _ => exact fun k => k.elim
  | exc c fs ρ' => exact fun k => k
  | stuck => exact fun k => k
theorem SE.orV {t u : TE} {a b : CExp} (h1 : SE Γ W t a) (h2 : SE Γ W u b) : SE Γ W (tOrV t u) (cOrV a b) := by
  intro Z σ ρ H Q f k
  refine h1.val f ?_
  unfold cOrV at k
  revert k
  cases a ρ with
  | ok x ρ1 =>
    obtain ⟨d, o⟩ := x
    cases d with
    | bl c =>
      intro k v H1 f1 s1 r
      have e := r.bl_inv
      subst e
      refine ⟨c, rfl, ?_⟩
      cases c with
      | false =>
        show u σ H1 Q
        exact h2 Z σ ρ1 H1 Q f1 (EndV.on s1 k)
      | true => exact k _ H1 f1 s1 (.bl true)
    | _ => exact fun k => k.elim
  | exc c fs ρ' => exact fun k => k
  | stuck => exact fun k => k
theorem SE.notV {t : TE} {a : CExp} (h1 : SE Γ W t a) : SE Γ W (tNotV t) (cNotV a) := by
  intro Z σ ρ H Q f k
  refine h1.val f ?_
  unfold cNotV at k
  revert k
  cases a ρ with
  | ok x ρ1 =>
    obtain ⟨d, o⟩ := x
    cases d with
    | bl c =>
      intro k v H1 f1 s1 r
      have e := r.bl_inv
      subst e
      exact ⟨c, rfl, k _ H1 f1 s1 (.bl _)⟩
    | _ => exact fun k => k.elim
  | exc c fs ρ' => exact fun k => k
  | stuck => exact fun k => k
def cIfE (c : CTst) (a b : CExp) : CExp := fun ρ => (c ρ).bind fun x ρ1 => if x = true then a ρ1 else b ρ1
theorem SE.ifE {t : TT} {u v : TE} {c : CTst} {a b : CExp} (h0 : ST Γ W t c) (h1 : SE Γ W u a) (h2 : SE Γ W v b) : SE Γ W (tIf t u v) (cIfE c a b) := by
  intro Z σ ρ H Q f k
  refine h0 Z σ ρ H _ f ?_
  unfold cIfE at k
  revert k
  cases c ρ with
  | ok x ρ1 =>
    cases x with
    | true =>
      intro k H1 f1 s1
      show u σ H1 Q
      exact h1 Z σ ρ1 H1 Q f1 (EndV.on s1 k)
    | false =>
      intro k H1 f1 s1
      show v σ H1 Q
      exact h2 Z σ ρ1 H1 Q f1 (EndV.on s1 k)
  | exc c fs ρ' => exact fun k => k
  | stuck => exact fun k => k

/-! ### statements -/
def cNext : CStm := fun ρ => .ok .nx ρ
def cSeq (a b : CStm) : CStm := fun ρ => match a ρ with
  | .ok .nx ρ1 => b ρ1
  | r => r
def cIf (c : CTst) (a b : CStm) : CStm := fun ρ => (c ρ).bind fun x ρ1 => if x = true then a ρ1 else b ρ1
def cBrk : CStm := fun ρ => .ok .bk ρ
def cCnt : CStm := fun ρ => .ok .ct ρ
def cRet (m : CExp) : CStm := fun ρ => (m ρ).bind fun s ρ' => .ok (.rt s) ρ'
def cRetN : CStm := fun ρ => .ok (.rt (.non, false)) ρ
def cAsg (i : Nat) (m : CExp) : CStm := fun ρ => (m ρ).bind fun s ρ' => .ok .nx (ρ'.set i (some s))
def cDrop (m : CExp) : CStm := fun ρ => (m ρ).bind fun _ ρ' => .ok .nx ρ'
theorem PostX.st {c : Nat} {fs : List (Str × D)} {E : Ends} (p : EndS Γ Z σ ρ H fx (.exc c fs ρ') W E) : PostX Γ Z σ ρ H c fs ρ' W := fun d H' f s x => p d σ H' f s Fx.refl x
theorem SS.next : SS Γ fx W tNext cNext := fun Z σ ρ H E f k => k σ H f Step.refl Fx.refl
theorem SS.brk : SS Γ fx W tBreak cBrk := fun Z σ ρ H E f k => k σ H f Step.refl Fx.refl
theorem SS.cnt : SS Γ fx W tCont cCnt := fun Z σ ρ H E f k => k σ H f Step.refl Fx.refl
theorem SS.retN : SS Γ fx W tRetN cRetN := fun Z σ ρ H E f k => k .non σ H f Step.refl Fx.refl .non
theorem SS.seq {t u : TS} {a b : CStm} (h1 : SS Γ fx W t a) (h2 : SS Γ fx W u b) : SS Γ fx W (tSeq t u) (cSeq a b) := by
  intro Z σ ρ H E f k
  refine h1 Z σ ρ H _ f ?_
  unfold cSeq at k
  revert k
  cases a ρ with
  | ok o ρ1 =>
    cases o with
    | nx => exact fun k σ1 H1 f1 s1 x1 => h2 Z σ1 ρ1 H1 E f1 (EndS.on s1 x1 k)
    | bk => exact fun k => k
    | ct => exact fun k => k
    | rt s =>
      obtain ⟨d, b⟩ := s
      cases b with
      | false => exact fun k => k
      | true => exact fun k => k
  | exc c fs ρ' => exact fun k => k
  | stuck => exact fun k => k
theorem SS.if {c : TT} {t u : TS} {m : CTst} {a b : CStm} (h0 : ST Γ W c m) (h1 : SS Γ fx W t a) (h2 : SS Γ fx W u b) : SS Γ fx W (tIfS c t u) (cIf m a b) := by
  intro Z σ ρ H E f k
  refine h0 Z σ ρ H _ f ?_
  unfold cIf at k
  revert k
  cases m ρ with
  | ok x ρ1 =>
    cases x with
    | true =>
      intro k H1 f1 s1
      show t E σ H1
      exact h1 Z σ ρ1 H1 E f1 (EndS.on s1 Fx.refl k)
    | false =>
      intro k H1 f1 s1
      show u E σ H1
      exact h2 Z σ ρ1 H1 E f1 (EndS.on s1 Fx.refl k)
  | exc c fs ρ' => exact fun k => PostX.st k
  | stuck => exact fun k => k
theorem SS.ret {t : TE} {m : CExp} (h : SE Γ W t m) : SS Γ fx W (tRet t) (cRet m) := by
  intro Z σ ρ H E f k
  refine h Z σ ρ H _ f ?_
  unfold cRet at k
  revert k
  cases m ρ with
  | ok s ρ1 =>
    obtain ⟨d, b⟩ := s
    cases b with
    | false => exact fun k v H' f' s r => k v σ H' f' s Fx.refl r
    | true => exact fun k a H' f' s n q r => k a σ H' f' s Fx.refl n q r
  | exc c fs ρ' => exact fun k => PostX.st k
  | stuck => exact fun k => k
theorem SS.drop {t : TE} {m : CExp} (h : SE Γ W t m) : SS Γ fx W (tDrop t) (cDrop m) := by
  intro Z σ ρ H E f k
  refine h.val f ?_
  unfold cDrop at k
  revert k
  cases m ρ with
  | ok s ρ1 => exact fun k v H' f' s r => k σ H' f' s Fx.refl
  | exc c fs ρ' => exact fun k => PostX.st k
  | stuck => exact fun k => k
theorem Fx.put {i : Nat} {v : Option V} (h : i ∉ fx) : Fx fx σ (σ.set i v) := fun j hj => by
  rw [set_off]
  rintro rfl
  exact h hj
theorem SS.asg {i : Nat} {t : TE} {m : CExp} (h : SE Γ W t m) (hi : i ∉ fx) : SS Γ fx W (tAsg t (gName i)) (cAsg i m) := by
  intro Z σ ρ H E f k
  refine h Z σ ρ H _ f ?_
  unfold cAsg at k
  revert k
  cases m ρ with
  | ok s ρ1 =>
    obtain ⟨d, b⟩ := s
    cases b with
    | false => exact fun k v H' f' s r => k _ H' (f'.put r) (s.trans Step.put) (Fx.put hi)
    | true => exact fun k a H' f' s n q r => k _ H' (f'.putOwn n r) (s.putOwn q) (Fx.put hi)
  | exc c fs ρ' => exact fun k => PostX.st k
  | stuck => exact fun k => k

/-! ### targets -/
def SG (Γ : Gm) (fx : List Nat) (g : TG) (tg : D → Sl → Option Sl) : Prop := ∀ Z σ ρ H v d ρ' (Q : St → Hp → Prop), FR Γ Z σ ρ H → Rep Γ (OA Z σ ρ) H v d → tg d ρ = some ρ' →
  (∀ σ', FR Γ Z σ' ρ' H → Step σ ρ H σ' ρ' H → Fx fx σ σ' → Q σ' H) → g v σ H Q
def tgN (i : Nat) : D → Sl → Option Sl := fun d ρ => some (ρ.set i (some (d, false)))
theorem SG.name {i : Nat} (hi : i ∉ fx) : SG Γ fx (gName i) (tgN i) := fun Z σ ρ H v d ρ' Q f r e k => by
  cases e
  exact k _ (f.put r) Step.put (Fx.put hi)
def SGs (Γ : Gm) (fx : List Nat) (g : TGs) (tg : List D → Sl → Option Sl) : Prop := ∀ Z σ ρ H vs ds ρ' (Q : St → Hp → Prop), FR Γ Z σ ρ H → Reps Γ (OA Z σ ρ) H vs ds → tg ds ρ = some ρ' →
  (∀ σ', FR Γ Z σ' ρ' H → Step σ ρ H σ' ρ' H → Fx fx σ σ' → Q σ' H) → g vs σ H Q
def tgNil : List D → Sl → Option Sl := fun ds ρ => match ds with
  | [] => some ρ
  | _ => none
def tgCons (a : D → Sl → Option Sl) (b : List D → Sl → Option Sl) : List D → Sl → Option Sl := fun ds ρ => match ds with
  | d :: r => match a d ρ with
    | some ρ1 => b r ρ1
    | none => none
  | [] => none
theorem SGs.nil : SGs Γ fx gNil tgNil := fun Z σ ρ H vs ds ρ' Q f r e k => by
  cases r with
  | nil => cases e; exact ⟨rfl, k σ f Step.refl Fx.refl⟩
  | cons h r => cases e
theorem SGs.cons {g : TG} {gs : TGs} {a : D → Sl → Option Sl} {b : List D → Sl → Option Sl} (h1 : SG Γ fx g a) (h2 : SGs Γ fx gs b) : SGs Γ fx (gCons g gs) (tgCons a b) := fun Z σ ρ H vs ds ρ' Q f r e k => by
  cases r with
  | nil => cases e
  | cons h r =>
    unfold tgCons at e
    simp only at e
    revert e
    cases q : a _ ρ with
    | none => intro e; cases e
    | some ρ1 =>
      intro e
      exact ⟨_, _, rfl, h1 Z σ ρ H _ _ ρ1 _ f h q fun σ1 f1 s1 x1 => h2 Z σ1 ρ1 H _ _ ρ' Q f1 (r.to (s1.ov f)) e fun σ2 f2 s2 x2 => k σ2 f2 (s1.trans s2) (x1.trans x2)⟩
def tgTup (n : Nat) (b : List D → Sl → Option Sl) : D → Sl → Option Sl := fun d ρ => match d with
  | .tup ds => if ds.length = n then b ds ρ else none
  | .ktup ds => if ds.length = n then b ds ρ else none
  | _ => none
theorem Reps.length {O : Addr → Prop} : ∀ {vs : List V} {ds : List D}, Reps Γ O H vs ds → vs.length = ds.length
  | _, _, .nil => rfl
  | _, _, .cons _ r => congrArg (· + 1) (Reps.length r)
theorem SG.tup {n : Nat} {gs : TGs} {b : List D → Sl → Option Sl} (h : SGs Γ fx gs b) : SG Γ fx (gTup Γ.K n gs) (tgTup n b) := fun Z σ ρ H v d ρ' Q f r e k => by
  cases r with
  | @tup a vs ds hs rs =>
    unfold tgTup at e
    simp only at e
    by_cases hn : ds.length = n
    · rw [if_pos hn] at e
      exact ⟨a, vs, rfl, SqT.of hs, rs.length.trans hn, h Z σ ρ H vs ds ρ' Q f rs e k⟩
    · rw [if_neg hn] at e; cases e
  | @ktup a vs ds hs rs =>
    unfold tgTup at e
    simp only at e
    by_cases hn : ds.length = n
    · rw [if_pos hn] at e
      exact ⟨a, vs, rfl, .inr hs, rs.length.trans hn, h Z σ ρ H vs ds ρ' Q f rs e k⟩
    · rw [if_neg hn] at e; cases e
  | _ => cases e
def cAsgT (tg : D → Sl → Option Sl) (m : CExp) : CStm := fun ρ => (m ρ).bind fun s ρ' => match tg s.1 ρ' with
  | some ρ2 => .ok .nx ρ2
  | none => .stuck
theorem SS.asgT {g : TG} {tg : D → Sl → Option Sl} {t : TE} {m : CExp} (h : SE Γ W t m) (hg : SG Γ fx g tg) : SS Γ fx W (tAsg t g) (cAsgT tg m) := by
  intro Z σ ρ H E f k
  refine h.val f ?_
  unfold cAsgT at k
  revert k
  cases m ρ with
  | ok s ρ1 =>
    simp only [Res.bind_ok]
    cases q : tg s.1 ρ1 with
    | none => exact fun k => k.elim
    | some ρ2 => exact fun k v H' f' s1 r => hg Z σ ρ1 H' v _ ρ2 _ f' r q fun σ2 f2 s2 x2 => k σ2 H' f2 (s1.trans s2) x2
  | exc c fs ρ' => exact fun k => PostX.st k
  | stuck => exact fun k => k

/-! ### loops -/
def loop (tg : D → Sl → Option Sl) (body : CStm) : List D → CStm
  | [], ρ => .ok .nx ρ
  | d :: ds, ρ => match tg d ρ with
    | none => .stuck
    | some ρ1 => match body ρ1 with
      | .ok .nx ρ2 => loop tg body ds ρ2
      | .ok .ct ρ2 => loop tg body ds ρ2
      | .ok .bk ρ2 => .ok .nx ρ2
      | .ok (.rt s) ρ2 => .ok (.rt s) ρ2
      | .exc c fs ρ2 => .exc c fs ρ2
      | .stuck => .stuck
/-- a walk through ds: G tells that what is walked stands -/
structure Wk (Γ : Gm) (J : It) (G : (Addr → Prop) → Hp → Prop) (ds : List D) : Prop where
  pres : ∀ O O' H H', G O H → Ov O O' H H' → G O' H'
  item : ∀ O H (i : Nat) d, (∀ a, O a → Mut (H a)) → G O H → ds[i]? = some d → J.go i H ∧ ∀ x H', J.yld i H x H' → Ext H H' ∧ Rep Γ O H' x d
  done : ∀ O H, G O H → J.stop ds.length H
abbrev CIt := Sl → Res (List D)
def EndI (Γ : Gm) (Z : Addr → Prop) (σ : St) (ρ : Sl) (H : Hp) (r : Res (List D)) (W : WX) (R : It → Hp → Prop) : Prop := match r with
  | .ok ds ρ' => ∀ J G H', FR Γ Z σ ρ' H' → Step σ ρ H σ ρ' H' → Wk Γ J G ds → G (OA Z σ ρ') H' → R J H'
  | .exc c fs ρ' => PostX Γ Z σ ρ H c fs ρ' W
  | .stuck => False
def SI (Γ : Gm) (W : WX) (wi : TI) (m : CIt) : Prop := ∀ Z σ ρ H R, FR Γ Z σ ρ H → EndI Γ Z σ ρ H (m ρ) W R → wi σ H R
def cFor (it : CIt) (tg : D → Sl → Option Sl) (body : CStm) : CStm := fun ρ => (it ρ).bind fun ds ρ1 => loop tg body ds ρ1
theorem SS.for {wi : TI} {g : TG} {tb : TS} {it : CIt} {tg : D → Sl → Option Sl} {body : CStm} (hi : SI Γ W wi it) (hg : SG Γ fx g tg) (hb : SS Γ fx W tb body) : SS Γ fx W (tFor wi g tb) (cFor it tg body) := by
  intro Z σ ρ H E f k
  refine hi Z σ ρ H _ f ?_
  unfold cFor at k
  revert k
  cases it ρ with
  | exc c fs ρ' => exact fun k => PostX.st k
  | stuck => exact fun k => k
  | ok ds ρ1 =>
    intro k J G H1 f1 s1 wk g1
    have k : EndS Γ Z σ ρ H fx (loop tg body ds ρ1) W E := k
    refine ⟨fun i m σ' H' => m = ds.length - i ∧ i ≤ ds.length ∧ ∃ ρi, FR Γ Z σ' ρi H' ∧ G (OA Z σ' ρi) H' ∧ EndS Γ Z σ' ρi H' fx (loop tg body (ds.drop i) ρi) W E, ⟨ds.length, rfl, Nat.zero_le _, ρ1, f1, g1, EndS.on s1 Fx.refl k⟩, ?_⟩
    rintro i m σ' H' ⟨rfl, hle, ρi, fi, gi, ki⟩
    by_cases hlt : i < ds.length
    · right
      have hd : ds[i]? = some ds[i] := List.getElem?_eq_getElem hlt
      obtain ⟨go, yl⟩ := wk.item _ H' i _ fi.mu gi hd
      refine ⟨go, fun σ2 H2 => ∃ ρ2, FR Γ Z σ2 ρ2 H2 ∧ G (OA Z σ2 ρ2) H2 ∧ EndS Γ Z σ2 ρ2 H2 fx (loop tg body (ds.drop (i + 1)) ρ2) W E, fun σ2 H2 ⟨ρ2, f2, g2, k2⟩ => ⟨ds.length - (i + 1), by omega, rfl, hlt, ρ2, f2, g2, k2⟩, fun x H2 hy => ?_⟩
      obtain ⟨ex, rx⟩ := yl x H2 hy
      have f2 := fi.ext ex
      have s2 : Step σ' ρi H' σ' ρi H2 := ex.step
      rw [List.drop_eq_getElem_cons hlt] at ki
      unfold loop at ki
      cases q : tg ds[i] ρi with
      | none => rw [q] at ki; exact ki.elim
      | some ρ3 =>
        rw [q] at ki
        simp only at ki
        refine hg Z σ' ρi H2 x _ ρ3 _ f2 rx q fun σ3 f3 s3 x3 => ?_
        have g3 : G (OA Z σ3 ρ3) H2 := wk.pres _ _ _ _ gi ((s2.trans s3).ov fi)
        refine hb Z σ3 ρ3 H2 _ f3 ?_
        have s23 := s2.trans s3
        revert ki
        cases body ρ3 with
        | ok o ρ4 =>
          cases o with
          | nx => exact fun ki σ4 H4 f4 s4 x4 => ⟨ρ4, f4, wk.pres _ _ _ _ g3 (s4.ov f3), EndS.on (s23.trans s4) (x3.trans x4) ki⟩
          | ct => exact fun ki σ4 H4 f4 s4 x4 => ⟨ρ4, f4, wk.pres _ _ _ _ g3 (s4.ov f3), EndS.on (s23.trans s4) (x3.trans x4) ki⟩
          | bk => exact fun ki σ4 H4 f4 s4 x4 => ki σ4 H4 f4 (s23.trans s4) (x3.trans x4)
          | rt s =>
            obtain ⟨d, b⟩ := s
            cases b with
            | false => exact fun ki v σ4 H4 f4 s4 x4 r => ki v σ4 H4 f4 (s23.trans s4) (x3.trans x4) r
            | true => exact fun ki a σ4 H4 f4 s4 x4 n q r => ki a σ4 H4 f4 (s23.trans s4) (x3.trans x4) n (s23.root q) r
        | exc c fs ρ4 => exact fun ki d σ4 H4 f4 s4 x4 r => ki d σ4 H4 f4 (s23.trans s4) (x3.trans x4) r
        | stuck => exact fun ki => ki
    · left
      have e : i = ds.length := by omega
      subst e
      refine ⟨wk.done _ H' gi, ?_⟩
      rw [List.drop_length] at ki
      exact ki σ' H' fi Step.refl Fx.refl
def whl (c : CTst) (body : CStm) : Nat → CStm
  | 0, _ => .stuck
  | n + 1, ρ => (c ρ).bind fun b ρ1 => if b = true then (match body ρ1 with
      | .ok .nx ρ2 => whl c body n ρ2
      | .ok .ct ρ2 => whl c body n ρ2
      | .ok .bk ρ2 => .ok .nx ρ2
      | .ok (.rt s) ρ2 => .ok (.rt s) ρ2
      | .exc c fs ρ2 => .exc c fs ρ2
      | .stuck => .stuck) else .ok .nx ρ1
theorem SS.whl {tc : TT} {tb : TS} {c : CTst} {body : CStm} {n : Nat} (hc : ST Γ W tc c) (hb : SS Γ fx W tb body) : SS Γ fx W (tWhile tc tb) (whl c body n) := by
  intro Z σ ρ H E f k
  refine ⟨fun m σ' H' => ∃ ρi, FR Γ Z σ' ρi H' ∧ EndS Γ Z σ' ρi H' fx (VS.whl c body m ρi) W E, ⟨n, ρ, f, k⟩, ?_⟩
  rintro m σ' H' ⟨ρi, fi, ki⟩
  cases m with
  | zero => exact ki.elim
  | succ m =>
    unfold VS.whl at ki
    refine hc Z σ' ρi H' _ fi ?_
    revert ki
    cases c ρi with
    | exc c fs ρ' => exact fun ki => PostX.st ki
    | stuck => exact fun ki => ki
    | ok b ρ1 =>
      cases b with
      | false => exact fun ki H1 f1 s1 => ki σ' H1 f1 s1 Fx.refl
      | true =>
        intro ki H1 f1 s1
        show ∃ N : St → Hp → Prop, _
        refine ⟨fun σ2 H2 => ∃ ρ2, FR Γ Z σ2 ρ2 H2 ∧ EndS Γ Z σ2 ρ2 H2 fx (VS.whl c body m ρ2) W E, fun σ2 H2 h => ⟨m, Nat.lt_succ_self _, h⟩, hb Z σ' ρ1 H1 _ f1 ?_⟩
        simp only [Res.bind_ok, if_true] at ki
        revert ki
        cases body ρ1 with
        | ok o ρ4 =>
          cases o with
          | nx => exact fun ki σ4 H4 f4 s4 x4 => ⟨ρ4, f4, EndS.on (s1.trans s4) x4 ki⟩
          | ct => exact fun ki σ4 H4 f4 s4 x4 => ⟨ρ4, f4, EndS.on (s1.trans s4) x4 ki⟩
          | bk => exact fun ki σ4 H4 f4 s4 x4 => ki σ4 H4 f4 (s1.trans s4) x4
          | rt s =>
            obtain ⟨d, b⟩ := s
            cases b with
            | false => exact fun ki v σ4 H4 f4 s4 x4 r => ki v σ4 H4 f4 (s1.trans s4) x4 r
            | true => exact fun ki a σ4 H4 f4 s4 x4 n q r => ki a σ4 H4 f4 (s1.trans s4) x4 n (s1.root q) r
        | exc c fs ρ4 => exact fun ki d σ4 H4 f4 s4 x4 r => ki d σ4 H4 f4 (s1.trans s4) x4 r
        | stuck => exact fun ki => ki
end
end VS

namespace VS
open PySem L2
/-! ### defs -/
inductive CRes where
  | ok (s : Slot) (as : List (Option Slot))
  | exc (c : Nat) (fs : List (Str × D)) (as : List (Option Slot))
  | stuck
abbrev CFun := List Slot → CRes
def maskF (fx : List Nat) : Nat → List Slot → List Slot
  | _, [] => []
  | k, s :: r => (if k ∈ fx then s else (s.1, false)) :: maskF fx (k + 1) r
def outsF (fx : List Nat) (ρ : Sl) : Nat → List Slot → List (Option Slot)
  | _, [] => []
  | k, s :: r => (if k ∈ fx then (match ρ[k]? with | some x => x | none => none) else some (s.1, false)) :: outsF fx ρ (k + 1) r
def bodyF (fx : List Nat) (n : Nat) (m : CStm) : CFun := fun args => match m ((maskF fx 0 args).map some ++ List.replicate (n - args.length) none) with
  | .ok .nx ρ' => .ok (.non, false) (outsF fx ρ' 0 args)
  | .ok (.rt s) ρ' => .ok s (outsF fx ρ' 0 args)
  | .exc c fs ρ' => .exc c fs (outsF fx ρ' 0 args)
  | _ => .stuck
def EndF (Γ : Gm) (Z : Addr → Prop) (σ : St) (ρ : Sl) (H : Hp) (r : CRes) (Q : VK) (E : XK) : Prop := match r with
  | .ok (d, false) as => ∀ v H', FR Γ Z σ as H' → Step σ ρ H σ as H' → Rep Γ (OA Z σ as) H' v d → Q v H'
  | .ok (d, true) as => ∀ a H', FR Γ (Zadd Z a) σ as H' → Step σ ρ H σ as H' → ¬ Z a → (H a = none ∨ roots σ ρ a) → Own Γ (OA (Zadd Z a) σ as) H' (.ref a) d → Q (.ref a) H'
  | .exc c fs as => ∀ d H', FR Γ Z σ as H' → Step σ ρ H σ as H' → XRep Γ (OA Z σ as) H' d fs → E (.ref (Γ.ct c)) d H'
  | .stuck => False
def spD (Γ : Gm) (F : CFun) (np : Nat) : Sp := fun vs H Q E => vs.length = np ∧ ∃ Z args, FR Γ Z (vs.map some) (args.map some) H ∧ EndF Γ Z (vs.map some) (args.map some) H (F args) Q E
section
variable {Γ : Gm} {W : WX} {Z : Addr → Prop} {σ σ1 : St} {ρ ρ1 ρ' : Sl} {H H1 : Hp} {fx : List Nat}
theorem maskF_len : ∀ (k : Nat) (l : List Slot), (maskF fx k l).length = l.length
  | _, [] => rfl
  | k, s :: r => by simp [maskF, maskF_len (k + 1) r]
theorem maskF_at : ∀ (k : Nat) (l : List Slot) (i : Nat), (maskF fx k l)[i]? = (l[i]?).map fun s => if k + i ∈ fx then s else (s.1, false)
  | _, [], i => by simp [maskF]
  | k, s :: r, 0 => by simp [maskF]
  | k, s :: r, i + 1 => by
    have h := maskF_at (k + 1) r i
    have e : k + 1 + i = k + (i + 1) := by omega
    rw [e] at h
    simpa [maskF] using h
theorem outsF_len : ∀ (k : Nat) (l : List Slot), (outsF fx ρ k l).length = l.length
  | _, [] => rfl
  | k, s :: r => by simp [outsF, outsF_len (k + 1) r]
theorem outsF_at : ∀ (k : Nat) (l : List Slot) (i : Nat), (outsF fx ρ k l)[i]? = (l[i]?).map fun s => if k + i ∈ fx then (match ρ[k + i]? with | some x => x | none => none) else some (s.1, false)
  | _, [], i => by simp [outsF]
  | k, s :: r, 0 => by simp [outsF]
  | k, s :: r, i + 1 => by
    have h := outsF_at (k + 1) r i
    have e : k + 1 + i = k + (i + 1) := by omega
    rw [e] at h
    simpa [outsF] using h
theorem pad_at {α : Type} {l : List α} {n i : Nat} {x : α} (h : (l.map some ++ List.replicate n none)[i]? = some (some x)) : l[i]? = some x := by
  rw [List.getElem?_append] at h
  split at h
  · rename_i hl
    rw [List.getElem?_map] at h
    cases e : l[i]? with
    | none => rw [e] at h; cases h
    | some y => rw [e] at h; simpa using h
  · rw [List.getElem?_replicate] at h
    split at h <;> cases h
theorem pad_of {α : Type} {l : List α} {n i : Nat} {x : α} (h : l[i]? = some x) : (l.map some ++ List.replicate n none)[i]? = some (some x) := by
  have hl : i < (l.map some).length := by simpa using lt_of_at h
  rw [List.getElem?_append_left hl, List.getElem?_map, h]
  rfl
theorem map_at {α : Type} {l : List α} {i : Nat} {x : α} : (l.map some)[i]? = some (some x) ↔ l[i]? = some x := by
  rw [List.getElem?_map]
  cases l[i]? with
  | none => simp
  | some y => simp
/-- the entry of a def -/
theorem FR.enter {vs : List V} {args : List Slot} {n : Nat} (f : FR Γ Z (vs.map some) (args.map some) H) : FR Γ Z (vs.map some ++ List.replicate n none) ((maskF fx 0 args).map some ++ List.replicate n none) H ∧
    (∀ a, roots (vs.map some ++ List.replicate n none) ((maskF fx 0 args).map some ++ List.replicate n none) a → roots (vs.map some) (args.map some) a) := by
  have g : FR Γ Z (vs.map some) ((maskF fx 0 args).map some) H := by
    refine f.sub (by simp [maskF_len]) fun i s h => ?_
    rw [map_at] at h
    rw [maskF_at] at h
    cases e : args[i]? with
    | none => rw [e] at h; cases h
    | some t =>
      rw [e] at h
      simp only [Option.map_some, Option.some.injEq] at h
      obtain ⟨d, b⟩ := t
      by_cases hi : 0 + i ∈ fx
      · rw [if_pos hi] at h
        subst h
        exact .inl (map_at.mpr e)
      · rw [if_neg hi] at h
        subst h
        cases b with
        | false => exact .inl (map_at.mpr e)
        | true => exact .inr ⟨rfl, map_at.mpr e⟩
  have hsub : ∀ a, roots (vs.map some) ((maskF fx 0 args).map some) a → roots (vs.map some) (args.map some) a := fun a r => by
    obtain ⟨i, d, e1, e2⟩ := r
    rw [map_at, maskF_at] at e1
    cases e : args[i]? with
    | none => rw [e] at e1; cases e1
    | some t =>
      rw [e] at e1
      simp only [Option.map_some, Option.some.injEq] at e1
      by_cases hi : 0 + i ∈ fx
      · rw [if_pos hi] at e1
        subst e1
        exact ⟨i, d, map_at.mpr e, e2⟩
      · rw [if_neg hi] at e1
        cases e1
  have hr : ∀ a, roots (vs.map some ++ List.replicate n none) ((maskF fx 0 args).map some ++ List.replicate n none) a ↔ roots (vs.map some) ((maskF fx 0 args).map some) a := fun a => by
    constructor
    · rintro ⟨i, d, e1, e2⟩
      exact ⟨i, d, map_at.mpr (pad_at e1), map_at.mpr (pad_at e2)⟩
    · rintro ⟨i, d, e1, e2⟩
      exact ⟨i, d, pad_of (map_at.mp e1), pad_of (map_at.mp e2)⟩
  have oa : OA Z (vs.map some ++ List.replicate n none) ((maskF fx 0 args).map some ++ List.replicate n none) = OA Z (vs.map some) ((maskF fx 0 args).map some) := by
    funext a
    exact propext ⟨fun z => z.imp id (hr a).mp, fun z => z.imp id (hr a).mpr⟩
  refine ⟨⟨?_, ?_, fun i d h => ?_, fun i d h => ?_, fun i j d e a h1 h2 h3 h4 => ?_, fun a z r => g.dis a z ((hr a).mp r)⟩, fun a r => hsub a ((hr a).mp r)⟩
  · have := g.len
    simp only [List.length_append, List.length_replicate]
    omega
  · rw [oa]; exact g.mu
  · rw [oa]
    obtain ⟨v, e1, r⟩ := g.sh i d (map_at.mpr (pad_at h))
    exact ⟨v, pad_of (map_at.mp e1), r⟩
  · rw [oa]
    obtain ⟨v, e1, r⟩ := g.ow i d (map_at.mpr (pad_at h))
    exact ⟨v, pad_of (map_at.mp e1), r⟩
  · exact g.inj i j d e a (map_at.mpr (pad_at h1)) (map_at.mpr (pad_at h2)) (map_at.mpr (pad_at h3)) (map_at.mpr (pad_at h4))
/-- the end of a def: its parameters as they stand -/
theorem FR.leave {vs : List V} {args : List Slot} {n : Nat} (f : FR Γ Z (vs.map some) (args.map some) H) {Z1 : Addr → Prop} (hZ : ∀ a, Z1 a → Z a ∨ H a = none ∨ roots (vs.map some ++ List.replicate n none) ((maskF fx 0 args).map some ++ List.replicate n none) a) (f1 : FR Γ Z1 σ1 ρ1 H1) (s : Step (vs.map some ++ List.replicate n none) ((maskF fx 0 args).map some ++ List.replicate n none) H σ1 ρ1 H1) (x : Fx fx (vs.map some ++ List.replicate n none) σ1) :
    FR Γ Z1 (vs.map some) (outsF fx ρ1 0 args) H1 ∧ Step (vs.map some) (args.map some) H (vs.map some) (outsF fx ρ1 0 args) H1 ∧ ∀ a, roots (vs.map some) (outsF fx ρ1 0 args) a → roots σ1 ρ1 a := by
  obtain ⟨g, hg⟩ := f.enter (fx := fx) (n := n)
  have hlen : vs.length = args.length := by simpa using f.len
  have at_fx : ∀ (i : Nat) (t : Slot), (outsF fx ρ1 0 args)[i]? = some (some t) → (i ∈ fx ∧ ρ1[i]? = some (some t) ∧ ∃ v, vs[i]? = some v ∧ σ1[i]? = some (some v)) ∨ (i ∉ fx ∧ ∃ t', args[i]? = some t' ∧ t = (t'.1, false)) := fun i t h => by
    rw [outsF_at] at h
    cases e : args[i]? with
    | none => rw [e] at h; cases h
    | some t' =>
      rw [e] at h
      simp only [Option.map_some, Option.some.injEq, Nat.zero_add] at h
      by_cases hi : i ∈ fx
      · rw [if_pos hi] at h
        refine .inl ⟨hi, ?_, ?_⟩
        · cases q : ρ1[i]? with
          | none => rw [q] at h; cases h
          | some y => rw [q] at h; rw [← h]
        · have hv : i < vs.length := by rw [hlen]; exact lt_of_at e
          refine ⟨vs[i], List.getElem?_eq_getElem hv, ?_⟩
          rw [x i hi]
          exact pad_of (List.getElem?_eq_getElem hv)
      · rw [if_neg hi] at h
        exact .inr ⟨hi, t', rfl, (Option.some.inj h).symm⟩
  have hr : ∀ a, roots (vs.map some) (outsF fx ρ1 0 args) a → roots σ1 ρ1 a := fun a ⟨i, d, e1, e2⟩ => by
    rcases at_fx i _ e1 with ⟨_, q, v, q2, q3⟩ | ⟨_, t', _, q⟩
    · rw [map_at, q2] at e2
      cases e2
      exact ⟨i, d, q, q3⟩
    · cases q
  have ov : Ov (OA Z1 σ1 ρ1) (OA Z1 (vs.map some) (outsF fx ρ1 0 args)) H1 H1 := ⟨fun a o _ z => z.imp id (hr a), f1.mu, fun _ _ h _ => h⟩
  refine ⟨⟨by simp [outsF_len, hlen], fun a z => f1.mu a (z.imp id (hr a)), fun i d h => ?_, fun i d h => ?_, fun i j d e a h1 h2 h3 h4 => ?_, fun a z r => f1.dis a z (hr a r)⟩, ⟨fun a o h nr => s.keep a o h fun z => nr (hg a z), s.dom, fun a z => ?_⟩, hr⟩
  · rcases at_fx i _ h with ⟨_, q, v, q2, q3⟩ | ⟨hi, t', q, q2⟩
    · obtain ⟨v', e1, r⟩ := f1.sh i d q
      rw [q3] at e1
      cases e1
      exact ⟨v, map_at.mpr q2, r.to ov⟩
    · have hv : i < vs.length := by rw [hlen]; exact lt_of_at q
      have hm : ((maskF fx 0 args).map some ++ List.replicate n none)[i]? = some (some (d, false)) := by
        refine pad_of ?_
        rw [maskF_at, q]
        simp only [Option.map_some, Nat.zero_add, if_neg hi]
        rw [q2]
      obtain ⟨v, e1, r⟩ := g.sh i d hm
      refine ⟨v, map_at.mpr (pad_at e1), ?_⟩
      refine Rep.to ov (r.to ⟨fun a o ha z => ?_, g.mu, fun a o h n => s.keep a o h fun z => n (.inr z)⟩)
      rcases z with z | z
      · rcases hZ a z with z | z | z
        · exact .inl z
        · rw [ha] at z; cases z
        · exact .inr z
      · rcases s.new a z with z | z
        · exact .inr z
        · rw [ha] at z; cases z
  · rcases at_fx i _ h with ⟨_, q, v, q2, q3⟩ | ⟨_, t', _, q⟩
    · obtain ⟨v', e1, r⟩ := f1.ow i d q
      rw [q3] at e1
      cases e1
      obtain ⟨a, rfl, o, _⟩ := r.ref
      have e2 : (vs.map some)[i]? = some (some (V.ref a)) := map_at.mpr q2
      exact ⟨_, e2, r.to ov (.inr ⟨i, d, h, e2⟩) fun _ h => h⟩
    · cases q
  · rcases at_fx i _ h1 with ⟨_, q, v, q2, q3⟩ | ⟨_, t', _, q⟩
    · rcases at_fx j _ h2 with ⟨_, p, u, p2, p3⟩ | ⟨_, t', _, p⟩
      · rw [map_at, q2] at h3
        cases h3
        rw [map_at, p2] at h4
        cases h4
        exact f1.inj i j d e a q p q3 p3
      · cases p
    · cases q
  · rcases s.new a (hr a z) with q | q
    · exact .inl (hg a q)
    · exact .inr q
/-- a def's promise from its body's reading -/
theorem def_ok {N : List Str} {np : Nat} {t : TS} {m : CStm} {vs : List V} {Q : VK} {E : XK} (hb : SS Γ fx (fun cls d _ H => E cls d H) t m) (h : spD Γ (bodyF fx N.length m) np vs H Q E) :
    t { nx := fun _ H' => Q .non H', rt := Q } (L2.start N vs) H := by
  obtain ⟨hl, Z, args, f, k⟩ := h
  have hlen : vs.length = args.length := by simpa using f.len
  obtain ⟨g, hg⟩ := f.enter (fx := fx) (n := N.length - vs.length)
  unfold L2.start
  refine hb Z _ _ H _ g ?_
  unfold bodyF at k
  rw [← hlen] at k
  revert k
  cases m ((maskF fx 0 args).map some ++ List.replicate (N.length - vs.length) none) with
  | ok o ρ' =>
    cases o with
    | nx =>
      intro k σ1 H1 f1 s1 x1
      obtain ⟨f2, s2, _⟩ := f.leave (fun a z => .inl z) f1 s1 x1
      exact k .non H1 f2 s2 .non
    | bk => exact fun k => k.elim
    | ct => exact fun k => k.elim
    | rt s =>
      obtain ⟨d, b⟩ := s
      cases b with
      | false =>
        intro k v σ1 H1 f1 s1 x1 r
        obtain ⟨f2, s2, hr⟩ := f.leave (fun a z => .inl z) f1 s1 x1
        exact k v H1 f2 s2 (r.to ⟨fun a o _ z => z.imp id (hr a), f1.mu, fun _ _ h _ => h⟩)
      | true =>
        intro k a σ1 H1 f1 s1 x1 n q r
        obtain ⟨f2, s2, hr⟩ := f.leave (fun b z => by
          rcases z with z | z
          · exact .inl z
          · rw [z]; exact .inr q) f1 s1 x1
        exact k a H1 f2 s2 n (q.imp id (hg a)) (r.to ⟨fun b o _ z => z.imp id (hr b), f1.mu, fun _ _ h _ => h⟩ (.inl (.inr rfl)) fun _ h => h)
  | exc c fs ρ' =>
    intro k d σ1 H1 f1 s1 x1 r
    obtain ⟨f2, s2, hr⟩ := f.leave (fun a z => .inl z) f1 s1 x1
    refine k d H1 f2 s2 ?_
    cases d with
    | none => exact r
    | some dx =>
      obtain ⟨us, h1, h2, h3⟩ := r
      exact ⟨us, h1, h2, h3.to ⟨fun a o _ z => z.imp id (hr a), f1.mu, fun _ _ h _ => h⟩⟩
  | stuck => exact fun k => k.elim
/-! ### a call -/
def hasV : List Opd → Nat → Bool
  | [], _ => false
  | .v i :: os, j => decide (i = j) || hasV os j
  | .e _ :: os, j => hasV os j
def noDup : List Opd → Sl → Bool
  | [], _ => true
  | .v i :: os, ρ => (match ρ[i]? with
    | some (some (_, true)) => !hasV os i
    | _ => true) && noDup os ρ
  | .e _ :: os, ρ => noDup os ρ
def argS : List Opd → List (Option D) → Sl → Option (List Slot)
  | [], [], _ => some []
  | .v i :: os, none :: xs, ρ => match ρ[i]?, argS os xs ρ with
    | some (some s), some r => some (s :: r)
    | _, _ => none
  | .e _ :: os, some d :: xs, ρ => match argS os xs ρ with
    | some r => some ((d, false) :: r)
    | none => none
  | _, _, _ => none
def findA : List Opd → List (Option Slot) → Nat → Option (Option Slot)
  | .v i :: os, a :: as, j => if i = j then some a else findA os as j
  | .e _ :: os, _ :: as, j => findA os as j
  | _, _, _ => none
def updA (os : List Opd) (as : List (Option Slot)) (j : Nat) (s : Option Slot) : Option Slot := match s with
  | some (_, true) => (match findA os as j with
    | some a => a
    | none => s)
  | _ => s
def backF (os : List Opd) (as : List (Option Slot)) : Nat → Sl → Sl
  | _, [] => []
  | k, s :: r => updA os as k s :: backF os as (k + 1) r
def cCall (F : CFun) (os : List Opd) : CExp := fun ρ => (evO os ρ).bind fun xs ρ1 => match argS os xs ρ1, noDup os ρ1 with
  | some args, true => match F args with
    | .ok s as => .ok s (backF os as 0 ρ1)
    | .exc c fs as => .exc c fs (backF os as 0 ρ1)
    | .stuck => .stuck
  | _, _ => .stuck
theorem backF_len {os : List Opd} {as : List (Option Slot)} : ∀ (k : Nat) (l : Sl), (backF os as k l).length = l.length
  | _, [] => rfl
  | k, s :: r => by simp [backF, backF_len (k + 1) r]
theorem backF_at {os : List Opd} {as : List (Option Slot)} : ∀ (k : Nat) (l : Sl) (i : Nat), (backF os as k l)[i]? = (l[i]?).map fun s => updA os as (k + i) s
  | _, [], i => by simp [backF]
  | k, s :: r, 0 => by simp [backF]
  | k, s :: r, i + 1 => by
    have h := backF_at (os := os) (as := as) (k + 1) r i
    have e : k + 1 + i = k + (i + 1) := by omega
    rw [e] at h
    simpa [backF] using h
inductive AR (Γ : Gm) (Z : Addr → Prop) (σ : St) (ρ : Sl) (H : Hp) : List Opd → List V → List Slot → Prop
  | nil : AR Γ Z σ ρ H [] [] []
  | v {i : Nat} {v : V} {s : Slot} {os : List Opd} {vs : List V} {r : List Slot} : σ[i]? = some (some v) → ρ[i]? = some (some s) → AR Γ Z σ ρ H os vs r → AR Γ Z σ ρ H (.v i :: os) (v :: vs) (s :: r)
  | e {m : CExp} {d : D} {v : V} {os : List Opd} {vs : List V} {r : List Slot} : Rep Γ (OA Z σ ρ) H v d → AR Γ Z σ ρ H os vs r → AR Γ Z σ ρ H (.e m :: os) (v :: vs) ((d, false) :: r)
theorem OR.ar {os : List Opd} {xs : List (Option D)} {vs : List V} (h : OR Γ Z σ ρ H os xs vs) : ∀ {args : List Slot}, argS os xs ρ = some args → AR Γ Z σ ρ H os vs args := by
  induction h with
  | nil => intro args e; cases e; exact .nil
  | @v i v os xs vs hv _ ih =>
    intro args e
    unfold argS at e
    cases q : ρ[i]? with
    | none => rw [q] at e; cases e
    | some w =>
      cases w with
      | none => rw [q] at e; cases e
      | some sl =>
        rw [q] at e
        cases q2 : argS os xs ρ with
        | none => rw [q2] at e; cases e
        | some r =>
          rw [q2] at e
          cases e
          exact .v hv q (ih q2)
  | @e m d v os xs vs hr _ ih =>
    intro args e
    unfold argS at e
    cases q2 : argS os xs ρ with
    | none => rw [q2] at e; cases e
    | some r =>
      rw [q2] at e
      cases e
      exact .e hr (ih q2)
theorem AR.len {os : List Opd} {vs : List V} {args : List Slot} (h : AR Γ Z σ ρ H os vs args) : vs.length = args.length ∧ os.length = args.length := by
  induction h with
  | nil => exact ⟨rfl, rfl⟩
  | v _ _ _ ih => exact ⟨congrArg (· + 1) ih.1, congrArg (· + 1) ih.2⟩
  | e _ _ ih => exact ⟨congrArg (· + 1) ih.1, congrArg (· + 1) ih.2⟩
theorem AR.own {os : List Opd} {vs : List V} {args : List Slot} (h : AR Γ Z σ ρ H os vs args) : ∀ {k : Nat} {d : D}, args[k]? = some (d, true) → ∃ i v, os[k]? = some (.v i) ∧ ρ[i]? = some (some (d, true)) ∧ vs[k]? = some v ∧ σ[i]? = some (some v) := by
  induction h with
  | nil => intro k d e; cases k <;> cases e
  | @v i v s os vs r h1 h2 _ ih =>
    intro k d e
    cases k with
    | zero =>
      cases e
      exact ⟨i, v, rfl, h2, rfl, h1⟩
    | succ k => exact ih (k := k) e
  | @e m d' v os vs r hr _ ih =>
    intro k d e
    cases k with
    | zero => cases e
    | succ k => exact ih (k := k) e
theorem AR.sh (f : FR Γ Z σ ρ H) {os : List Opd} {vs : List V} {args : List Slot} (h : AR Γ Z σ ρ H os vs args) : ∀ {k : Nat} {d : D}, args[k]? = some (d, false) → ∃ v, vs[k]? = some v ∧ Rep Γ (OA Z σ ρ) H v d := by
  induction h with
  | nil => intro k d e; cases k <;> cases e
  | @v i v s os vs r h1 h2 _ ih =>
    intro k d e
    cases k with
    | zero =>
      cases e
      obtain ⟨v', e1, r⟩ := f.sh i d h2
      rw [h1] at e1
      cases e1
      exact ⟨v, rfl, r⟩
    | succ k => exact ih (k := k) e
  | @e m d' v os vs r hr _ ih =>
    intro k d e
    cases k with
    | zero => cases e; exact ⟨v, rfl, hr⟩
    | succ k => exact ih (k := k) e
theorem AR.pass {os : List Opd} {vs : List V} {args : List Slot} (h : AR Γ Z σ ρ H os vs args) : ∀ {j : Nat} {s : Slot}, hasV os j = true → ρ[j]? = some (some s) → ∃ (k : Nat) (v : V), os[k]? = some (Opd.v j) ∧ args[k]? = some s ∧ vs[k]? = some v ∧ σ[j]? = some (some v) := by
  induction h with
  | nil => intro j s e; cases e
  | @v i v s' os vs r h1 h2 _ ih =>
    intro j s e q
    by_cases hij : i = j
    · subst hij
      rw [h2] at q
      cases q
      exact ⟨0, v, rfl, rfl, rfl, h1⟩
    · have e2 : hasV os j = true := by
        unfold hasV at e
        simpa [hij] using e
      obtain ⟨k, v', a, b, c, d⟩ := ih e2 q
      exact ⟨k + 1, v', a, b, c, d⟩
  | @e m d' v os vs r hr _ ih =>
    intro j s e q
    obtain ⟨k, v', a, b, c, d⟩ := ih (show hasV os j = true from e) q
    exact ⟨k + 1, v', a, b, c, d⟩
theorem hasV_at : ∀ {os : List Opd} {k j : Nat}, os[k]? = some (.v j) → hasV os j = true
  | [], k, j, h => by cases k <;> cases h
  | .v i :: os, 0, j, h => by cases h; simp [hasV]
  | .e _ :: os, 0, j, h => by cases h
  | .v i :: os, k + 1, j, h => by
    have := hasV_at (os := os) (k := k) (j := j) h
    simp [hasV, this]
  | .e _ :: os, k + 1, j, h => hasV_at (os := os) (k := k) (j := j) h
theorem noDup_at : ∀ {os : List Opd} {k l j : Nat} {d : D}, noDup os ρ = true → os[k]? = some (.v j) → os[l]? = some (.v j) → ρ[j]? = some (some (d, true)) → k = l
  | [], k, l, j, d, _, h, _, _ => by cases k <;> cases h
  | o :: os, 0, 0, j, d, _, _, _, _ => rfl
  | .v i :: os, 0, l + 1, j, d, hn, h, h2, h3 => by
    cases h
    unfold noDup at hn
    rw [h3] at hn
    have := hasV_at (os := os) (k := l) h2
    simp [this] at hn
  | .e _ :: os, 0, l + 1, j, d, _, h, _, _ => by cases h
  | .v i :: os, k + 1, 0, j, d, hn, h, h2, h3 => by
    cases h2
    unfold noDup at hn
    rw [h3] at hn
    have := hasV_at (os := os) (k := k) h
    simp [this] at hn
  | .e _ :: os, k + 1, 0, j, d, _, _, h, _ => by cases h
  | .v i :: os, k + 1, l + 1, j, d, hn, h, h2, h3 => by
    unfold noDup at hn
    exact congrArg (· + 1) (noDup_at (os := os) (k := k) (l := l) (Bool.and_eq_true_iff.mp hn).2 h h2 h3)
  | .e _ :: os, k + 1, l + 1, j, d, hn, h, h2, h3 => congrArg (· + 1) (noDup_at (os := os) (k := k) (l := l) (show noDup os ρ = true from hn) h h2 h3)
theorem findA_at : ∀ {os : List Opd} {as : List (Option Slot)} {j : Nat} {a : Option Slot}, findA os as j = some a → ∃ k : Nat, os[k]? = some (Opd.v j) ∧ as[k]? = some a
  | [], _, _, _, h => by cases h
  | .v i :: os, [], _, _, h => by cases h
  | .e _ :: os, [], _, _, h => by cases h
  | .v i :: os, b :: as, j, a, h => by
    unfold findA at h
    by_cases e : i = j
    · rw [if_pos e] at h
      cases h
      subst e
      exact ⟨0, rfl, rfl⟩
    · rw [if_neg e] at h
      obtain ⟨k, h1, h2⟩ := findA_at (os := os) (as := as) h
      exact ⟨k + 1, h1, h2⟩
  | .e _ :: os, b :: as, j, a, h => by
    obtain ⟨k, h1, h2⟩ := findA_at (os := os) (as := as) (show findA os as j = some a from h)
    exact ⟨k + 1, h1, h2⟩
theorem findA_has : ∀ {os : List Opd} {as : List (Option Slot)} {j : Nat}, hasV os j = true → os.length = as.length → ∃ a, findA os as j = some a
  | [], _, _, h, _ => by cases h
  | .v i :: os, [], _, _, h => by cases h
  | .e _ :: os, [], _, _, h => by cases h
  | .v i :: os, b :: as, j, h, hl => by
    unfold findA
    by_cases e : i = j
    · exact ⟨b, by rw [if_pos e]⟩
    · rw [if_neg e]
      exact findA_has (os := os) (as := as) (by unfold hasV at h; simpa [e] using h) (by simpa using hl)
  | .e _ :: os, b :: as, j, h, hl => findA_has (os := os) (as := as) (show hasV os j = true from h) (by simpa using hl)
def Psd (os : List Opd) (σ : St) (ρ : Sl) (a : Addr) : Prop := ∃ j d, hasV os j = true ∧ ρ[j]? = some (some (d, true)) ∧ σ[j]? = some (some (V.ref a))
def Zc (Z : Addr → Prop) (os : List Opd) (σ : St) (ρ : Sl) (a : Addr) : Prop := OA Z σ ρ a ∧ ¬ Psd os σ ρ a
theorem AR.roots {os : List Opd} {vs : List V} {args : List Slot} (h : AR Γ Z σ ρ H os vs args) (a : Addr) : VS.roots (vs.map some) (args.map some) a ↔ Psd os σ ρ a := by
  constructor
  · rintro ⟨k, d, e1, e2⟩
    rw [map_at] at e1 e2
    obtain ⟨i, v, q1, q2, q3, q4⟩ := h.own e1
    rw [e2] at q3
    cases q3
    exact ⟨i, d, hasV_at q1, q2, q4⟩
  · rintro ⟨j, d, q1, q2, q3⟩
    obtain ⟨k, v, p1, p2, p3, p4⟩ := h.pass q1 q2
    rw [q3] at p4
    cases p4
    exact ⟨k, d, map_at.mpr p2, map_at.mpr p3⟩
theorem AR.oa {os : List Opd} {vs : List V} {args : List Slot} (h : AR Γ Z σ ρ H os vs args) : OA (Zc Z os σ ρ) (vs.map some) (args.map some) = OA Z σ ρ := by
  funext a
  refine propext ⟨fun z => ?_, fun z => ?_⟩
  · rcases z with z | z
    · exact z.1
    · obtain ⟨j, d, _, q2, q3⟩ := (h.roots a).mp z
      exact .inr ⟨j, d, q2, q3⟩
  · by_cases p : Psd os σ ρ a
    · exact .inr ((h.roots a).mpr p)
    · exact .inl ⟨z, p⟩
theorem AR.fr (f : FR Γ Z σ ρ H) {os : List Opd} {vs : List V} {args : List Slot} (h : AR Γ Z σ ρ H os vs args) (hn : noDup os ρ = true) : FR Γ (Zc Z os σ ρ) (vs.map some) (args.map some) H := by
  refine ⟨by simp [h.len.1], ?_, fun k d e => ?_, fun k d e => ?_, fun k l d e a h1 h2 h3 h4 => ?_, fun a z r => z.2 ((h.roots a).mp r)⟩
  · rw [h.oa]; exact f.mu
  · rw [h.oa]
    obtain ⟨v, q, r⟩ := h.sh f (map_at.mp e)
    exact ⟨v, map_at.mpr q, r⟩
  · rw [h.oa]
    obtain ⟨i, v, q1, q2, q3, q4⟩ := h.own (map_at.mp e)
    obtain ⟨v', p1, p2⟩ := f.ow i d q2
    rw [q4] at p1
    cases p1
    exact ⟨v, map_at.mpr q3, p2⟩
  · obtain ⟨i, v, q1, q2, q3, q4⟩ := h.own (map_at.mp h1)
    obtain ⟨j, u, p1, p2, p3, p4⟩ := h.own (map_at.mp h2)
    rw [map_at.mp h3] at q3
    cases q3
    rw [map_at.mp h4] at p3
    cases p3
    have eij := f.inj i j d e a q2 p2 q4 p4
    subst eij
    exact noDup_at hn q1 p1 q2
theorem AR.same {os : List Opd} {vs : List V} {args : List Slot} (h : AR Γ Z σ ρ H os vs args) : ∀ {k j : Nat}, os[k]? = some (Opd.v j) → ∃ v, vs[k]? = some v ∧ σ[j]? = some (some v) := by
  induction h with
  | nil => intro k j q; cases k <;> cases q
  | @v i v s os vs r h1 h2 _ ih =>
    intro k j q
    cases k with
    | zero => cases q; exact ⟨v, rfl, h1⟩
    | succ k => exact ih (k := k) q
  | @e m d' v os vs r hr _ ih =>
    intro k j q
    cases k with
    | zero => cases q
    | succ k => exact ih (k := k) q
/-- behind the call -/
theorem AR.after {H' : Hp} (f : FR Γ Z σ ρ H) {os : List Opd} {vs : List V} {args : List Slot} {as : List (Option Slot)} (h : AR Γ Z σ ρ H os vs args) {X : Addr → Prop} (fc : FR Γ (fun b => Zc Z os σ ρ b ∨ X b) (vs.map some) as H')
    (st : Step (vs.map some) (args.map some) H (vs.map some) as H') (hX : ∀ b, X b → H b = none ∨ VS.roots (vs.map some) (args.map some) b) (hX2 : ∀ b, X b → ¬ Zc Z os σ ρ b) :
    FR Γ (fun b => Z b ∨ X b) σ (backF os as 0 ρ) H' ∧ Step σ ρ H σ (backF os as 0 ρ) H' ∧ ∀ b, OA (fun b => Z b ∨ X b) σ (backF os as 0 ρ) b → OA (fun b => Zc Z os σ ρ b ∨ X b) (vs.map some) as b := by
  have hla : os.length = as.length := by
    have q := fc.len
    have q2 := h.len
    simp only [List.length_map] at q
    omega
  -- a slot behind the call: as it was (not passed), or what came back
  have at2 : ∀ (j : Nat) (s : Slot), (backF os as 0 ρ)[j]? = some (some s) → (ρ[j]? = some (some s) ∧ (s.2 = true → hasV os j = false)) ∨ (∃ d k v, ρ[j]? = some (some (d, true)) ∧ hasV os j = true ∧ as[k]? = some (some s) ∧ vs[k]? = some v ∧ σ[j]? = some (some v)) := fun j s e => by
    rw [backF_at, Nat.zero_add] at e
    cases q : ρ[j]? with
    | none => rw [q] at e; cases e
    | some w =>
      rw [q] at e
      simp only [Option.map_some, Option.some.injEq] at e
      cases w with
      | none => cases e
      | some t =>
        obtain ⟨d, b⟩ := t
        cases b with
        | false =>
          cases e
          exact .inl ⟨rfl, fun z => by cases z⟩
        | true =>
          cases hh : hasV os j with
          | false =>
            have nf : findA os as j = none := by
              cases q3 : findA os as j with
              | none => rfl
              | some a =>
                obtain ⟨k, q4, _⟩ := findA_at q3
                rw [hasV_at q4] at hh
                cases hh
            unfold updA at e
            rw [nf] at e
            cases e
            exact .inl ⟨rfl, fun _ => rfl⟩
          | true =>
            obtain ⟨a, q3⟩ := findA_has (as := as) hh hla
            unfold updA at e
            rw [q3] at e
            simp only at e
            subst e
            obtain ⟨k, q4, q5⟩ := findA_at q3
            have hk : k < args.length := by rw [← h.len.2]; exact lt_of_at q4
            obtain ⟨k', v', p1, p2, p3, p4⟩ := h.pass hh q
            -- the place k holds the same name
            have hv : k < vs.length := by rw [h.len.1]; exact hk
            have same := h.same q4
            obtain ⟨v, e1, e2⟩ := same
            exact .inr ⟨d, k, v, rfl, rfl, q5, e1, e2⟩
  have own2 : ∀ (j : Nat) (d : D), (backF os as 0 ρ)[j]? = some (some (d, true)) → ∃ d', ρ[j]? = some (some (d', true)) := fun j d e => by
    rcases at2 j _ e with ⟨q, _⟩ | ⟨d', k, v, q, _⟩
    · exact ⟨d, q⟩
    · exact ⟨d', q⟩
  have rt2 : ∀ b, VS.roots σ (backF os as 0 ρ) b → VS.roots σ ρ b := fun b ⟨j, d, e1, e2⟩ => by
    obtain ⟨d', q⟩ := own2 j d e1
    exact ⟨j, d', q, e2⟩
  have rt3 : ∀ b, VS.roots σ (backF os as 0 ρ) b → Zc Z os σ ρ b ∨ VS.roots (vs.map some) as b := fun b ⟨j, d, e1, e2⟩ => by
    rcases at2 j _ e1 with ⟨q, nv⟩ | ⟨d', k, v, q, _, q2, q3, q4⟩
    · refine .inl ⟨.inr ⟨j, d, q, e2⟩, ?_⟩
      rintro ⟨j', d', p1, p2, p3⟩
      have ej := f.inj j j' d d' b q p2 e2 p3
      subst ej
      rw [nv rfl] at p1
      cases p1
    · rw [e2] at q4
      cases q4
      exact .inr ⟨k, d, q2, map_at.mpr q3⟩
  have sub : ∀ b, OA (fun b => Z b ∨ X b) σ (backF os as 0 ρ) b → OA (fun b => Zc Z os σ ρ b ∨ X b) (vs.map some) as b := fun b z => by
    rcases z with (z | z) | z
    · refine .inl (.inl ⟨.inl z, ?_⟩)
      rintro ⟨j, d, _, q2, q3⟩
      exact f.dis b z ⟨j, d, q2, q3⟩
    · exact .inl (.inr z)
    · rcases rt3 b z with q | q
      · exact .inl (.inl q)
      · exact .inr q
  have ov1 : Ov (OA Z σ ρ) (OA (fun b => Z b ∨ X b) σ (backF os as 0 ρ)) H H' := ⟨fun b o hb z => by
    rcases z with (z | z) | z
    · exact .inl z
    · rcases hX b z with q | q
      · rw [hb] at q; cases q
      · obtain ⟨j, d, _, q2, q3⟩ := (h.roots b).mp q
        exact .inr ⟨j, d, q2, q3⟩
    · exact .inr (rt2 b z), f.mu, fun b o hb n => st.keep b o hb fun z => by
      obtain ⟨j, d, _, q2, q3⟩ := (h.roots b).mp z
      exact n (.inr ⟨j, d, q2, q3⟩)⟩
  have ov2 : Ov (OA (fun b => Zc Z os σ ρ b ∨ X b) (vs.map some) as) (OA (fun b => Z b ∨ X b) σ (backF os as 0 ρ)) H' H' := ⟨fun b o _ z => sub b z, fc.mu, fun _ _ h _ => h⟩
  refine ⟨⟨by rw [backF_len]; exact f.len, fun b z => fc.mu b (sub b z), fun j d e => ?_, fun j d e => ?_, fun i j d e a h1 h2 h3 h4 => ?_, fun b z r => ?_⟩, ⟨fun b o hb n => st.keep b o hb fun z => ?_, st.dom, fun b z => .inl (rt2 b z)⟩, sub⟩
  · rcases at2 j _ e with ⟨q, _⟩ | ⟨d', k, v, q, _, q2, q3, q4⟩
    · obtain ⟨v, e1, r⟩ := f.sh j d q
      exact ⟨v, e1, r.to ov1⟩
    · obtain ⟨v', e1, r⟩ := fc.sh k d q2
      rw [map_at.mpr q3] at e1
      cases e1
      exact ⟨v, q4, r.to ov2⟩
  · rcases at2 j _ e with ⟨q, nv⟩ | ⟨d', k, v, q, _, q2, q3, q4⟩
    · obtain ⟨v, e1, r⟩ := f.ow j d q
      obtain ⟨a, rfl, o, _⟩ := r.ref
      refine ⟨_, e1, r.to ov1 (.inr ⟨j, d, e, e1⟩) fun u hu => st.keep a u hu fun z => ?_⟩
      obtain ⟨j', d', p1, p2, p3⟩ := (h.roots a).mp z
      have ej := f.inj j j' d d' a q p2 e1 p3
      subst ej
      rw [nv rfl] at p1
      cases p1
    · obtain ⟨v', e1, r⟩ := fc.ow k d q2
      rw [map_at.mpr q3] at e1
      cases e1
      obtain ⟨a, rfl, o, _⟩ := r.ref
      exact ⟨_, q4, r.to ov2 (.inr ⟨j, d, e, q4⟩) fun _ h => h⟩
  · obtain ⟨d1, q1⟩ := own2 i d h1
    obtain ⟨d2, q2⟩ := own2 j e h2
    exact f.inj i j d1 d2 a q1 q2 h3 h4
  · rcases z with z | z
    · exact f.dis b z (rt2 b r)
    · rcases rt3 b r with q | q
      · exact hX2 b z q
      · exact fc.dis b (.inr z) q
  · obtain ⟨j, d, _, q2, q3⟩ := (h.roots b).mp z
    exact n ⟨j, d, q2, q3⟩
theorem zfalse {P : Addr → Prop} : (fun b => P b ∨ False) = P := by
  funext b
  exact propext ⟨fun z => z.elim id False.elim, .inl⟩
theorem SE.call {F : CFun} {np : Nat} {ta : TA} {os : List Opd} (ha : SA Γ W ta os) (hn : os.length = np) : SE Γ W (tCallS (spD Γ F np) (WE W) ta) (cCall F os) := by
  intro Z σ ρ H Q f k
  refine ha.run f ?_
  unfold cCall at k
  revert k
  cases evO os ρ with
  | exc c fs ρ' => exact fun k => k
  | stuck => exact fun k => k
  | ok xs ρ1 =>
    intro k vs H1 f1 s1 o
    simp only [Res.bind_ok] at k
    cases q1 : argS os xs ρ1 with
    | none => rw [q1] at k; exact k.elim
    | some args =>
      cases q2 : noDup os ρ1 with
      | false => rw [q1, q2] at k; exact k.elim
      | true =>
        rw [q1, q2] at k
        have h := o.ar q1
        refine ⟨by rw [h.len.1, ← h.len.2]; exact hn, Zc Z os σ ρ1, args, h.fr f1 q2, ?_⟩
        simp only at k
        revert k
        cases F args with
        | stuck => exact fun k => k
        | ok s as =>
          obtain ⟨d, b⟩ := s
          cases b with
          | false =>
            intro k v H' fc st r
            obtain ⟨f2, s2, sub⟩ := h.after f1 (X := fun _ => False) (fc.zdrop fun a z => z.elim id False.elim) st (fun b z => z.elim) (fun b z => z.elim)
            rw [zfalse] at f2
            refine k v H' f2 (s1.trans s2) (r.to ⟨fun b o _ z => ?_, fc.mu, fun _ _ h _ => h⟩)
            have z2 := sub b (z.imp (fun y => .inl y) id)
            exact z2.imp (fun y => y.elim id False.elim) id
          | true =>
            intro k a H' fc st n q r
            obtain ⟨f2, s2, sub⟩ := h.after f1 (X := fun b => b = a) fc st (fun b z => by rw [z]; exact q) (fun b z => by rw [z]; exact n)
            refine k a H' f2 (s1.trans s2) (fun z => ?_) (s1.root (q.imp id fun z => ?_)) (r.to ⟨fun b o _ z => sub b z, fc.mu, fun _ _ h _ => h⟩ (.inl (.inr rfl)) fun _ h => h)
            · refine n ⟨.inl z, ?_⟩
              rintro ⟨j, d, _, q2, q3⟩
              exact f1.dis a z ⟨j, d, q2, q3⟩
            · obtain ⟨j, d, _, q2, q3⟩ := (h.roots a).mp z
              exact ⟨j, d, q2, q3⟩
        | exc c fs as =>
          intro k d H' fc st r
          obtain ⟨f2, s2, sub⟩ := h.after f1 (X := fun _ => False) (fc.zdrop fun a z => z.elim id False.elim) st (fun b z => z.elim) (fun b z => z.elim)
          rw [zfalse] at f2
          refine k d H' f2 (s1.trans s2) ?_
          cases d with
          | none => exact r
          | some dx =>
            obtain ⟨us, h1, h2, h3⟩ := r
            refine ⟨us, h1, h2, h3.to ⟨fun b o _ z => ?_, fc.mu, fun _ _ h _ => h⟩⟩
            have z2 := sub b (z.imp (fun y => .inl y) id)
            exact z2.imp (fun y => y.elim id False.elim) id
end
end VS

namespace VS
open PySem L2
section
variable {Γ : Gm} {W : WX} {O : Addr → Prop} {H : Hp} {v : V}
theorem Bor.non_inv (h : Bor Γ O H v .non) : v = .non := by cases h with | rep h => cases h; rfl | own h => cases h
theorem Bor.bl_inv {b : Bool} (h : Bor Γ O H v (.bl b)) : v = .bl b := by cases h with | rep h => cases h; rfl | own h => cases h
theorem Bor.int_inv {i : Int} (h : Bor Γ O H v (.int i)) : v = .int i := by cases h with | rep h => cases h; rfl | own h => cases h
theorem Bor.str_inv {x : Str} (h : Bor Γ O H v (.str x)) : v = .str x ∧ PyData.strOk x = true := by
  cases h with
  | rep h => cases h with | str _ q => exact ⟨rfl, q⟩
  | own h => cases h
theorem Bor.ty_inv {x : String} (h : Bor Γ O H v (.ty x)) : v = .ty x := by cases h with | rep h => cases h; rfl | own h => cases h
theorem Bor.tup_inv {ds : List D} (h : Bor Γ O H v (.tup ds)) : ∃ a vs, v = .ref a ∧ H a = some (.tup vs) ∧ Reps Γ O H vs ds := by
  cases h with
  | rep h => cases h with | tup h r => exact ⟨_, _, rfl, h, r⟩
  | own h => cases h
theorem Bor.ktup_inv {ds : List D} (h : Bor Γ O H v (.ktup ds)) : ∃ a vs, v = .ref a ∧ KT Γ.K a vs ∧ Reps Γ O H vs ds := by
  cases h with
  | rep h => cases h with | ktup h r => exact ⟨_, _, rfl, h, r⟩
  | own h => cases h
theorem Bor.scr_inv {ns : List Int} (h : Bor Γ O H v (.scr ns)) : ∃ a, v = .ref a ∧ Scr Γ.K H a ns := by
  cases h with
  | rep h => cases h with | scr h => exact ⟨_, rfl, h⟩
  | own h => cases h
theorem Bor.lst_inv {ds : List D} (h : Bor Γ O H v (.lst ds)) : ∃ a vs, v = .ref a ∧ H a = some (.lst vs) ∧ Reps Γ O H vs ds := by
  cases h with
  | rep h => cases h with | lst h _ r => exact ⟨_, _, rfl, h, r⟩
  | own h => cases h with | lst h _ r => exact ⟨_, _, rfl, h, r⟩
theorem Bor.dK_inv {ds : List (Key × D)} (h : Bor Γ O H v (.dK ds)) : ∃ a kvs, v = .ref a ∧ H a = some (.dK kvs) ∧ (kvs.map (·.1) = ds.map (·.1) ∧ ksOk ds = true) ∧ Reps Γ O H (kvs.map (·.2)) (ds.map (·.2)) := by
  cases h with
  | rep h => cases h with | dK h _ k r => exact ⟨_, _, rfl, h, k, r⟩
  | own h => cases h with | dK h _ k r => exact ⟨_, _, rfl, h, k, r⟩
theorem Bor.dT_inv {ds : List (List Key × D)} (h : Bor Γ O H v (.dT ds)) : ∃ a kvs, v = .ref a ∧ H a = some (.dT kvs) ∧ (kvs.map (·.1) = ds.map (·.1) ∧ ktOk ds = true) ∧ Reps Γ O H (kvs.map (·.2)) (ds.map (·.2)) := by
  cases h with
  | rep h => cases h with | dT h _ k r => exact ⟨_, _, rfl, h, k, r⟩
  | own h => cases h with | dT h _ k r => exact ⟨_, _, rfl, h, k, r⟩
theorem Bor.obj_inv {c : Nat} {ds : List (Str × D)} (h : Bor Γ O H v (.obj c ds)) : ∃ a dx fs, v = .ref a ∧ H a = some (.ins (Γ.ct c) dx fs) ∧ fs.map (·.1) = ds.map (·.1) ∧ Reps Γ O H (fs.map (·.2)) (ds.map (·.2)) := by
  cases h with
  | rep h => cases h with | obj h _ k r => exact ⟨_, _, _, rfl, h, k, r⟩
  | own h => cases h with | obj h _ k r => exact ⟨_, _, _, rfl, h, k, r⟩
theorem bors1 {vs : List V} {d : D} (h : Bors Γ O H vs [d]) : ∃ v, vs = [v] ∧ Bor Γ O H v d := by cases h with | cons h t => cases t; exact ⟨_, rfl, h⟩
theorem bors2 {vs : List V} {d e : D} (h : Bors Γ O H vs [d, e]) : ∃ v w, vs = [v, w] ∧ Bor Γ O H v d ∧ Bor Γ O H w e := by cases h with | cons h t => cases t with | cons h2 t => cases t; exact ⟨_, _, rfl, h, h2⟩
theorem bors3 {vs : List V} {d e g : D} (h : Bors Γ O H vs [d, e, g]) : ∃ v w u, vs = [v, w, u] ∧ Bor Γ O H v d ∧ Bor Γ O H w e ∧ Bor Γ O H u g := by cases h with | cons h t => cases t with | cons h2 t => cases t with | cons h3 t => cases t; exact ⟨_, _, _, rfl, h, h2, h3⟩
theorem Reps.get : ∀ {vs : List V} {ds : List D} {i : Nat} {d : D}, Reps Γ O H vs ds → ds[i]? = some d → ∃ v, vs[i]? = some v ∧ Rep Γ O H v d
  | _, _, _, _, .nil, e => by simp at e
  | _, _, 0, _, .cons r _, e => by simp at e; subst e; exact ⟨_, rfl, r⟩
  | _, _, i + 1, d, .cons _ t, e => by
    obtain ⟨u, h1, h2⟩ := Reps.get (i := i) (d := d) t (by simpa using e)
    exact ⟨u, by simpa using h1, h2⟩
theorem Reps.append : ∀ {vs ws : List V} {ds es : List D}, Reps Γ O H vs ds → Reps Γ O H ws es → Reps Γ O H (vs ++ ws) (ds ++ es)
  | _, _, _, _, .nil, s => s
  | _, _, _, _, .cons r t, s => .cons r (Reps.append t s)
theorem Reps.take : ∀ {vs : List V} {ds : List D} (n : Nat), Reps Γ O H vs ds → Reps Γ O H (vs.take n) (ds.take n)
  | _, _, 0, _ => .nil
  | _, _, _ + 1, .nil => .nil
  | _, _, n + 1, .cons r t => .cons r (Reps.take n t)
theorem Reps.drop : ∀ {vs : List V} {ds : List D} (n : Nat), Reps Γ O H vs ds → Reps Γ O H (vs.drop n) (ds.drop n)
  | _, _, 0, r => r
  | _, _, _ + 1, .nil => .nil
  | _, _, n + 1, .cons _ t => Reps.drop n t
theorem Reps.set {v : V} {d : D} (r : Rep Γ O H v d) : ∀ {vs : List V} {ds : List D} (i : Nat), Reps Γ O H vs ds → Reps Γ O H (vs.set i v) (ds.set i d)
  | _, _, _, .nil => .nil
  | _, _, 0, .cons _ t => .cons r t
  | _, _, i + 1, .cons q t => .cons q (Reps.set r i t)
theorem Reps.rev : ∀ {vs : List V} {ds : List D}, Reps Γ O H vs ds → Reps Γ O H vs.reverse ds.reverse
  | _, _, .nil => .nil
  | _, _, .cons r t => by
    rw [List.reverse_cons, List.reverse_cons]
    exact (Reps.rev t).append (.cons r .nil)
theorem Reps.dropLast : ∀ {vs : List V} {ds : List D}, Reps Γ O H vs ds → Reps Γ O H vs.dropLast ds.dropLast
  | _, _, .nil => .nil
  | _, _, .cons r .nil => .nil
  | _, _, .cons r (.cons q t) => .cons r (Reps.dropLast (.cons q t))
/-- a value over the grown heap -/
theorem Reps.ext {vs : List V} {ds : List D} {H' : Hp} (r : Reps Γ O H vs ds) (m : ∀ a, O a → Mut (H a)) (e : Ext H H') : Reps Γ O H' vs ds := r.to (e.ov m)
/-- .. avoiding the new root -/
theorem Reps.fresh {vs : List V} {ds : List D} {H' : Hp} {p : Addr} (r : Reps Γ O H vs ds) (m : ∀ a, O a → Mut (H a)) (e : Ext H H') (hp : H p = none) : Reps Γ (fun b => O b ∨ b = p) H' vs ds := r.to ⟨fun a o h z => by
  rcases z with z | z
  · exact z
  · rw [z, hp] at h; exact (nomatch h), m, fun a o h _ => e.ex a o h⟩
/-- a new list, a new tuple -/
theorem new_lst {vs : List V} {ds : List D} {Q : VK} (m : ∀ a, O a → Mut (H a)) (r : Reps Γ O H vs ds) (k : PEnd Γ O H (.lst ds, true) Q) (p : Addr) (hp : H p = none) : Q (.ref p) (upd H p (.lst vs)) :=
  k p _ hp (Ext.new hp) (.lst upd_same (.inr rfl) (r.fresh m (Ext.new hp) hp))
theorem new_tup {vs : List V} {ds : List D} {Q : VK} (m : ∀ a, O a → Mut (H a)) (r : Reps Γ O H vs ds) (k : PEnd Γ O H (.tup ds, false) Q) (p : Addr) (hp : H p = none) : Q (.ref p) (upd H p (.tup vs)) :=
  k (.ref p) _ (Ext.new hp) (.tup upd_same (r.ext m (Ext.new hp)))
theorem Bor.sq {ds : List D} (h : Bor Γ O H v (.lst ds)) : ∃ a vs, v = .ref a ∧ SqL Γ.K H a vs ∧ Reps Γ O H vs ds := by
  obtain ⟨a, vs, e, h, r⟩ := h.lst_inv
  exact ⟨a, vs, e, SqL.of h, r⟩
theorem ints_reps : ∀ ns : List Int, Reps Γ O H (ns.map V.int) (ns.map D.int)
  | [] => .nil
  | n :: r => .cons (.int n) (ints_reps r)

/-! ### arithmetic -/
def pAdd : List D → Option Slot
  | [.int i, .int j] => some (.int (i + j), false)
  | [.str x, .str y] => if x.length + y.length ≤ sizeLine then some (.str (x ++ y), false) else none
  | [.lst xs, .lst ys] => if xs.length + ys.length ≤ sizeLine then some (.lst (xs ++ ys), true) else none
  | [.tup xs, .tup ys] => if xs.length + ys.length ≤ sizeLine then some (.tup (xs ++ ys), false) else none
  | _ => none
def rAdd (K : PySem.W.Frag) : R2 := fun x y H Q => rI0 (fun i j => .int (i + j)) x y H Q ∨ (∃ i j, x = .str i ∧ y = .str j ∧ i.length + j.length ≤ sizeLine ∧ Q (.str (i ++ j)) H) ∨ rCat x y H Q ∨ rCatA K x y H Q
theorem opAdd {X : Cx} : OpR X (binaryOp .Add) (rAdd X.K) := op_add.or (op_add_str.or (op_cat.or op_catA))
theorem strOk_append {x y : Str} (hx : PyData.strOk x = true) (hy : PyData.strOk y = true) : PyData.strOk (x ++ y) = true := by
  unfold PyData.strOk at *
  have e : (x ++ y).cps = x.cps ++ y.cps := rfl
  rw [e]
  simp only [Array.all_append, hx, hy, Bool.and_self]
theorem prAdd : PrimR Γ (r2l (rAdd Γ.K)) pAdd := by
  intro O H vs ds s Q m b e k
  match ds, e with
  | [.int i, .int j], e =>
    obtain ⟨v, w, rfl, h1, h2⟩ := bors2 b
    cases e
    rw [h1.int_inv, h2.int_inv]
    exact .inl ⟨i, j, rfl, rfl, k _ H (Ext.refl H) (.int _)⟩
  | [.str x, .str y], e =>
    obtain ⟨v, w, rfl, h1, h2⟩ := bors2 b
    simp only [pAdd] at e
    split at e
    · cases e
      rename_i hz
      rw [h1.str_inv.1, h2.str_inv.1]
      exact .inr (.inl ⟨x, y, rfl, rfl, hz, k _ H (Ext.refl H) (.str _ (strOk_append h1.str_inv.2 h2.str_inv.2))⟩)
    · cases e
  | [.lst xs, .lst ys], e =>
    obtain ⟨v, w, rfl, h1, h2⟩ := bors2 b
    simp only [pAdd] at e
    split at e
    · cases e
      rename_i hz
      obtain ⟨a, us, rfl, ha, ra⟩ := h1.lst_inv
      obtain ⟨c, ws, rfl, hc, rc⟩ := h2.lst_inv
      exact .inr (.inr (.inl ⟨a, c, us, ws, rfl, rfl, ha, hc, by rw [ra.length, rc.length]; exact hz, fun p hp => new_lst m (ra.append rc) k p hp⟩))
    · cases e
  | [.tup xs, .tup ys], e =>
    obtain ⟨v, w, rfl, h1, h2⟩ := bors2 b
    simp only [pAdd] at e
    split at e
    · cases e
      rename_i hz
      obtain ⟨a, us, rfl, ha, ra⟩ := h1.tup_inv
      obtain ⟨c, ws, rfl, hc, rc⟩ := h2.tup_inv
      have rr := ra.append rc
      refine .inr (.inr (.inr ⟨a, c, us, ws, rfl, rfl, SqT.of ha, SqT.of hc, by rw [ra.length, rc.length]; exact hz, fun e => ?_, fun _ e => ?_, fun _ _ p hp => new_tup m rr k p hp⟩))
      · subst e
        exact k _ H (Ext.refl H) (.tup hc rr)
      · subst e
        rw [List.append_nil] at rr
        exact k _ H (Ext.refl H) (.tup ha rr)
    · cases e
def pI2 (c : Int → Int → Bool) (g : Int → Int → D) : List D → Option Slot
  | [.int i, .int j] => if c i j = true then some (g i j, false) else none
  | _ => none
theorem prI {C : Int → Int → Prop} {c : Int → Int → Bool} {g : Int → Int → V} {g' : Int → Int → D} (hc : ∀ i j, c i j = true → C i j) (hg : ∀ i j O H, Rep Γ O H (g i j) (g' i j)) : PrimR Γ (r2l (rI C g)) (pI2 c g') := by
  intro O H vs ds s Q m b e k
  match ds, e with
  | [.int i, .int j], e =>
    obtain ⟨v, w, rfl, h1, h2⟩ := bors2 b
    simp only [pI2] at e
    split at e
    · cases e
      rename_i hz
      rw [h1.int_inv, h2.int_inv]
      exact ⟨i, j, rfl, rfl, hc i j hz, k _ H (Ext.refl H) (hg i j _ _)⟩
    · cases e
def pI0 (g : Int → Int → D) : List D → Option Slot
  | [.int i, .int j] => some (g i j, false)
  | _ => none
theorem prI0 {g : Int → Int → V} {g' : Int → Int → D} (hg : ∀ i j O H, Rep Γ O H (g i j) (g' i j)) : PrimR Γ (r2l (rI0 g)) (pI0 g') := by
  intro O H vs ds s Q m b e k
  match ds, e with
  | [.int i, .int j], e =>
    obtain ⟨v, w, rfl, h1, h2⟩ := bors2 b
    cases e
    rw [h1.int_inv, h2.int_inv]
    exact ⟨i, j, rfl, rfl, k _ H (Ext.refl H) (hg i j _ _)⟩
def pSub := pI0 fun i j => .int (i - j)
theorem prSub : PrimR Γ (r2l (rI0 fun i j => .int (i - j))) pSub := prI0 fun _ _ _ _ => .int _
def cMulB (i j : Int) : Bool := decide (i.natAbs < 2 ^ 64) || decide (j.natAbs < 2 ^ 64)
def pMul := pI2 cMulB fun i j => .int (i * j)
theorem prMul : PrimR Γ (r2l (rI CMul fun i j => .int (i * j))) pMul := prI (fun i j h => by
  unfold cMulB at h
  unfold CMul
  simp only [Bool.or_eq_true, decide_eq_true_eq] at h
  omega) fun _ _ _ _ => .int _
def cDivB (i j : Int) : Bool := decide (0 < j) && decide (j.natAbs < 1073741824)
def pDiv := pI2 cDivB fun i j => .int (i / j)
theorem prDiv : PrimR Γ (r2l (rI CDiv fun i j => .int (i / j))) pDiv := prI (fun i j h => by
  unfold cDivB at h
  unfold CDiv
  simp only [Bool.and_eq_true, decide_eq_true_eq] at h
  omega) fun _ _ _ _ => .int _
def cModB (i j : Int) : Bool := decide (0 < j)
def pMod := pI2 cModB fun i j => .int (i % j)
theorem prMod : PrimR Γ (r2l (rI (fun _ j => 0 < j) fun i j => .int (i % j))) pMod := prI (fun i j h => of_decide_eq_true h) fun _ _ _ _ => .int _
def cPowB (i j : Int) : Bool := decide (0 ≤ j) && decide (j.natAbs ≤ 1000000) && decide (i.natAbs < 2 ^ 64)
def pPow := pI2 cPowB fun i j => .int (i ^ j.toNat)
theorem prPow : PrimR Γ (r2l (rI CPow fun i j => .int (i ^ j.toNat))) pPow := prI (fun i j h => by
  unfold cPowB at h
  unfold CPow
  simp only [Bool.and_eq_true, decide_eq_true_eq] at h
  omega) fun _ _ _ _ => .int _
def pLt := pI0 fun i j => .bl (decide (i < j))
def pLe := pI0 fun i j => .bl (decide (i ≤ j))
def pGt := pI0 fun i j => .bl (decide (j < i))
def pGe := pI0 fun i j => .bl (decide (j ≤ i))
theorem prLt : PrimR Γ (r2l (rI0 fun i j => .bl (decide (i < j)))) pLt := prI0 fun _ _ _ _ => .bl _
theorem prLe : PrimR Γ (r2l (rI0 fun i j => .bl (decide (i ≤ j)))) pLe := prI0 fun _ _ _ _ => .bl _
theorem prGt : PrimR Γ (r2l (rI0 fun i j => .bl (decide (j < i)))) pGt := prI0 fun _ _ _ _ => .bl _
theorem prGe : PrimR Γ (r2l (rI0 fun i j => .bl (decide (j ≤ i)))) pGe := prI0 fun _ _ _ _ => .bl _
def pNeg : List D → Option Slot
  | [.int i] => some (.int (-i), false)
  | _ => none
theorem prNeg : PrimR Γ (r1l (rU fun i => .int (-i))) pNeg := by
  intro O H vs ds s Q m b e k
  match ds, e with
  | [.int i], e =>
    obtain ⟨v, rfl, h1⟩ := bors1 b
    cases e
    rw [h1.int_inv]
    exact ⟨i, rfl, k _ H (Ext.refl H) (.int _)⟩
/-- is None -/
def isNon : D → Bool
  | .non => true
  | _ => false
def pIsN : List D → Option Slot
  | [d, .non] => some (.bl (isNon d), false)
  | _ => none
def pNotN : List D → Option Slot
  | [d, .non] => some (.bl (!isNon d), false)
  | _ => none
theorem Bor.isNon {d : D} (h : Bor Γ O H v d) : decide (v = .non) = VS.isNon d := by
  cases h with
  | rep h => cases h <;> rfl
  | own h => cases h <;> rfl
theorem prIsN : PrimR Γ (r2l (fun x y H Q => y = .non ∧ Q (.bl (decide (x = .non))) H)) pIsN := by
  intro O H vs ds s Q m b e k
  match ds, e with
  | [d, .non], e =>
    obtain ⟨v, w, rfl, h1, h2⟩ := bors2 b
    cases e
    refine ⟨h2.non_inv, ?_⟩
    rw [h1.isNon]
    exact k _ H (Ext.refl H) (.bl _)
theorem prNotN : PrimR Γ (r2l (fun x y H Q => y = .non ∧ Q (.bl (!decide (x = .non))) H)) pNotN := by
  intro O H vs ds s Q m b e k
  match ds, e with
  | [d, .non], e =>
    obtain ⟨v, w, rfl, h1, h2⟩ := bors2 b
    cases e
    refine ⟨h2.non_inv, ?_⟩
    rw [h1.isNon]
    exact k _ H (Ext.refl H) (.bl _)
end
end VS

namespace VS
open PySem L2
/-! ### equality -/
mutual
def toPy : D → PyData
  | .non => .none
  | .bl b => .bool b
  | .int i => .int i
  | .str x => .str x
  | .tup xs => .tuple (toPys xs)
  | .ktup xs => .tuple (toPys xs)
  | .lst xs => .list (toPys xs)
  | .scr ns => .list (ns.map PyData.int)
  | _ => .none
def toPys : List D → List PyData
  | [] => []
  | d :: ds => toPy d :: toPys ds
end
/-- data without dicts and objects, to the depth n -/
def dOk : Nat → D → Bool
  | _, .non => true
  | _, .bl _ => true
  | _, .int _ => true
  | _, .str _ => true
  | n + 1, .tup xs => xs.all (dOk n)
  | n + 1, .ktup xs => xs.all (dOk n)
  | n + 1, .lst xs => xs.all (dOk n)
  | n + 1, .scr _ => true
  | _, _ => false
mutual
def eqD : D → D → Bool
  | .non, .non => true
  | .bl a, .bl b => a == b
  | .bl a, .int j => (if a then 1 else 0) == j
  | .int i, .bl b => i == (if b then 1 else 0)
  | .int i, .int j => i == j
  | .str x, .str y => x == y
  | .tup xs, .tup ys => eqDs xs ys
  | .tup xs, .ktup ys => eqDs xs ys
  | .ktup xs, .tup ys => eqDs xs ys
  | .ktup xs, .ktup ys => eqDs xs ys
  | .lst xs, .lst ys => eqDs xs ys
  | .lst xs, .scr ns => PyData.eqvAll (toPys xs) (ns.map PyData.int)
  | .scr ns, .lst ys => PyData.eqvAll (ns.map PyData.int) (toPys ys)
  | .scr ms, .scr ns => PyData.eqvAll (ms.map PyData.int) (ns.map PyData.int)
  | _, _ => false
def eqDs : List D → List D → Bool
  | [], [] => true
  | x :: xs, y :: ys => eqD x y && eqDs xs ys
  | _, _ => false
end
theorem toPys_eq : ∀ xs : List D, toPys xs = xs.map toPy
  | [] => rfl
  | x :: xs => by simp [toPys, toPys_eq xs]
section
variable {Γ : Gm} {W : WX} {O : Addr → Prop} {H : Hp} {v : V}
theorem dp_ints {K : PySem.W.Frag} : ∀ ns : List Int, DpAll K H (ns.map V.int) (ns.map PyData.int)
  | [] => .nil
  | n :: r => .cons (.int n) (dp_ints r)
mutual
theorem Rep.dp : ∀ {v : V} {d : D}, Rep Γ O H v d → ∀ n, dOk n d = true → Dp Γ.K H v (toPy d)
  | _, _, .non, n, _ => .non
  | _, _, .bl b, n, _ => .bl b
  | _, _, .int i, n, _ => .int i
  | _, _, .str x _, n, _ => .str x
  | _, _, .ty x, n, h => by cases n <;> cases h
  | _, _, .tup h r, 0, k => by cases k
  | _, _, .tup h r, n + 1, k => .tup (SqT.of h) (Reps.dp r n (by simpa [dOk] using k))
  | _, _, .ktup h r, 0, k => by cases k
  | _, _, .ktup h r, n + 1, k => .tup (.inr h) (Reps.dp r n (by simpa [dOk] using k))
  | _, _, .scr h, 0, k => by cases k
  | _, _, .scr h, n + 1, k => .lst h.sq (dp_ints _)
  | _, _, .lst h _ r, 0, k => by cases k
  | _, _, .lst h _ r, n + 1, k => .lst (SqL.of h) (Reps.dp r n (by simpa [dOk] using k))
  | _, _, .dK h _ _ r, n, k => by cases n <;> cases k
  | _, _, .dT h _ _ r, n, k => by cases n <;> cases k
  | _, _, .obj h _ _ r, n, k => by cases n <;> cases k
  | _, _, .cls _, n, k => by cases n <;> cases k
  | _, _, .exn _, n, k => by cases n <;> cases k
  | _, _, .exd _ _ _ _, n, k => by cases n <;> cases k
theorem Reps.dp : ∀ {vs : List V} {ds : List D}, Reps Γ O H vs ds → ∀ n, (∀ d ∈ ds, dOk n d = true) → DpAll Γ.K H vs (toPys ds)
  | _, _, .nil, _, _ => .nil
  | _, _, .cons h r, n, k => .cons (Rep.dp h n (k _ List.mem_cons_self)) (Reps.dp r n fun d hd => k d (List.mem_cons_of_mem _ hd))
end
theorem Bor.dp {d : D} (h : Bor Γ O H v d) (n : Nat) (k : dOk n d = true) : Dp Γ.K H v (toPy d) := by
  cases h with
  | rep h => exact h.dp n k
  | own h =>
    cases h with
    | lst h _ r =>
      cases n with
      | zero => cases k
      | succ n => exact .lst (SqL.of h) (r.dp n (by simpa [dOk] using k))
    | dK => cases n <;> cases k
    | dT => cases n <;> cases k
    | obj => cases n <;> cases k
theorem lay_ints : ∀ ns : List Int, PyData.canLayAll0 (ns.map PyData.int) = true
  | [] => rfl
  | n :: r => by simp [PyData.canLayAll0, PyData.canLay0, lay_ints r]
mutual
theorem Rep.lay : ∀ {v : V} {d : D}, Rep Γ O H v d → (toPy d).canLay0 = true
  | _, _, .non => rfl
  | _, _, .bl b => rfl
  | _, _, .int i => rfl
  | _, _, .str x h => h
  | _, _, .ty x => rfl
  | _, _, .tup h r => by simpa [toPy, PyData.canLay0] using Reps.lay r
  | _, _, .ktup h r => by simpa [toPy, PyData.canLay0] using Reps.lay r
  | _, _, .scr h => by simpa [toPy, PyData.canLay0] using lay_ints _
  | _, _, .lst h _ r => by simpa [toPy, PyData.canLay0] using Reps.lay r
  | _, _, .dK h _ _ r => rfl
  | _, _, .dT h _ _ r => rfl
  | _, _, .obj h _ _ r => rfl
  | _, _, .cls _ => rfl
  | _, _, .exn _ => rfl
  | _, _, .exd _ _ _ _ => rfl
theorem Reps.lay : ∀ {vs : List V} {ds : List D}, Reps Γ O H vs ds → PyData.canLayAll0 (toPys ds) = true
  | _, _, .nil => rfl
  | _, _, .cons h r => by simp [toPys, PyData.canLayAll0, Rep.lay h, Reps.lay r]
end
theorem Bor.lay {d : D} (h : Bor Γ O H v d) : (toPy d).canLay0 = true := by
  cases h with
  | rep h => exact h.lay
  | own h =>
    cases h with
    | lst h _ r => simpa [toPy, PyData.canLay0] using r.lay
    | dK => rfl
    | dT => rfl
    | obj => rfl
theorem depth_ints : ∀ ns : List Int, PyData.depthAll (ns.map PyData.int) = 0
  | [] => rfl
  | n :: r => by simp [PyData.depthAll, PyData.depth, depth_ints r]
theorem depthAll_le {n : Nat} : ∀ (ds : List D), (∀ d ∈ ds, (toPy d).depth ≤ n) → PyData.depthAll (toPys ds) ≤ n
  | [], _ => Nat.zero_le _
  | d :: ds, h => by
    simp only [toPys, PyData.depthAll]
    exact Nat.max_le.mpr ⟨h d List.mem_cons_self, depthAll_le ds fun x hx => h x (List.mem_cons_of_mem _ hx)⟩
theorem dOk_depth : ∀ (n : Nat) (d : D), dOk n d = true → (toPy d).depth ≤ n
  | n, .non, _ => Nat.zero_le _
  | n, .bl _, _ => Nat.zero_le _
  | n, .int _, _ => Nat.zero_le _
  | n, .str _, _ => Nat.zero_le _
  | n, .ty _, _ => Nat.zero_le _
  | n, .dK _, _ => Nat.zero_le _
  | n, .dT _, _ => Nat.zero_le _
  | n, .obj _ _, _ => Nat.zero_le _
  | n, .exc _ _, _ => Nat.zero_le _
  | n, .cls _, _ => Nat.zero_le _
  | 0, .tup xs, h => by cases h
  | 0, .ktup xs, h => by cases h
  | 0, .lst xs, h => by cases h
  | 0, .scr xs, h => by cases h
  | n + 1, .tup xs, h => by
    simp only [toPy, PyData.depth]
    exact Nat.succ_le_succ (depthAll_le xs fun d hd => dOk_depth n d (by simp only [dOk, List.all_eq_true] at h; exact h d hd))
  | n + 1, .ktup xs, h => by
    simp only [toPy, PyData.depth]
    exact Nat.succ_le_succ (depthAll_le xs fun d hd => dOk_depth n d (by simp only [dOk, List.all_eq_true] at h; exact h d hd))
  | n + 1, .lst xs, h => by
    simp only [toPy, PyData.depth]
    exact Nat.succ_le_succ (depthAll_le xs fun d hd => dOk_depth n d (by simp only [dOk, List.all_eq_true] at h; exact h d hd))
  | n + 1, .scr xs, h => by simp [toPy, PyData.depth, depth_ints]
theorem Bor.shaped {d : D} (h : Bor Γ O H v d) {n : Nat} (hn : n ≤ 64) (k : dOk n d = true) : SeqAt.shaped (toPy d) = true := by
  unfold SeqAt.shaped
  rw [h.lay]
  exact decide_eq_true (Nat.le_trans (dOk_depth n d k) hn)
end
theorem okOf {n : Nat} {d : D} {P : Prop} (h : dOk n d = true) (e : ∀ m, dOk m d = false) : P := by rw [e] at h; cases h
theorem toPy_eqv : ∀ (n : Nat) (d e : D) (m : Nat), dOk n d = true → dOk m e = true → PyData.eqv (toPy d) (toPy e) = eqD d e := by
  intro n
  induction n with
  | zero =>
    intro d e m h1 h2
    cases d <;> first | (cases h1; done) | (cases e <;> first | rfl | (cases m <;> first | rfl | (cases h2; done)))
  | succ n ih =>
    intro d e m h1 h2
    have all : ∀ (xs ys : List D) (m : Nat), (∀ d ∈ xs, dOk n d = true) → (∀ d ∈ ys, dOk m d = true) → PyData.eqvAll (toPys xs) (toPys ys) = eqDs xs ys := by
      intro xs
      induction xs with
      | nil => intro ys m _ _; cases ys <;> rfl
      | cons x xs ihx =>
        intro ys m hx hy
        cases ys with
        | nil => rfl
        | cons y ys =>
          simp only [toPys, PyData.eqvAll, eqDs]
          rw [ih x y m (hx x List.mem_cons_self) (hy y List.mem_cons_self), ihx ys m (fun d hd => hx d (List.mem_cons_of_mem _ hd)) (fun d hd => hy d (List.mem_cons_of_mem _ hd))]
    have go : ∀ xs : List D, xs.all (dOk n) = true → ∀ d ∈ xs, dOk n d = true := fun xs h => by simpa using h
    cases d with
    | tup xs =>
      cases m with
      | zero => cases e <;> first | rfl | (cases h2; done)
      | succ m => cases e with
        | tup ys => exact all xs ys m (go xs h1) (by simpa [dOk] using h2)
        | ktup ys => exact all xs ys m (go xs h1) (by simpa [dOk] using h2)
        | _ => first | rfl | (cases h2; done)
    | ktup xs =>
      cases m with
      | zero => cases e <;> first | rfl | (cases h2; done)
      | succ m => cases e with
        | tup ys => exact all xs ys m (go xs h1) (by simpa [dOk] using h2)
        | ktup ys => exact all xs ys m (go xs h1) (by simpa [dOk] using h2)
        | _ => first | rfl | (cases h2; done)
    | lst xs =>
      cases m with
      | zero => cases e <;> first | rfl | (cases h2; done)
      | succ m => cases e with
        | lst ys => exact all xs ys m (go xs h1) (by simpa [dOk] using h2)
        | scr ns => rfl
        | _ => first | rfl | (cases h2; done)
    | scr ns => cases m <;> (cases e <;> first | rfl | (cases h2; done))
    | _ => first | (cases h1; done) | (cases m <;> (cases e <;> first | rfl | (cases h2; done)))
section
variable {Γ : Gm} {W : WX} {O : Addr → Prop} {H : Hp} {v : V}
def pEq : List D → Option Slot
  | [d, e] => if (dOk 40 d && dOk 40 e) = true then some (.bl (eqD d e), false) else none
  | _ => none
def pNe : List D → Option Slot
  | [d, e] => if (dOk 40 d && dOk 40 e) = true then some (.bl (!eqD d e), false) else none
  | _ => none
theorem prEq : PrimR Γ (r2l (rEqD Γ.K)) pEq := by
  intro O H vs ds s Q m b e k
  match ds, e with
  | [d, g], e =>
    obtain ⟨v, w, rfl, h1, h2⟩ := bors2 b
    simp only [pEq] at e
    split at e
    · rename_i hz
      cases e
      obtain ⟨z1, z2⟩ := Bool.and_eq_true_iff.mp hz
      refine ⟨toPy d, toPy g, h1.dp 40 z1, h2.dp 40 z2, h1.shaped (by decide) z1, h2.shaped (by decide) z2, ?_⟩
      rw [toPy_eqv 40 d g 40 z1 z2]
      exact k _ H (Ext.refl H) (.bl _)
    · cases e
theorem prNe : PrimR Γ (r2l (rNeD Γ.K)) pNe := by
  intro O H vs ds s Q m b e k
  match ds, e with
  | [d, g], e =>
    obtain ⟨v, w, rfl, h1, h2⟩ := bors2 b
    simp only [pNe] at e
    split at e
    · rename_i hz
      cases e
      obtain ⟨z1, z2⟩ := Bool.and_eq_true_iff.mp hz
      refine ⟨toPy d, toPy g, h1.dp 40 z1, h2.dp 40 z2, h1.shaped (by decide) z1, h2.shaped (by decide) z2, ?_⟩
      rw [toPy_eqv 40 d g 40 z1 z2]
      exact k _ H (Ext.refl H) (.bl _)
    · cases e
end
end VS

namespace VS
open PySem L2 PySem.Spec PyProof.Rows
/-! ### dicts, as data -/
section
variable {κ α : Type} [DecidableEq κ]
def dGet (kvs : List (κ × α)) (k : κ) : Option α := match kvs with
  | [] => none
  | (k', v) :: r => if k' = k then some v else dGet r k
def dSet (kvs : List (κ × α)) (k : κ) (v : α) : List (κ × α) := match kvs with
  | [] => []
  | (k', v') :: r => (if k' = k then (k', v) else (k', v')) :: dSet r k v
def dHas (kvs : List (κ × α)) (k : κ) : Bool := match kvs with
  | [] => false
  | (k', _) :: r => decide (k' = k) || dHas r k
def dPut (kvs : List (κ × α)) (k : κ) (v : α) : List (κ × α) := if dHas kvs k = true then dSet kvs k v else kvs ++ [(k, v)]
end
def dkey : D → Option Key
  | .int i => some (.inl i)
  | .str x => some (.inr x)
  | _ => none
def dkeys : List D → Option (List Key)
  | [] => some []
  | d :: ds => match dkey d, dkeys ds with
    | some k, some ks => some (k :: ks)
    | _, _ => none
section
variable {Γ : Gm} {W : WX} {O : Addr → Prop} {H : Hp} {v : V}
theorem Bor.key {d : D} {k : Key} (h : Bor Γ O H v d) (e : dkey d = some k) : v = kV k := by
  cases d with
  | int i => cases e; exact h.int_inv
  | str x => cases e; exact h.str_inv.1
  | _ => cases e
theorem Reps.keys : ∀ {vs : List V} {ds : List D} {ks : List Key}, Reps Γ O H vs ds → dkeys ds = some ks → vs = ks.map kV
  | _, _, _, .nil, e => by cases e; rfl
  | _, _, ks, .cons h r, e => by
    rename_i v vs d ds
    unfold dkeys at e
    cases q1 : dkey d with
    | none => rw [q1] at e; cases e
    | some k =>
      cases q2 : dkeys ds with
      | none => rw [q1, q2] at e; cases e
      | some ks' =>
        rw [q1, q2] at e
        cases e
        rw [List.map_cons, ← Reps.keys r q2, Bor.key (.rep h) q1]
/-- pairs of a dict and its data -/
inductive KR {κ : Type} (Γ : Gm) (O : Addr → Prop) (H : Hp) : List (κ × V) → List (κ × D) → Prop
  | nil : KR Γ O H [] []
  | cons {k : κ} {v : V} {d : D} {kvs : List (κ × V)} {ds : List (κ × D)} : Rep Γ O H v d → KR Γ O H kvs ds → KR Γ O H ((k, v) :: kvs) ((k, d) :: ds)
theorem KR.of {κ : Type} : ∀ {kvs : List (κ × V)} {ds : List (κ × D)}, kvs.map (·.1) = ds.map (·.1) → Reps Γ O H (kvs.map (·.2)) (ds.map (·.2)) → KR Γ O H kvs ds
  | [], [], _, _ => .nil
  | [], _ :: _, e, _ => by cases e
  | _ :: _, [], e, _ => by cases e
  | (k, v) :: kvs, (k', d) :: ds, e, r => by
    simp only [List.map_cons, List.cons.injEq] at e
    obtain ⟨rfl, e⟩ := e
    cases r with
    | cons h r => exact .cons h (KR.of e r)
theorem KR.to {κ : Type} {kvs : List (κ × V)} {ds : List (κ × D)} (h : KR Γ O H kvs ds) : kvs.map (·.1) = ds.map (·.1) ∧ Reps Γ O H (kvs.map (·.2)) (ds.map (·.2)) := by
  induction h with
  | nil => exact ⟨rfl, .nil⟩
  | cons r _ ih => exact ⟨by simp [ih.1], .cons r ih.2⟩
theorem KR.len {κ : Type} {kvs : List (κ × V)} {ds : List (κ × D)} (h : KR Γ O H kvs ds) : kvs.length = ds.length := by
  induction h with
  | nil => rfl
  | cons r _ ih => simp [ih]
theorem KR.get {κ : Type} [DecidableEq κ] {k : κ} {kvs : List (κ × V)} {ds : List (κ × D)} (h : KR Γ O H kvs ds) : (∃ v d, valV kvs k = some v ∧ dGet ds k = some d ∧ Rep Γ O H v d) ∨ (valV kvs k = none ∧ dGet ds k = none) := by
  induction h with
  | nil => exact .inr ⟨rfl, rfl⟩
  | @cons k' v d kvs ds r _ ih =>
    by_cases e : k' = k
    · exact .inl ⟨v, d, by rw [valV_pos e], by unfold dGet; rw [if_pos e], r⟩
    · have e1 : valV ((k', v) :: kvs) k = valV kvs k := by simp [valV, List.find?_cons, e]
      have e2 : dGet ((k', d) :: ds) k = dGet ds k := by
        conv => lhs; unfold dGet
        rw [if_neg e]
      rw [e1, e2]
      exact ih
theorem KR.has {κ : Type} [DecidableEq κ] {k : κ} {kvs : List (κ × V)} {ds : List (κ × D)} (h : KR Γ O H kvs ds) : (kvs.any fun kv => decide (kv.1 = k)) = dHas ds k := by
  induction h with
  | nil => rfl
  | @cons k' v d kvs ds r _ ih => simp only [List.any_cons, dHas, ih]
theorem KR.set {κ : Type} [DecidableEq κ] {k : κ} {v : V} {d : D} (r : Rep Γ O H v d) {kvs : List (κ × V)} {ds : List (κ × D)} (h : KR Γ O H kvs ds) : KR Γ O H (kvs.map fun kv => if kv.1 = k then (kv.1, v) else kv) (dSet ds k d) := by
  induction h with
  | nil => exact .nil
  | @cons k' v' d' kvs ds r' _ ih =>
    by_cases e : k' = k
    · simp only [List.map_cons, dSet, e, if_true]
      exact .cons r ih
    · simp only [List.map_cons, dSet, if_neg e]
      exact .cons r' ih
theorem KR.append {κ : Type} {kvs ls : List (κ × V)} {ds es : List (κ × D)} (h : KR Γ O H kvs ds) (g : KR Γ O H ls es) : KR Γ O H (kvs ++ ls) (ds ++ es) := by
  induction h with
  | nil => exact g
  | cons r _ ih => exact .cons r ih
theorem KR.put {κ : Type} [DecidableEq κ] {k : κ} {v : V} {d : D} (r : Rep Γ O H v d) {kvs : List (κ × V)} {ds : List (κ × D)} (h : KR Γ O H kvs ds) : KR Γ O H (putK kvs k v) (dPut ds k d) := by
  unfold putK dPut
  rw [h.has]
  cases dHas ds k with
  | true => exact h.set r
  | false => exact h.append (.cons r .nil)

/-! ### subscripts -/
def atD (xs : List D) (i : Int) : Option D := atI xs i
def dAt : D → D → Option D
  | .lst xs, .int i => atI xs i
  | .tup xs, .int i => atI xs i
  | .ktup xs, .int i => atI xs i
  | .scr ns, .int i => (atI ns i).map D.int
  | .str x, .int i => if x.length ≤ sizeLine then (atI x.cps.toList i).map fun c => .str ⟨#[c]⟩ else none
  | .dK kvs, k => match dkey k with
    | some k => dGet kvs k
    | none => none
  | .dT kvs, .tup ks => match dkeys ks with
    | some k => dGet kvs k
    | none => none
  | _, _ => none
def pIdx : List D → Option Slot
  | [d, i] => (dAt d i).map fun z => (z, false)
  | _ => none
def rDAt : R2 := fun x y H Q => ∃ a v, x = .ref a ∧ DGet H a y (some v) ∧ Q v H
theorem ix_dict {X : Cx} (hu : X.A.units + 1 < cLine) : IxR X rDAt := by
  intro value slice pins s σ H x y v u Q I rx ry h hs
  obtain ⟨a, z, rfl, g, q⟩ := h
  obtain rfl : v = Value.ref a := rx
  have hT := dict_typeIs I g
  unfold subscriptTail
  refine wpAny_bind ?_
  rw [getitemInPython_of_ne hT.not_modules]
  refine wpAny_bind (wpAny_specialOf hT PySem.F.slot_dict_getitem.lookup ?_)
  have fin : wpAny (model X.prog X.w) X.A (subscripted slice false (.ref a) u) (fun r s₃ => wpAny (model X.prog X.w) X.A (letTemporaryGo value (.ref a) r >>= fun _ => pure r) (EP X pins σ Q) X.xe s₃) X.xe s := by
    rw [hs]
    exact wpAny_operating (d_getItem hu I g ry fun w' s3 I3 rw' => wpAny_bind (wpAny_letTemporaryGo (wpAny_pure ⟨z, H, I3, rw', q⟩)))
  first
    | exact wpAny_pure (wpAny_bind fin)
    | exact wpAny_bind (wpAny_pure (wpAny_bind fin))
    | exact wpAny_bind fin
def rIdx (K : PySem.W.Frag) : R2 := fun x y H Q => rIx K x y H Q ∨ rDAt x y H Q
theorem ix_any {X : Cx} (hu : X.A.units + 1 < cLine) : IxR X (rIdx X.K) := ix_seq.or (ix_dict hu)
theorem Reps.at {vs : List V} {ds : List D} {i : Int} {d : D} (r : Reps Γ O H vs ds) (e : atI ds i = some d) : ∃ v, atI vs i = some v ∧ Rep Γ O H v d := by
  unfold atI at e
  cases q : ixN ds.length i with
  | none => rw [q] at e; cases e
  | some j =>
    rw [q] at e
    obtain ⟨v, h1, h2⟩ := r.get (show ds[j]? = some d from e)
    refine ⟨v, ?_, h2⟩
    unfold atI
    rw [r.length, q]
    exact h1
theorem strOk_at {x : Str} {i : Int} {c : Nat} (h : PyData.strOk x = true) (e : atI x.cps.toList i = some c) : PyData.strOk ⟨#[c]⟩ = true := by
  unfold atI at e
  cases q : ixN x.cps.toList.length i with
  | none => rw [q] at e; cases e
  | some j =>
    rw [q] at e
    have e : x.cps.toList[j]? = some c := e
    unfold PyData.strOk at *
    rw [Array.all_eq_true] at h
    have hm : c ∈ x.cps.toList := List.mem_of_getElem? e
    have hm2 : c ∈ x.cps := by simpa using hm
    obtain ⟨k, hk, e2⟩ := Array.getElem_of_mem hm2
    have := h k hk
    rw [e2] at this
    simpa using this
theorem prIdx : PrimR Γ (r2l (rIdx Γ.K)) pIdx := by
  intro O H vs ds s Q m b e k
  match ds, e with
  | [d, i], e =>
    obtain ⟨v, w, rfl, h1, h2⟩ := bors2 b
    simp only [pIdx] at e
    cases q : dAt d i with
    | none => rw [q] at e; cases e
    | some z =>
      rw [q] at e
      cases e
      cases d with
      | lst xs =>
        cases i with
        | int i =>
          obtain ⟨a, us, rfl, ha, ra⟩ := h1.lst_inv
          rw [h2.int_inv]
          obtain ⟨v, q1, q2⟩ := ra.at q
          exact .inl (.inl ⟨a, us, i, v, rfl, rfl, SqL.of ha, q1, k _ H (Ext.refl H) q2⟩)
        | _ => cases q
      | tup xs =>
        cases i with
        | int i =>
          obtain ⟨a, us, rfl, ha, ra⟩ := h1.tup_inv
          rw [h2.int_inv]
          obtain ⟨v, q1, q2⟩ := ra.at q
          exact .inl (.inr (.inl ⟨a, us, i, v, rfl, rfl, SqT.of ha, q1, k _ H (Ext.refl H) q2⟩))
        | _ => cases q
      | ktup xs =>
        cases i with
        | int i =>
          obtain ⟨a, us, rfl, ha, ra⟩ := h1.ktup_inv
          rw [h2.int_inv]
          obtain ⟨v, q1, q2⟩ := ra.at q
          exact .inl (.inr (.inl ⟨a, us, i, v, rfl, rfl, .inr ha, q1, k _ H (Ext.refl H) q2⟩))
        | _ => cases q
      | scr ns =>
        cases i with
        | int i =>
          obtain ⟨a, rfl, ha⟩ := h1.scr_inv
          rw [h2.int_inv]
          simp only [dAt] at q
          cases q0 : atI ns i with
          | none => rw [q0] at q; cases q
          | some n =>
            rw [q0] at q
            cases q
            have q1 : atI (ns.map V.int) i = some (V.int n) := by
              unfold atI at *
              rw [List.length_map]
              cases q3 : ixN ns.length i with
              | none => rw [q3] at q0; cases q0
              | some j =>
                rw [q3] at q0
                have q0 : ns[j]? = some n := q0
                simp [q0]
            exact .inl (.inl ⟨a, _, i, _, rfl, rfl, ha.sq, q1, k _ H (Ext.refl H) (.int n)⟩)
        | _ => cases q
      | str x =>
        cases i with
        | int i =>
          rw [h2.int_inv, h1.str_inv.1]
          simp only [dAt] at q
          split at q
          · rename_i hz
            cases q0 : atI x.cps.toList i with
            | none => rw [q0] at q; cases q
            | some c =>
              rw [q0] at q
              cases q
              exact .inl (.inr (.inr ⟨x, i, c, rfl, rfl, hz, q0, k _ H (Ext.refl H) (.str _ (strOk_at h1.str_inv.2 q0))⟩))
          · cases q
        | _ => cases q
      | dK kvs =>
        obtain ⟨a, us, rfl, ha, ka, ra⟩ := h1.dK_inv
        simp only [dAt] at q
        cases q0 : dkey i with
        | none => rw [q0] at q; cases q
        | some ky =>
          rw [q0] at q
          have q : dGet kvs ky = some z := q
          rcases (KR.of ka.1 ra).get (k := ky) with ⟨v, d, g1, g2, g3⟩ | ⟨g1, g2⟩
          · rw [g2] at q
            cases q
            have g : DGet H a (kV ky) (some v) := by rw [← g1]; exact DGet.k ha
            rw [h2.key q0]
            exact .inr ⟨a, v, rfl, g, k _ H (Ext.refl H) g3⟩
          · rw [g2] at q; cases q
      | dT kvs =>
        cases i with
        | tup ks =>
          obtain ⟨a, us, rfl, ha, ka, ra⟩ := h1.dT_inv
          simp only [dAt] at q
          cases q0 : dkeys ks with
          | none => rw [q0] at q; cases q
          | some ky =>
            rw [q0] at q
            have q : dGet kvs ky = some z := q
            rcases (KR.of ka.1 ra).get (k := ky) with ⟨v, d, g1, g2, g3⟩ | ⟨g1, g2⟩
            · rw [g2] at q
              cases q
              obtain ⟨bb, ws, rfl, hb, rb⟩ := h2.tup_inv
              have ew := rb.keys q0
              subst ew
              have g : DGet H a (.ref bb) (some v) := by rw [← g1]; exact DGet.t ha hb
              exact .inr ⟨a, v, rfl, g, k _ H (Ext.refl H) g3⟩
            · rw [g2] at q; cases q
        | _ => cases q
      | _ => cases i <;> cases q
/-- what a dict says of a key -/
def dLook : D → D → Option (Option D)
  | .dK kvs, k => match dkey k with
    | some k => some (dGet kvs k)
    | none => none
  | .dT kvs, .tup ks => match dkeys ks with
    | some k => some (dGet kvs k)
    | none => none
  | _, _ => none
def OptRep (Γ : Gm) (O : Addr → Prop) (H : Hp) : Option D → Option V → Prop
  | some d, some v => Rep Γ O H v d
  | none, none => True
  | _, _ => False
theorem dLook_ok {x y : V} {d i : D} {o : Option D} (h1 : Bor Γ O H x d) (h2 : Bor Γ O H y i) (q : dLook d i = some o) : ∃ a ov, x = .ref a ∧ DGet H a y ov ∧ IsD H a ∧ OptRep Γ O H o ov := by
  cases d with
  | dK kvs =>
    obtain ⟨a, us, rfl, ha, ka, ra⟩ := h1.dK_inv
    simp only [dLook] at q
    cases q0 : dkey i with
    | none => rw [q0] at q; cases q
    | some ky =>
      rw [q0] at q
      cases q
      rw [h2.key q0]
      rcases (KR.of ka.1 ra).get (k := ky) with ⟨v, d, g1, g2, g3⟩ | ⟨g1, g2⟩
      · exact ⟨a, some v, rfl, by rw [← g1]; exact DGet.k ha, .inl ⟨_, .inl ha⟩, by rw [g2]; exact g3⟩
      · exact ⟨a, none, rfl, by rw [← g1]; exact DGet.k ha, .inl ⟨_, .inl ha⟩, by rw [g2]; trivial⟩
  | dT kvs =>
    cases i with
    | tup ks =>
      obtain ⟨a, us, rfl, ha, ka, ra⟩ := h1.dT_inv
      simp only [dLook] at q
      cases q0 : dkeys ks with
      | none => rw [q0] at q; cases q
      | some ky =>
        rw [q0] at q
        cases q
        obtain ⟨b, ws, rfl, hb, rb⟩ := h2.tup_inv
        have ew := rb.keys q0
        subst ew
        rcases (KR.of ka.1 ra).get (k := ky) with ⟨v, d, g1, g2, g3⟩ | ⟨g1, g2⟩
        · exact ⟨a, some v, rfl, by rw [← g1]; exact DGet.t ha hb, .inr ⟨_, .inl ha⟩, by rw [g2]; exact g3⟩
        · exact ⟨a, none, rfl, by rw [← g1]; exact DGet.t ha hb, .inr ⟨_, .inl ha⟩, by rw [g2]; trivial⟩
    | _ => cases q
  | _ => cases i <;> cases q

/-! ### in -/
def inD (x : D) : D → Option Bool
  | .lst xs => if (dOk 40 x && dOk 40 (.lst xs)) = true then some (xs.any fun z => eqD z x) else none
  | .str z => match x with
    | .str y => if y.cps.size = 1 then some (decide (y.cps.getD 0 0 ∈ z.cps.toList)) else none
    | _ => none
  | .dK kvs => (dLook (.dK kvs) x).map Option.isSome
  | .dT kvs => (dLook (.dT kvs) x).map Option.isSome
  | _ => none
end
end VS

namespace VS
open PySem L2 PySem.Spec PyProof.Rows
section
variable {Γ : Gm} {W : WX} {O : Addr → Prop} {H : Hp} {v : V}
/-! ### in -/
def rInT (K : PySem.W.Frag) : R2 := fun x y H Q => ∃ d ds, Dp K H x d ∧ Dp K H y (.tuple ds) ∧ SeqAt.shaped d = true ∧ SeqAt.shaped (.tuple ds) = true ∧ Q (.bl (ds.any fun z => PyData.eqv z d)) H
def rNiT (K : PySem.W.Frag) : R2 := fun x y H Q => ∃ d ds, Dp K H x d ∧ Dp K H y (.tuple ds) ∧ SeqAt.shaped d = true ∧ SeqAt.shaped (.tuple ds) = true ∧ Q (.bl (!ds.any fun z => PyData.eqv z d)) H
theorem op_inT {X : Cx} (hu : X.A.units + 65 < cLine) : OpR X (compareOp .In) (rInT X.K) := by
  intro pins s σ H x y v u Q I rx ry h
  obtain ⟨d, ds, hd, he, sd, se, q⟩ := h
  obtain ⟨as, r1⟩ := Dp.reads I d x v hd rx
  obtain ⟨bs, r2⟩ := Dp.reads I (.tuple ds) y u he ry
  exact SeqAt.in_tuple_reads r2 r1 (SeqAt.canLay_of_shaped se) (SeqAt.canLay_of_shaped sd) (room_in_shaped sd hu) ⟨.bl _, H, I, rfl, q⟩
theorem op_niT {X : Cx} (hu : X.A.units + 65 < cLine) : OpR X (compareOp .NotIn) (rNiT X.K) := by
  intro pins s σ H x y v u Q I rx ry h
  obtain ⟨d, ds, hd, he, sd, se, q⟩ := h
  obtain ⟨as, r1⟩ := Dp.reads I d x v hd rx
  obtain ⟨bs, r2⟩ := Dp.reads I (.tuple ds) y u he ry
  exact SeqAt.notIn_tuple_reads r2 r1 (SeqAt.canLay_of_shaped se) (SeqAt.canLay_of_shaped sd) (room_in_shaped sd hu) ⟨.bl _, H, I, rfl, q⟩
def rIn1 (K : PySem.W.Frag) : R2 := fun x y H Q => rInD K x y H Q ∨ (∃ (c : Nat) (z : Str), x = .str ⟨#[c]⟩ ∧ y = .str z ∧ Q (.bl (decide (c ∈ z.cps.toList))) H) ∨ (∃ a o, y = .ref a ∧ DGet H a x o ∧ Q (.bl o.isSome) H) ∨ rInT K x y H Q
def rNi1 (K : PySem.W.Frag) : R2 := fun x y H Q => rNotInD K x y H Q ∨ (∃ (c : Nat) (z : Str), x = .str ⟨#[c]⟩ ∧ y = .str z ∧ Q (.bl (!decide (c ∈ z.cps.toList))) H) ∨ (∃ a o, y = .ref a ∧ DGet H a x o ∧ Q (.bl (!o.isSome)) H) ∨ rNiT K x y H Q
theorem op_inDict {X : Cx} (hu : X.A.units + 1 < cLine) : OpR X (compareOp .In) (fun x y H Q => ∃ a o, y = .ref a ∧ DGet H a x o ∧ Q (.bl o.isSome) H) := by
  intro pins s σ H x y v u Q I rx ry h
  obtain ⟨a, o, rfl, g, q⟩ := h
  obtain rfl : u = Value.ref a := ry
  exact d_in hu I g rx fun s3 I3 => ⟨.bl o.isSome, H, I3, rfl, q⟩
theorem op_niDict {X : Cx} (hu : X.A.units + 1 < cLine) : OpR X (compareOp .NotIn) (fun x y H Q => ∃ a o, y = .ref a ∧ DGet H a x o ∧ Q (.bl (!o.isSome)) H) := by
  intro pins s σ H x y v u Q I rx ry h
  obtain ⟨a, o, rfl, g, q⟩ := h
  obtain rfl : u = Value.ref a := ry
  exact d_notIn hu I g rx fun s3 I3 => ⟨.bl (!o.isSome), H, I3, rfl, q⟩
theorem opIn {X : Cx} (hu : X.A.units + 65 < cLine) : OpR X (compareOp .In) (rIn1 X.K) := (op_inD hu).or (op_in_sign.or ((op_inDict (by omega)).or (op_inT hu)))
theorem opNi {X : Cx} (hu : X.A.units + 65 < cLine) : OpR X (compareOp .NotIn) (rNi1 X.K) := (op_notInD hu).or (op_notIn_sign.or ((op_niDict (by omega)).or (op_niT hu)))
def inD' (x : D) : D → Option Bool
  | .tup xs => if (dOk 40 x && dOk 40 (.tup xs)) = true then some (xs.any fun z => eqD z x) else none
  | .ktup xs => if (dOk 40 x && dOk 40 (.tup xs)) = true then some (xs.any fun z => eqD z x) else none
  | d => inD x d
def pIn : List D → Option Slot
  | [x, d] => (inD' x d).map fun b => (.bl b, false)
  | _ => none
def pNi : List D → Option Slot
  | [x, d] => (inD' x d).map fun b => (.bl (!b), false)
  | _ => none
theorem OptRep.some_eq {o : Option D} {ov : Option V} (h : OptRep Γ O H o ov) : ov.isSome = o.isSome := by
  cases o <;> cases ov <;> first | rfl | exact h.elim
theorem any_eqv {d : D} {xs : List D} (z1 : dOk 40 d = true) (hx : ∀ z ∈ xs, dOk 39 z = true) : ((toPys xs).any fun z => PyData.eqv z (toPy d)) = xs.any fun z => eqD z d := by
  induction xs with
  | nil => rfl
  | cons z xs ih =>
    simp only [toPys, List.any_cons]
    rw [toPy_eqv 39 z d 40 (hx z List.mem_cons_self) z1, ih fun w hw => hx w (List.mem_cons_of_mem _ hw)]
theorem in_ok {x y : V} {d e : D} {b : Bool} {Q Q' : VK} (h1 : Bor Γ O H x d) (h2 : Bor Γ O H y e) (q : inD' d e = some b) (k : Q (.bl b) H) (k' : Q' (.bl (!b)) H) : rIn1 Γ.K x y H Q ∧ rNi1 Γ.K x y H Q' := by
  cases e with
  | tup xs =>
    simp only [inD', inD] at q
    split at q
    · rename_i hz
      cases q
      obtain ⟨z1, z2⟩ := Bool.and_eq_true_iff.mp hz
      have e1 := any_eqv z1 (by simpa [dOk] using z2)
      have d1 := h1.dp 40 z1
      have d2 : Dp Γ.K H y (.tuple (toPys xs)) := h2.dp 40 z2
      have s1 := h1.shaped (by decide) z1
      have s2 : SeqAt.shaped (.tuple (toPys xs)) = true := h2.shaped (n := 40) (by decide) z2
      exact ⟨.inr (.inr (.inr ⟨_, _, d1, d2, s1, s2, by rw [e1]; exact k⟩)), .inr (.inr (.inr ⟨_, _, d1, d2, s1, s2, by rw [e1]; exact k'⟩))⟩
    · cases q
  | ktup xs =>
    simp only [inD', inD] at q
    split at q
    · rename_i hz
      cases q
      obtain ⟨z1, z2⟩ := Bool.and_eq_true_iff.mp hz
      have e1 := any_eqv z1 (by simpa [dOk] using z2)
      have d1 := h1.dp 40 z1
      have d2 : Dp Γ.K H y (.tuple (toPys xs)) := h2.dp 40 z2
      have s1 := h1.shaped (by decide) z1
      have s2 : SeqAt.shaped (.tuple (toPys xs)) = true := h2.shaped (n := 40) (by decide) z2
      exact ⟨.inr (.inr (.inr ⟨_, _, d1, d2, s1, s2, by rw [e1]; exact k⟩)), .inr (.inr (.inr ⟨_, _, d1, d2, s1, s2, by rw [e1]; exact k'⟩))⟩
    · cases q
  | lst xs =>
    simp only [inD', inD] at q
    split at q
    · rename_i hz
      cases q
      obtain ⟨z1, z2⟩ := Bool.and_eq_true_iff.mp hz
      have e1 := any_eqv z1 (by simpa [dOk] using z2)
      have d1 := h1.dp 40 z1
      have d2 : Dp Γ.K H y (.list (toPys xs)) := h2.dp 40 z2
      have s1 := h1.shaped (by decide) z1
      have s2 : SeqAt.shaped (.list (toPys xs)) = true := h2.shaped (n := 40) (by decide) z2
      exact ⟨.inl ⟨_, _, d1, d2, s1, s2, by rw [e1]; exact k⟩, .inl ⟨_, _, d1, d2, s1, s2, by rw [e1]; exact k'⟩⟩
    · cases q
  | str z =>
    cases d with
    | str yy =>
      simp only [inD', inD] at q
      split at q
      · rename_i hz
        cases q
        have ey : yy = ⟨#[yy.cps.getD 0 0]⟩ := by
          obtain ⟨cps⟩ := yy
          obtain ⟨l⟩ := cps
          match l, hz with
          | [c], _ => rfl
        rw [h2.str_inv.1, h1.str_inv.1]
        refine ⟨.inr (.inl ⟨yy.cps.getD 0 0, z, by rw [← ey], rfl, k⟩), .inr (.inl ⟨yy.cps.getD 0 0, z, by rw [← ey], rfl, k'⟩)⟩
      · cases q
    | _ => cases q
  | dK kvs =>
    simp only [inD', inD] at q
    cases q0 : dLook (.dK kvs) d with
    | none => rw [q0] at q; cases q
    | some o =>
      rw [q0] at q
      cases q
      obtain ⟨a, ov, rfl, g, _, r⟩ := dLook_ok h2 h1 q0
      refine ⟨.inr (.inr (.inl ⟨a, ov, rfl, g, ?_⟩)), .inr (.inr (.inl ⟨a, ov, rfl, g, ?_⟩))⟩
      · rw [r.some_eq]; exact k
      · rw [r.some_eq]; exact k'
  | dT kvs =>
    simp only [inD', inD] at q
    cases q0 : dLook (.dT kvs) d with
    | none => rw [q0] at q; cases q
    | some o =>
      rw [q0] at q
      cases q
      obtain ⟨a, ov, rfl, g, _, r⟩ := dLook_ok h2 h1 q0
      refine ⟨.inr (.inr (.inl ⟨a, ov, rfl, g, ?_⟩)), .inr (.inr (.inl ⟨a, ov, rfl, g, ?_⟩))⟩
      · rw [r.some_eq]; exact k
      · rw [r.some_eq]; exact k'
  | _ => cases q
theorem prIn : PrimR Γ (r2l (rIn1 Γ.K)) pIn := by
  intro O H vs ds s Q m b e k
  match ds, e with
  | [x, d], e =>
    obtain ⟨v, w, rfl, h1, h2⟩ := bors2 b
    simp only [pIn] at e
    cases q : inD' x d with
    | none => rw [q] at e; cases e
    | some c =>
      rw [q] at e
      cases e
      exact (in_ok (Q' := fun _ _ => True) h1 h2 q (k _ H (Ext.refl H) (.bl _)) trivial).1
theorem prNi : PrimR Γ (r2l (rNi1 Γ.K)) pNi := by
  intro O H vs ds s Q m b e k
  match ds, e with
  | [x, d], e =>
    obtain ⟨v, w, rfl, h1, h2⟩ := bors2 b
    simp only [pNi] at e
    cases q : inD' x d with
    | none => rw [q] at e; cases e
    | some c =>
      rw [q] at e
      cases e
      exact (in_ok (Q := fun _ _ => True) h1 h2 q trivial (k _ H (Ext.refl H) (.bl _))).2

/-! ### len, abs, int, isinstance -/
def dLen : D → Option Nat
  | .lst xs => some xs.length
  | .tup xs => some xs.length
  | .ktup xs => some xs.length
  | .scr ns => some ns.length
  | .str x => if x.length ≤ sizeLine then some x.length else none
  | .dK kvs => some kvs.length
  | _ => none
def pLen : List D → Option Slot
  | [d] => (dLen d).map fun (n : Nat) => (.int (n : Int), false)
  | _ => none
def rLen1 (K : PySem.W.Frag) : List V → Hp → VK → Prop := fun xs H Q => (∃ x n, xs = [x] ∧ LenV K x H n ∧ Q (.int n) H) ∨ (∃ d kvs, xs = [.ref d] ∧ H d = some (.dK kvs) ∧ Q (.int (kvs.length : Int)) H)
theorem callOr {X : Cx} {f : Value} {r r' : List V → Hp → VK → Prop} (h : CallR X f r) (h' : CallR X f r') : CallR X f (fun xs H Q => r xs H Q ∨ r' xs H Q) := by
  intro pins s σ H xs us Q I rs q
  rcases q with q | q
  · exact h pins s σ H xs us Q I rs q
  · exact h' pins s σ H xs us Q I rs q
theorem prLen : PrimR Γ (rLen1 Γ.K) pLen := by
  intro O H vs ds s Q m b e k
  match ds, e with
  | [d], e =>
    obtain ⟨v, rfl, h1⟩ := bors1 b
    simp only [pLen] at e
    cases q : dLen d with
    | none => rw [q] at e; cases e
    | some n =>
      rw [q] at e
      cases e
      have k := k _ H (Ext.refl H) (.int _)
      cases d with
      | lst xs => cases q; obtain ⟨a, us, rfl, ha, ra⟩ := h1.lst_inv; exact .inl ⟨_, _, rfl, .inl ⟨us, SqL.of ha, ra.length.symm⟩, k⟩
      | tup xs => cases q; obtain ⟨a, us, rfl, ha, ra⟩ := h1.tup_inv; exact .inl ⟨_, _, rfl, .inr ⟨us, SqT.of ha, ra.length.symm⟩, k⟩
      | ktup xs => cases q; obtain ⟨a, us, rfl, ha, ra⟩ := h1.ktup_inv; exact .inl ⟨_, _, rfl, .inr ⟨us, .inr ha, ra.length.symm⟩, k⟩
      | scr ns => cases q; obtain ⟨a, rfl, ha⟩ := h1.scr_inv; exact .inl ⟨_, _, rfl, .inl ⟨_, ha.sq, by simp⟩, k⟩
      | str x =>
        simp only [dLen] at q
        split at q
        · rename_i hz
          cases q
          rw [h1.str_inv.1]
          exact .inl ⟨_, _, rfl, ⟨hz, rfl⟩, k⟩
        · cases q
      | dK kvs =>
        cases q
        obtain ⟨a, us, rfl, ha, ka, ra⟩ := h1.dK_inv
        refine .inr ⟨a, us, rfl, ha, ?_⟩
        rw [(KR.of ka.1 ra).len]
        exact k
      | _ => cases q
def pAbs : List D → Option Slot
  | [.int i] => some (.int (if i < 0 then -i else i), false)
  | _ => none
theorem prAbs : PrimR Γ (fun xs H Q => ∃ i, xs = [.int i] ∧ Q (.int (if i < 0 then -i else i)) H) pAbs := by
  intro O H vs ds s Q m b e k
  match ds, e with
  | [.int i], e =>
    obtain ⟨v, rfl, h1⟩ := bors1 b
    cases e
    rw [h1.int_inv]
    exact ⟨i, rfl, k _ H (Ext.refl H) (.int _)⟩
def pInt : List D → Option Slot
  | [.int i] => some (.int i, false)
  | [.bl b] => some (.int (if b then 1 else 0), false)
  | _ => none
theorem prInt : PrimR Γ (fun xs H Q => (∃ i, xs = [.int i] ∧ Q (.int i) H) ∨ ∃ k, xs = [.bl k] ∧ Q (.int (if k then 1 else 0)) H) pInt := by
  intro O H vs ds s Q m b e k
  match ds, e with
  | [.int i], e =>
    obtain ⟨v, rfl, h1⟩ := bors1 b
    cases e
    rw [h1.int_inv]
    exact .inl ⟨i, rfl, k _ H (Ext.refl H) (.int _)⟩
  | [.bl c], e =>
    obtain ⟨v, rfl, h1⟩ := bors1 b
    cases e
    rw [h1.bl_inv]
    exact .inr ⟨c, rfl, k _ H (Ext.refl H) (.int _)⟩
def pMin2 : List D → Option Slot
  | [.int i, .int j] => some (.int (if j < i then j else i), false)
  | _ => none
def pMax2 : List D → Option Slot
  | [.int i, .int j] => some (.int (if j > i then j else i), false)
  | _ => none
theorem prMin2 : PrimR Γ (fun xs H Q => ∃ i j, xs = [.int i, .int j] ∧ Q (.int (if j < i then j else i)) H) pMin2 := by
  intro O H vs ds s Q m b e k
  match ds, e with
  | [.int i, .int j], e =>
    obtain ⟨v, w, rfl, h1, h2⟩ := bors2 b
    cases e
    rw [h1.int_inv, h2.int_inv]
    exact ⟨i, j, rfl, k _ H (Ext.refl H) (.int _)⟩
theorem prMax2 : PrimR Γ (fun xs H Q => ∃ i j, xs = [.int i, .int j] ∧ Q (.int (if j > i then j else i)) H) pMax2 := by
  intro O H vs ds s Q m b e k
  match ds, e with
  | [.int i, .int j], e =>
    obtain ⟨v, w, rfl, h1, h2⟩ := bors2 b
    cases e
    rw [h1.int_inv, h2.int_inv]
    exact ⟨i, j, rfl, k _ H (Ext.refl H) (.int _)⟩
/-- isinstance against a built-in class -/
def tyD : D → Option String
  | .non => some "NoneType"
  | .bl _ => some "bool"
  | .int _ => some "int"
  | .str _ => some "str"
  | .tup _ => some "tuple"
  | .ktup _ => some "tuple"
  | .lst _ => some "list"
  | .scr _ => some "list"
  | .dK _ => some "dict"
  | .dT _ => some "dict"
  | _ => none
def isiB (a b : String) : Option Bool :=
  if b = "int" then some (a == "int" || a == "bool") else if b = "bool" ∨ b = "str" ∨ b = "tuple" ∨ b = "list" ∨ b = "dict" then some (a == b) else none
theorem isiB_ok {a b : String} {r : Bool} (ha : a = "NoneType" ∨ a = "bool" ∨ a = "int" ∨ a = "str" ∨ a = "tuple" ∨ a = "list" ∨ a = "dict") (h : isiB a b = some r) : kitB a b = some r := by
  have hb : b = "int" ∨ b = "bool" ∨ b = "str" ∨ b = "tuple" ∨ b = "list" ∨ b = "dict" := by
    unfold isiB at h
    split at h
    · exact .inl ‹_›
    · split at h
      · exact .inr ‹_›
      · cases h
  rcases ha with rfl | rfl | rfl | rfl | rfl | rfl | rfl <;> rcases hb with rfl | rfl | rfl | rfl | rfl | rfl <;> (rw [← h]; decide +kernel)
def pIsi : List D → Option Slot
  | [d, .ty b] => match tyD d with
    | some a => (isiB a b).map fun r => (.bl r, false)
    | none => none
  | _ => none
theorem Bor.tyx {d : D} {a : String} (h : Bor Γ O H v d) (e : tyD d = some a) : TyX Γ.K H v (.type a) := by
  cases d with
  | non => cases e; rw [h.non_inv]; exact .base .non
  | bl b => cases e; rw [h.bl_inv]; exact .base (.bl _)
  | int b => cases e; rw [h.int_inv]; exact .base (.int _)
  | str b => cases e; rw [h.str_inv.1]; exact .base (.str _)
  | tup xs => cases e; obtain ⟨a, us, rfl, ha, ra⟩ := h.tup_inv; exact .base (.tup ha)
  | ktup xs => cases e; obtain ⟨a, us, rfl, ⟨o, its, n, h1, h2, _⟩, ra⟩ := h.ktup_inv; exact .kTuple h1 h2
  | lst xs => cases e; obtain ⟨a, us, rfl, ha, ra⟩ := h.lst_inv; exact .base (.lst ha)
  | scr xs =>
    cases e
    obtain ⟨a, rfl, ha⟩ := h.scr_inv
    rcases ha with ⟨o, ha⟩ | ⟨o, its, n, h1, h2, _⟩
    · exact .base (.frz ha)
    · exact .kList h1 h2
  | dK xs => cases e; obtain ⟨a, us, rfl, ha, _⟩ := h.dK_inv; exact .base (.dK ha)
  | dT xs => cases e; obtain ⟨a, us, rfl, ha, _⟩ := h.dT_inv; exact .base (.dT ha)
  | _ => cases e
theorem tyD_cases {d : D} {a : String} (e : tyD d = some a) : a = "NoneType" ∨ a = "bool" ∨ a = "int" ∨ a = "str" ∨ a = "tuple" ∨ a = "list" ∨ a = "dict" := by
  cases d <;> first | (cases e; done) | (cases e; simp)
theorem prIsi : PrimR Γ (rIsi Γ.K) pIsi := by
  intro O H vs ds s Q m b e k
  match ds, e with
  | [d, .ty c], e =>
    obtain ⟨v, w, rfl, h1, h2⟩ := bors2 b
    simp only [pIsi] at e
    cases q : tyD d with
    | none => rw [q] at e; cases e
    | some a =>
      rw [q] at e
      simp only at e
      cases q2 : isiB a c with
      | none => rw [q2] at e; cases e
      | some r =>
        rw [q2] at e
        cases e
        rw [h2.ty_inv]
        exact ⟨v, .ty c, _, _, r, rfl, .ty c, h1.tyx q, kit_ty (isiB_ok (tyD_cases q) q2), k _ H (Ext.refl H) (.bl _)⟩
end
end VS

namespace VS
open PySem L2 PySem.Spec PyProof.Rows
section
variable {Γ : Gm} {W : WX} {Z : Addr → Prop} {σ : L2.St} {ρ : Sl} {O : Addr → Prop} {H : Hp} {v : V} {fx : List Nat}
/-! ### what takes its parts: displays -/
def allE : List Opd → Bool
  | [] => true
  | .e _ :: os => allE os
  | .v _ :: _ => false
def PrimC (Γ : Gm) (r : List V → Hp → VK → Prop) (f : List D → Option Slot) : Prop :=
  ∀ O H vs ds s Q, (∀ a, O a → Mut (H a)) → Reps Γ O H vs ds → f ds = some s → PEnd Γ O H s Q → r vs H Q
theorem OR.reps {os : List Opd} {xs : List (Option D)} {vs : List V} (h : OR Γ Z σ ρ H os xs vs) : ∀ {ds : List D}, allE os = true → VS.late os xs ρ = some ds → Reps Γ (OA Z σ ρ) H vs ds := by
  induction h with
  | nil => intro ds _ e; cases e; exact .nil
  | v => intro ds a; cases a
  | @e m d v os xs vs hr _ ih =>
    intro ds a e
    unfold VS.late at e
    cases q2 : VS.late os xs ρ with
    | none => rw [q2] at e; cases e
    | some ds' =>
      rw [q2] at e
      cases e
      exact .cons hr (ih a q2)
theorem SE.primC {r : List V → Hp → VK → Prop} {f : List D → Option Slot} {ta : TA} {os : List Opd} (hr : PrimC Γ r f) (ha : SA Γ W ta os) (he : allE os = true) : SE Γ W (tCB r ta) (cPrim f os) := by
  intro Z σ ρ H Q F k
  refine ha.run F ?_
  unfold cPrim at k
  revert k
  cases evO os ρ with
  | exc c fs ρ' => exact fun k => k
  | stuck => exact fun k => k
  | ok xs ρ' =>
    intro k vs H' f' s o
    have k := EndV.on s k
    simp only [Res.bind_ok] at k
    unfold fin at k
    cases q : late os xs ρ' with
    | none => rw [q] at k; exact k.elim
    | some ds =>
      rw [q] at k
      simp only at k
      cases q2 : f ds with
      | none => rw [q2] at k; exact k.elim
      | some sl =>
        rw [q2] at k
        refine hr _ _ _ _ sl Q f'.mu (o.reps he q) q2 ?_
        obtain ⟨d, b⟩ := sl
        cases b with
        | false => exact fun v H' e r => k v H' (f'.ext e) e.step r
        | true =>
          intro p H' hp e w
          refine k p H' (f'.zadd e hp w.mut) e.step (fun z => f'.nfresh hp (.inl z)) (.inl hp) ?_
          have e2 : (OA (Zadd Z p) σ ρ') = (fun b => OA Z σ ρ' b ∨ b = p) := by
            funext b
            exact propext OA.zadd
          rw [e2]
          exact w
def rTup : List V → Hp → VK → Prop := fun xs H Q => xs.length ≤ sizeLine ∧ ∀ p, H p = none → Q (.ref p) (upd H p (.tup xs))
def rLst : List V → Hp → VK → Prop := fun xs H Q => xs.length ≤ sizeLine ∧ ∀ p, H p = none → Q (.ref p) (upd H p (.lst xs))
def pTup (ds : List D) : Option Slot := if ds.length ≤ 1000 then some (.tup ds, false) else none
def pLst (ds : List D) : Option Slot := if ds.length ≤ 1000 then some (.lst ds, true) else none
theorem sz1000 {n : Nat} (h : n ≤ 1000) : n ≤ sizeLine := Nat.le_trans h (by decide)
theorem prTup : PrimC Γ rTup pTup := by
  intro O H vs ds s Q m r e k
  unfold pTup at e
  split at e
  · rename_i hz
    cases e
    exact ⟨sz1000 (by rw [r.length]; exact hz), fun p hp => new_tup m r k p hp⟩
  · cases e
theorem prLst : PrimC Γ rLst pLst := by
  intro O H vs ds s Q m r e k
  unfold pLst at e
  split at e
  · rename_i hz
    cases e
    exact ⟨sz1000 (by rw [r.length]; exact hz), fun p hp => new_lst m r k p hp⟩
  · cases e
theorem SE.tup {ta : TA} {os : List Opd} (ha : SA Γ W ta os) (he : allE os = true) : SE Γ W (tTup ta) (cPrim pTup os) := SE.primC prTup ha he
theorem SE.lst {ta : TA} {os : List Opd} (ha : SA Γ W ta os) (he : allE os = true) : SE Γ W (tLst ta) (cPrim pLst os) := SE.primC prLst ha he
/-- {}: ints and texts as keys; tuples of them -/
def cDK : CExp := fun ρ => .ok (.dK [], true) ρ
def cDT : CExp := fun ρ => .ok (.dT [], true) ρ
theorem SE.dnewK : SE Γ W tDNewK cDK := by
  intro Z σ ρ H Q f k
  intro p hp
  have e2 : (OA (Zadd Z p) σ ρ) = (fun b => OA Z σ ρ b ∨ b = p) := by funext b; exact propext OA.zadd
  have w : Own Γ (fun b => OA Z σ ρ b ∨ b = p) (upd H p (.dK [])) (.ref p) (.dK []) := .dK upd_same (.inr rfl) ⟨rfl, rfl⟩ .nil
  exact k p _ (f.zadd (Ext.new hp) hp w.mut) (Ext.new hp).step (fun z => f.nfresh hp (.inl z)) (.inl hp) (by rw [e2]; exact w)
theorem SE.dnewT : SE Γ W tDNewT cDT := by
  intro Z σ ρ H Q f k
  intro p hp
  have e2 : (OA (Zadd Z p) σ ρ) = (fun b => OA Z σ ρ b ∨ b = p) := by funext b; exact propext OA.zadd
  have w : Own Γ (fun b => OA Z σ ρ b ∨ b = p) (upd H p (.dT [])) (.ref p) (.dT []) := .dT upd_same (.inr rfl) ⟨rfl, rfl⟩ .nil
  exact k p _ (f.zadd (Ext.new hp) hp w.mut) (Ext.new hp).step (fun z => f.nfresh hp (.inl z)) (.inl hp) (by rw [e2]; exact w)

/-! ### calls that make lists, tuples, dicts -/
def pList : List D → Option Slot
  | [.lst xs] => some (.lst xs, true)
  | [.tup xs] => some (.lst xs, true)
  | [.ktup xs] => some (.lst xs, true)
  | [.scr ns] => some (.lst (ns.map D.int), true)
  | [.dK kvs] => some (.lst (kvs.map fun kv => match kv.1 with | .inl i => D.int i | .inr x => D.str x), true)
  | _ => none
def keyD : Key → D
  | .inl i => .int i
  | .inr x => .str x
def pTuple : List D → Option Slot
  | [.lst xs] => some (.tup xs, false)
  | [.tup xs] => some (.tup xs, false)
  | [.ktup xs] => some (.ktup xs, false)
  | _ => none
def rList1 (K : PySem.W.Frag) : List V → Hp → VK → Prop := fun xs H Q => (∃ p ys, xs = [.ref p] ∧ (SqL K H p ys ∨ SqT K H p ys) ∧ ∀ l, H l = none → Q (.ref l) (upd H l (.lst ys)))
def rTuple1 (K : PySem.W.Frag) : List V → Hp → VK → Prop := fun xs H Q => ∃ p ys, xs = [.ref p] ∧ ((SqL K H p ys ∧ ∀ l, H l = none → Q (.ref l) (upd H l (.tup ys))) ∨ (SqT K H p ys ∧ Q (.ref p) H))
def pList' : List D → Option Slot
  | [.lst xs] => some (.lst xs, true)
  | [.tup xs] => some (.lst xs, true)
  | [.ktup xs] => some (.lst xs, true)
  | [.scr ns] => some (.lst (ns.map D.int), true)
  | _ => none
theorem prList : PrimR Γ (rList1 Γ.K) pList' := by
  intro O H vs ds s Q m b e k
  match ds, e with
  | [.lst xs], e =>
    obtain ⟨v, rfl, h1⟩ := bors1 b
    cases e
    obtain ⟨a, us, rfl, ha, ra⟩ := h1.lst_inv
    exact ⟨a, us, rfl, .inl (SqL.of ha), fun p hp => new_lst m ra k p hp⟩
  | [.tup xs], e =>
    obtain ⟨v, rfl, h1⟩ := bors1 b
    cases e
    obtain ⟨a, us, rfl, ha, ra⟩ := h1.tup_inv
    exact ⟨a, us, rfl, .inr (SqT.of ha), fun p hp => new_lst m ra k p hp⟩
  | [.ktup xs], e =>
    obtain ⟨v, rfl, h1⟩ := bors1 b
    cases e
    obtain ⟨a, us, rfl, ha, ra⟩ := h1.ktup_inv
    exact ⟨a, us, rfl, .inr (.inr ha), fun p hp => new_lst m ra k p hp⟩
  | [.scr ns], e =>
    obtain ⟨v, rfl, h1⟩ := bors1 b
    cases e
    obtain ⟨a, rfl, ha⟩ := h1.scr_inv
    exact ⟨a, _, rfl, .inl ha.sq, fun p hp => new_lst m (ints_reps ns) k p hp⟩
theorem prTuple : PrimR Γ (rTuple1 Γ.K) pTuple := by
  intro O H vs ds s Q m b e k
  match ds, e with
  | [.lst xs], e =>
    obtain ⟨v, rfl, h1⟩ := bors1 b
    cases e
    obtain ⟨a, us, rfl, ha, ra⟩ := h1.lst_inv
    exact ⟨a, us, rfl, .inl ⟨SqL.of ha, fun p hp => new_tup m ra k p hp⟩⟩
  | [.tup xs], e =>
    obtain ⟨v, rfl, h1⟩ := bors1 b
    cases e
    obtain ⟨a, us, rfl, ha, ra⟩ := h1.tup_inv
    exact ⟨a, us, rfl, .inr ⟨SqT.of ha, k _ H (Ext.refl H) (.tup ha ra)⟩⟩
  | [.ktup xs], e =>
    obtain ⟨v, rfl, h1⟩ := bors1 b
    cases e
    obtain ⟨a, us, rfl, ha, ra⟩ := h1.ktup_inv
    exact ⟨a, us, rfl, .inr ⟨.inr ha, k _ H (Ext.refl H) (.ktup ha ra)⟩⟩
/-- list(d): the keys -/
def pListD : List D → Option Slot
  | [.dK kvs] => some (.lst (kvs.map fun kv => keyD kv.1), true)
  | _ => none
theorem keys_reps {ks : List Key} (h : ∀ k ∈ ks, kOk k = true) : Reps Γ O H (ks.map kV) (ks.map keyD) := by
  induction ks with
  | nil => exact .nil
  | cons k ks ih =>
    refine .cons ?_ (ih fun q hq => h q (List.mem_cons_of_mem _ hq))
    have hk := h k List.mem_cons_self
    cases k with
    | inl i => exact .int i
    | inr x => exact .str x hk
theorem prListD : PrimR Γ rListD pListD := by
  intro O H vs ds s Q m b e k
  match ds, e with
  | [.dK kvs], e =>
    obtain ⟨v, rfl, h1⟩ := bors1 b
    cases e
    obtain ⟨a, us, rfl, ha, ka, ra⟩ := h1.dK_inv
    refine ⟨a, us, rfl, ha, fun p hp => ?_⟩
    have e1 : (us.map fun kv => kV kv.1) = (us.map (·.1)).map kV := by rw [List.map_map]; rfl
    rw [e1, ka.1]
    have e2 : (kvs.map fun kv => keyD kv.1) = (kvs.map (·.1)).map keyD := by rw [List.map_map]; rfl
    refine new_lst m (ds := kvs.map fun kv => keyD kv.1) ?_ k p hp
    rw [e2]
    refine keys_reps fun q hq => ?_
    obtain ⟨kv, h3, h4⟩ := List.mem_map.mp hq
    rw [← h4]
    exact List.all_eq_true.mp ka.2 kv h3
/-- dict(d): a copy -/
def pDict : List D → Option Slot
  | [.dK kvs] => some (.dK kvs, true)
  | _ => none
def rDictC : List V → Hp → VK → Prop := fun xs H Q => ∃ a kvs, xs = [.ref a] ∧ H a = some (.dK kvs) ∧ ∀ p, H p = none → Q (.ref p) (upd H p (.dK kvs))
theorem call_dictC {X : Cx} : CallR X (.type "dict") rDictC := by
  intro pins s σ H xs us Q I r h
  obtain ⟨a, kvs, rfl, ha, q⟩ := h
  obtain ⟨u, rfl, ru⟩ := vals1 r
  obtain rfl : u = Value.ref a := ru
  exact d_copyOf I (.inl ha) fun p s' hp I' => ⟨.ref p, _, I', rfl, q p hp⟩
theorem prDict : PrimR Γ rDictC pDict := by
  intro O H vs ds s Q m b e k
  match ds, e with
  | [.dK kvs], e =>
    obtain ⟨v, rfl, h1⟩ := bors1 b
    cases e
    obtain ⟨a, us, rfl, ha, ka, ra⟩ := h1.dK_inv
    exact ⟨a, us, rfl, ha, fun p hp => k p _ hp (Ext.new hp) (.dK upd_same (.inr rfl) ka (ra.fresh m (Ext.new hp) hp))⟩
/-- xs[::-1] -/
def pRev : List D → Option Slot
  | [.lst xs] => some (.lst xs.reverse, true)
  | [.scr ns] => some (.lst (ns.map D.int).reverse, true)
  | _ => none
theorem prRev : PrimR Γ (r1l fun x H Q => ∃ a xs, x = .ref a ∧ SqL Γ.K H a xs ∧ ∀ p, H p = none → Q (.ref p) (upd H p (.lst xs.reverse))) pRev := by
  intro O H vs ds s Q m b e k
  match ds, e with
  | [.lst xs], e =>
    obtain ⟨v, rfl, h1⟩ := bors1 b
    cases e
    obtain ⟨a, us, rfl, ha, ra⟩ := h1.lst_inv
    exact ⟨a, us, rfl, SqL.of ha, fun p hp => new_lst m ra.rev k p hp⟩
  | [.scr ns], e =>
    obtain ⟨v, rfl, h1⟩ := bors1 b
    cases e
    obtain ⟨a, rfl, ha⟩ := h1.scr_inv
    exact ⟨a, _, rfl, ha.sq, fun p hp => new_lst m (ints_reps ns).rev k p hp⟩
theorem SE.rev {ta : TE} {o : Opd} (h : SO Γ W ta o) : SE Γ W (tRevL Γ.K ta) (cPrim pRev [o]) := SE.op1 prRev h
/-- xs[a:b] -/
def cutD (xs : List D) (lo hi : Option Int) : List D := (xs.drop (HT.sIx xs.length 0 lo)).take (HT.sIx xs.length xs.length hi - HT.sIx xs.length 0 lo)
end
end VS

namespace VS
open PySem L2 PySem.Spec
section
variable {Γ : Gm} {W : WX} {Z : Addr → Prop} {σ : L2.St} {ρ : Sl} {O : Addr → Prop} {H : Hp} {v : V} {fx : List Nat}
/-! ### a receiver and its arguments -/
def rcl (r : V → List V → Hp → VK → Prop) : List V → Hp → VK → Prop := fun vs H Q => match vs with
  | x :: xs => r x xs H Q
  | [] => False
def cRecv (pk : D → Bool) (f : List D → Option Slot) (o : Opd) (os : List Opd) : CExp := fun ρ => match o with
  | .v i => match ρ[i]? with
    | some (some s) => if pk s.1 = true then cPrim f (.v i :: os) ρ else .stuck
    | _ => .stuck
  | .e m => (m ρ).bind fun s ρ1 => if pk s.1 = true then (evO os ρ1).bind fun xs ρ2 => fin f (.e m :: os) (some s.1 :: xs) ρ2 else .stuck
theorem SE.recv {to : TE} {ta : TA} {P : V → Hp → Prop} {G : L2.St → VK → V → Hp → Prop} {pk : D → Bool} {r : V → List V → Hp → VK → Prop} {f : List D → Option Slot} {o : Opd} {os : List Opd} (hP : ∀ O H v d, Bor Γ O H v d → pk d = true → P v H) (hr : PrimR Γ (rcl r) f) (ho : SO Γ W to o) (ha : SA Γ W ta os)
    (hG : ∀ σ Q x H1, P x H1 → ta σ H1 (fun xs H2 => r x xs H2 Q) → G σ Q x H1) : SE Γ W (fun σ H Q => to σ H (G σ Q)) (cRecv pk f o os) := by
  intro Z σ ρ H Q F k
  cases o with
  | v i =>
    have e : to = tVar i := ho
    subst e
    unfold cRecv at k
    simp only at k
    cases q : ρ[i]? with
    | none => rw [q] at k; exact k.elim
    | some w =>
      cases w with
      | none => rw [q] at k; exact k.elim
      | some s =>
        rw [q] at k
        simp only at k
        split at k
        · rename_i hpk
          obtain ⟨v, hv, b⟩ := F.get q
          refine ⟨v, hv, hG σ Q v H (hP _ _ _ _ b hpk) (ha.run F ?_)⟩
          unfold cPrim evO at k
          rw [q] at k
          simp only at k
          revert k
          cases evO os ρ with
          | ok xs ρ' => exact fun k vs H' f' s o => prim_end (r := rcl r) (vs := v :: vs) hr f' (.v hv o) (EndV.on s k)
          | exc c fs ρ' => exact fun k => k
          | stuck => exact fun k => k
        · exact k.elim
  | e m =>
    have hm : SE Γ W to m := ho
    refine hm.val F ?_
    unfold cRecv at k
    simp only at k
    revert k
    cases m ρ with
    | exc c fs ρ' => exact fun k => k
    | stuck => exact fun k => k
    | ok s ρ1 =>
      intro k v H1 f1 s1 r1
      simp only [Res.bind_ok] at k
      split at k
      · rename_i hpk
        refine hG σ Q v H1 (hP _ _ _ _ (.rep r1) hpk) (ha.run f1 ?_)
        revert k
        cases evO os ρ1 with
        | ok xs ρ' => exact fun k vs H' f' s o => prim_end (r := rcl r) (vs := v :: vs) hr f' (.e (s.rep f1 r1) o) (EndV.on (s1.trans s) k)
        | exc c fs ρ' => exact fun k => PostX.on s1 k
        | stuck => exact fun k => k
      · exact k.elim
/-- d.get(k, x) -/
def isDict : D → Bool
  | .dK _ => true
  | .dT _ => true
  | _ => false
theorem Bor.isD {d : D} (h : Bor Γ O H v d) (e : isDict d = true) : ∃ a, v = .ref a ∧ IsD H a := by
  cases d with
  | dK kvs => obtain ⟨a, us, rfl, ha, _⟩ := h.dK_inv; exact ⟨a, rfl, .inl ⟨_, .inl ha⟩⟩
  | dT kvs => obtain ⟨a, us, rfl, ha, _⟩ := h.dT_inv; exact ⟨a, rfl, .inr ⟨_, .inl ha⟩⟩
  | _ => cases e
def flat1 : D → Bool
  | .non => true
  | .bl _ => true
  | .int _ => true
  | .str _ => true
  | .tup _ => true
  | _ => false
theorem Bor.flat1 {d : D} (h : Bor Γ O H v d) (e : flat1 d = true) : Rep Γ O H v d := by
  cases h with
  | rep h => exact h
  | own h => cases h <;> cases e
def pGet2 : List D → Option Slot
  | [d, k, x] => if flat1 x = true then (match dLook d k with
    | some (some z) => some (z, false)
    | some none => some (x, false)
    | none => none) else none
  | _ => none
theorem prGet2 : PrimR Γ (rcl fun x xs H Q => ∃ a y z o, x = .ref a ∧ xs = [y, z] ∧ DGet H a y o ∧ Q (o.getD z) H) pGet2 := by
  intro O H vs ds s Q m b e k
  match ds, e with
  | [d, ky, x], e =>
    obtain ⟨v, w, u, rfl, h1, h2, h3⟩ := bors3 b
    simp only [pGet2] at e
    split at e
    · rename_i hx
      cases q : dLook d ky with
      | none => rw [q] at e; cases e
      | some o =>
        rw [q] at e
        obtain ⟨a, ov, rfl, g, _, r⟩ := dLook_ok h1 h2 q
        refine ⟨a, w, u, ov, rfl, rfl, g, ?_⟩
        cases o with
        | some z =>
          cases e
          cases ov with
          | some y => exact k _ H (Ext.refl H) r
          | none => exact r.elim
        | none =>
          cases e
          cases ov with
          | some y => exact r.elim
          | none => exact k _ H (Ext.refl H) (h3.flat1 hx)
    · cases e
theorem SE.get2 {td ty tx : TE} {o1 o2 o3 : Opd} (h1 : SO Γ W td o1) (h2 : SO Γ W ty o2) (h3 : SO Γ W tx o3) : SE Γ W (tDGet2 td ty tx) (cRecv isDict pGet2 o1 [o2, o3]) :=
  SE.recv (P := fun x H => ∃ a, x = .ref a ∧ IsD H a) (G := fun σ Q x H1 => ∃ a, x = .ref a ∧ IsD H1 a ∧ ty σ H1 fun y H2 => tx σ H2 fun z H3 => ∃ o, DGet H3 a y o ∧ Q (o.getD z) H3)
    (r := fun x xs H Q => ∃ a y z o, x = .ref a ∧ xs = [y, z] ∧ DGet H a y o ∧ Q (o.getD z) H) (fun _ _ _ _ b e => b.isD e) prGet2 h1 (.cons h2 (.cons h3 .nil)) (fun σ Q x H1 ⟨a, e, i⟩ h => by
      subst e
      refine ⟨a, rfl, i, ?_⟩
      have h : ty σ H1 fun y H2 => tx σ H2 fun z H3 => ∃ a' y' z' o, V.ref a = .ref a' ∧ [y, z] = [y', z'] ∧ DGet H3 a' y' o ∧ Q (o.getD z') H3 := h
      have e2 : (fun y H2 => tx σ H2 fun z H3 => ∃ a' y' z' o, V.ref a = .ref a' ∧ [y, z] = [y', z'] ∧ DGet H3 a' y' o ∧ Q (o.getD z') H3) = (fun y H2 => tx σ H2 fun z H3 => ∃ o, DGet H3 a y o ∧ Q (o.getD z) H3) := by
        funext y H2
        congr
        funext z H3
        refine propext ⟨?_, ?_⟩
        · rintro ⟨a', y', z', o, e1, e2, g, q⟩
          cases e1
          cases e2
          exact ⟨o, g, q⟩
        · rintro ⟨o, g, q⟩
          exact ⟨a, y, z, o, rfl, rfl, g, q⟩
      rw [← e2]
      exact h)
/-- sep.join(texts) -/
def isStr : D → Bool
  | .str _ => true
  | _ => false
def strsOf : List D → Option (List Str)
  | [] => some []
  | .str x :: r => (strsOf r).map (x :: ·)
  | _ :: _ => none
theorem Reps.strs : ∀ {vs : List V} {ds : List D} {ys : List Str}, Reps Γ O H vs ds → strsOf ds = some ys → vs = ys.map V.str ∧ ∀ y ∈ ys, PyData.strOk y = true
  | _, _, _, .nil, e => by cases e; exact ⟨rfl, fun _ h => nomatch h⟩
  | _, _, ys, .cons h r, e => by
    rename_i v vs d ds
    cases d with
    | str x =>
      simp only [strsOf] at e
      cases q : strsOf ds with
      | none => rw [q] at e; cases e
      | some ys' =>
        rw [q] at e
        cases e
        obtain ⟨h1, h2⟩ := Reps.strs r q
        obtain ⟨g1, g2⟩ := Bor.str_inv (.rep h)
        refine ⟨by rw [g1, h1]; rfl, fun y hy => ?_⟩
        rcases List.mem_cons.mp hy with e | hy
        · rw [e]; exact g2
        · exact h2 y hy
    | _ => cases e
theorem strOk_join1 {a : Str} (ha : PyData.strOk a = true) : ∀ {ys : List Str}, (∀ y ∈ ys, PyData.strOk y = true) → PyData.strOk (Str.join a ys) = true
  | [], _ => by show PyData.strOk Str.empty = true; decide +kernel
  | [y], h => h y List.mem_cons_self
  | y :: z :: r, h => strOk_append (strOk_append (h y List.mem_cons_self) ha) (strOk_join1 ha (ys := z :: r) fun w hw => h w (List.mem_cons_of_mem _ hw))
theorem strOk_join {a : Str} (ha : PyData.strOk a = true) {ys : List Str} (h : ∀ y ∈ ys, PyData.strOk y = true) : PyData.strOk (Txt.join a ys) = true := by
  rw [TL.join_eq]
  exact strOk_join1 ha h
def pJoin : List D → Option Slot
  | [.str a, .lst xs] => match strsOf xs with
    | some ys => if (ys.map (·.length)).sum + ys.length * a.length ≤ 16777216 then some (.str (Str.join a ys), false) else none
    | none => none
  | _ => none
def rJoin (K : PySem.W.Frag) : V → List V → Hp → VK → Prop := fun x xs H Q => ∃ a p, ∃ ys : List Str, x = .str a ∧ xs = [.ref p] ∧ (SqL K H p (ys.map V.str) ∨ SqT K H p (ys.map V.str)) ∧
    (ys.map (·.length)).sum + ys.length * a.length ≤ 16777216 ∧ Q (.str (Txt.join a ys)) H
theorem prJoin : PrimR Γ (rcl (rJoin Γ.K)) pJoin := by
  intro O H vs ds s Q m b e k
  match ds, e with
  | [.str a, .lst xs], e =>
    obtain ⟨v, w, rfl, h1, h2⟩ := bors2 b
    simp only [pJoin] at e
    cases q : strsOf xs with
    | none => rw [q] at e; cases e
    | some ys =>
      rw [q] at e
      simp only at e
      split at e
      · rename_i hz
        cases e
        obtain ⟨p, us, rfl, ha, ra⟩ := h2.lst_inv
        obtain ⟨g1, g2⟩ := ra.strs q
        subst g1
        rw [h1.str_inv.1]
        refine ⟨a, p, ys, rfl, rfl, .inl (SqL.of ha), hz, ?_⟩
        have ej : Txt.join a ys = Str.join a ys := TL.join_eq a ys
        rw [ej]
        exact k _ H (Ext.refl H) (.str _ (strOk_join1 h1.str_inv.2 g2))
      · cases e
theorem SE.join {to te : TE} {o1 o2 : Opd} (h1 : SO Γ W to o1) (h2 : SO Γ W te o2) : SE Γ W (tM1 (rJoin Γ.K) to te) (cRecv isStr pJoin o1 [o2]) :=
  SE.recv (P := fun x _ => ∃ a, x = .str a) (G := fun σ Q x H1 => (∃ a, x = .str a) ∧ te σ H1 fun y H2 => rJoin Γ.K x [y] H2 Q) (r := rJoin Γ.K) (fun _ _ v d b e => by
    cases d with
    | str x => exact ⟨x, b.str_inv.1⟩
    | _ => cases e) prJoin h1 (.cons h2 .nil) (fun σ Q x H1 p h => ⟨p, h⟩)

/-! ### == of dicts too (equal ones) -/
def sameS : D → D → Bool
  | .non, .non => true
  | .bl a, .bl b => a == b
  | .int a, .int b => a == b
  | .str a, .str b => a == b
  | _, _ => false
def eqK (a b : List (Key × D)) : Bool := decide (a.length = b.length) && a.all fun kd => match dGet b kd.1 with
  | some e => sameS kd.2 e
  | none => false
def pEqA : List D → Option Slot
  | [.dK a, .dK b] => if eqK a b = true then some (.bl true, false) else none
  | ds => pEq ds
def rEqA (K : PySem.W.Frag) : R2 := fun x y H Q => rEqD K x y H Q ∨ rEqV K x y H Q
theorem opEq {X : Cx} (hu : X.A.units + 64 < cLine) : OpR X (compareOp .Eq) (rEqA X.K) := (op_eqD hu).or (op_eqV hu)
theorem sameS_ok {x y : V} {d e : D} (h1 : Rep Γ O H x d) (h2 : Rep Γ O H y e) (s : sameS d e = true) : x = y ∧ flatB x = true := by
  cases d with
  | non => cases e with | non => rw [Bor.non_inv (.rep h1), Bor.non_inv (.rep h2)]; exact ⟨rfl, rfl⟩ | _ => cases s
  | bl a => cases e with | bl b => rw [Bor.bl_inv (.rep h1), Bor.bl_inv (.rep h2)]; exact ⟨by rw [eq_of_beq s], rfl⟩ | _ => cases s
  | int a => cases e with | int b => rw [Bor.int_inv (.rep h1), Bor.int_inv (.rep h2)]; exact ⟨by rw [eq_of_beq s], rfl⟩ | _ => cases s
  | str a => cases e with | str b => rw [(Bor.str_inv (.rep h1)).1, (Bor.str_inv (.rep h2)).1]; exact ⟨by rw [eq_of_beq s], rfl⟩ | _ => cases s
  | _ => cases e <;> cases s
theorem prEqA : PrimR Γ (r2l (rEqA Γ.K)) pEqA := by
  intro O H vs ds s Q m b e k
  unfold pEqA at e
  split at e
  · rename_i a c
    split at e
    · rename_i hz
      cases e
      obtain ⟨v, w, rfl, h1, h2⟩ := bors2 b
      obtain ⟨p, ks, rfl, hp, kp, rp⟩ := h1.dK_inv
      obtain ⟨q, ls, rfl, hq, kq, rq⟩ := h2.dK_inv
      obtain ⟨z1, z2⟩ := Bool.and_eq_true_iff.mp hz
      have R1 := KR.of kp.1 rp
      have R2 := KR.of kq.1 rq
      refine .inr ⟨1, by decide, .inr ⟨p, q, ks, ls, rfl, rfl, hp, hq, by rw [R1.len, R2.len]; exact of_decide_eq_true z1, ?_⟩, k _ H (Ext.refl H) (.bl true)⟩
      clear hz z1 kp rp hp h1 b
      induction R1 with
      | nil => exact fun _ h => nomatch h
      | @cons ky v d kvs ds r _ ih =>
        simp only [List.all_cons, Bool.and_eq_true] at z2
        intro pr hpr
        rcases List.mem_cons.mp hpr with e | hpr
        · subst e
          have z3 := z2.1
          rcases R2.get (k := ky) with ⟨u, d2, g1, g2, g3⟩ | ⟨g1, g2⟩
          · rw [g2] at z3
            exact ⟨u, g1, .inl (sameS_ok r g3 z3)⟩
          · rw [g2] at z3; cases z3
        · exact ih z2.2 pr hpr
    · cases e
  · have := prEq (Γ := Γ) O H vs ds s Q m b e k
    revert this
    match vs with
    | [x, y] => exact fun h => .inl h
    | [] => exact fun h => h
    | [_] => exact fun h => h
    | _ :: _ :: _ :: _ => exact fun h => h

/-! ### changes in place -/
/-- x.m(..) with x an owned name: what becomes of x, what comes back -/
def MutR (Γ : Gm) (r : V → List V → Hp → VK → Prop) (f : D → List D → Option (D × D)) : Prop :=
  ∀ O H a vs d ds d' z Q, (∀ b, O b → Mut (H b)) → Own Γ O H (.ref a) d → Reps Γ O H vs ds → f d ds = some (d', z) →
    (∀ o v, Own Γ O (upd H a o) (.ref a) d' → Rep Γ O (upd H a o) v z → Q v (upd H a o)) → r (.ref a) vs H Q
def cMut (i : Nat) (pk : D → Bool) (f : D → List D → Option (D × D)) (os : List Opd) : CExp := fun ρ => match ρ[i]? with
  | some (some (d0, true)) => if pk d0 = true then (evO os ρ).bind fun xs ρ1 => (match late os xs ρ1, ρ1[i]? with
    | some ds, some (some (d, true)) => (match f d ds with
      | some (d', z) => .ok (z, false) (ρ1.set i (some (d', true)))
      | none => .stuck)
    | _, _ => .stuck) else .stuck
  | _ => .stuck
theorem SE.mut {i : Nat} {ta : TA} {P : V → Hp → Prop} {pk : D → Bool} {r : V → List V → Hp → VK → Prop} {f : D → List D → Option (D × D)} {os : List Opd} {G : L2.St → VK → V → Hp → Prop} (hP : ∀ O H v d, Bor Γ O H v d → pk d = true → P v H) (hr : MutR Γ r f) (ha : SA Γ W ta os) (he : allE os = true)
    (hG : ∀ σ Q x H1, P x H1 → ta σ H1 (fun xs H2 => r x xs H2 Q) → G σ Q x H1) : SE Γ W (fun σ H Q => tVar i σ H (G σ Q)) (cMut i pk f os) := by
  intro Z σ ρ H Q F k
  unfold cMut at k
  cases q : ρ[i]? with
  | none => rw [q] at k; exact k.elim
  | some w =>
    cases w with
    | none => rw [q] at k; exact k.elim
    | some s =>
      obtain ⟨d0, b⟩ := s
      cases b with
      | false => rw [q] at k; exact k.elim
      | true =>
        rw [q] at k
        simp only at k
        split at k
        · rename_i hpk
          obtain ⟨v, hv, b⟩ := F.get q
          refine ⟨v, hv, hG σ Q v H (hP _ _ _ _ b hpk) (ha.run F ?_)⟩
          revert k
          cases evO os ρ with
          | exc c fs ρ' => exact fun k => k
          | stuck => exact fun k => k
          | ok xs ρ1 =>
            intro k vs H' f' s o
            simp only [Res.bind_ok] at k
            cases q1 : late os xs ρ1 with
            | none => rw [q1] at k; exact k.elim
            | some ds =>
              cases q2 : ρ1[i]? with
              | none => rw [q1, q2] at k; exact k.elim
              | some w =>
                cases w with
                | none => rw [q1, q2] at k; exact k.elim
                | some t =>
                  obtain ⟨d, b'⟩ := t
                  cases b' with
                  | false => rw [q1, q2] at k; exact k.elim
                  | true =>
                    rw [q1, q2] at k
                    simp only at k
                    cases q3 : f d ds with
                    | none => rw [q3] at k; exact k.elim
                    | some z =>
                      obtain ⟨d', z⟩ := z
                      rw [q3] at k
                      obtain ⟨v', hv', ow⟩ := f'.ow i d q2
                      rw [hv] at hv'
                      cases hv'
                      obtain ⟨a, rfl, oa, _⟩ := ow.ref
                      refine hr _ _ _ _ _ _ _ _ Q f'.mu ow (o.reps he q1) q3 fun ob v2 w2 r2 => ?_
                      obtain ⟨g1, g2⟩ := f'.write q2 hv w2
                      have hs : ∀ b, roots σ (ρ1.set i (some (d', true))) b → roots σ ρ1 b := by
                        rintro b ⟨j, e, e1, e2⟩
                        rcases set_some e1 with ⟨rfl, _, _⟩ | ⟨z, _⟩
                        · exact ⟨i, d, q2, e2⟩
                        · exact ⟨j, e, z, e2⟩
                      have hm : ∀ b, OA Z σ ρ1 b → Mut (upd H' a ob b) := by
                        intro b z
                        by_cases eb : b = a
                        · subst eb; exact w2.mut
                        · rw [upd_ne eb]; exact f'.mu b z
                      exact k v2 _ g1 (s.trans g2) (r2.to ⟨fun b u _ z => z.imp id (hs b), hm, fun _ _ h _ => h⟩)
        · exact k.elim
end
end VS

namespace VS
open PySem L2 PySem.Spec
section
variable {Γ : Gm} {W : WX} {Z : Addr → Prop} {σ : L2.St} {ρ : Sl} {O : Addr → Prop} {H : Hp} {v : V} {fx : List Nat}
/-! ### list methods that change -/
def isLst : D → Bool
  | .lst _ => true
  | _ => false
theorem Bor.tyL {d : D} (h : Bor Γ O H v d) (e : isLst d = true) : tyV Γ.K "list" v H := by
  cases d with
  | lst xs => obtain ⟨a, us, rfl, ha, _⟩ := h.lst_inv; exact .inl ⟨rfl, us, SqL.of ha⟩
  | _ => cases e
theorem own_upd_lst {a : Addr} {vs us : List V} {ds ds' : List D} (m : ∀ b, O b → Mut (H b)) (h : Own Γ O H (.ref a) (.lst ds)) (r : Reps Γ O H us ds') : Own Γ O (upd H a (.lst us)) (.ref a) (.lst ds') := by
  cases h with
  | lst _ o _ => exact .lst upd_same o (r.to ⟨fun _ _ _ z => z, m, fun b u hb n => by rw [upd_ne (fun e => n (by rw [e]; exact o))]; exact hb⟩)
theorem ov_upd {a : Addr} {o : HO} (m : ∀ b, O b → Mut (H b)) (oa : O a) : Ov O O H (upd H a o) := ⟨fun _ _ _ z => z, m, fun b u hb n => by rw [upd_ne (fun e => n (by rw [e]; exact oa))]; exact hb⟩
theorem Own.oa {a : Addr} {d : D} (h : Own Γ O H (.ref a) d) : O a := by
  obtain ⟨b, e, o, _⟩ := h.ref
  cases e
  exact o
def fApp : D → List D → Option (D × D)
  | .lst xs, [d] => if xs.length < sizeLine then some (.lst (xs ++ [d]), .non) else none
  | _, _ => none
theorem mrApp : MutR Γ rAppend fApp := by
  intro O H a vs d ds d' z Q m ow r e k
  unfold fApp at e
  split at e
  · rename_i xs y
    split at e
    · rename_i hz
      cases e
      cases r with
      | cons r1 r2 =>
        cases r2
        cases ow with
        | lst h o r =>
          exact ⟨a, _, _, rfl, rfl, h, by rw [r.length]; exact hz, k _ _ (.lst upd_same o ((r.append (.cons r1 .nil)).to (ov_upd m o))) .non⟩
    · cases e
  · cases e
def fPop : D → List D → Option (D × D)
  | .lst xs, [] => match xs[xs.length - 1]? with
    | some d => some (.lst xs.dropLast, d)
    | none => none
  | _, _ => none
theorem mrPop : MutR Γ rPop fPop := by
  intro O H a vs d ds d' z Q m ow r e k
  unfold fPop at e
  split at e
  · rename_i xs
    cases q : xs[xs.length - 1]? with
    | none => rw [q] at e; cases e
    | some y =>
      rw [q] at e
      cases e
      cases r
      cases ow with
      | @lst _ us _ h o r =>
        obtain ⟨v, h1, h2⟩ := r.get q
        rw [← r.length] at h1
        exact ⟨a, us, v, rfl, rfl, h, h1, k _ _ (.lst upd_same o (r.dropLast.to (ov_upd m o))) (h2.to (ov_upd m o))⟩
  · cases e
def fClear : D → List D → Option (D × D)
  | .lst _, [] => some (.lst [], .non)
  | _, _ => none
theorem mrClear : MutR Γ rClear fClear := by
  intro O H a vs d ds d' z Q m ow r e k
  unfold fClear at e
  split at e
  · cases e
    cases r
    cases ow with
    | @lst _ us _ h o r => exact ⟨a, us, rfl, rfl, h, k _ _ (.lst upd_same o .nil) .non⟩
  · cases e
def cApp (i : Nat) (m : CExp) : CExp := cMut i isLst fApp [.e m]
def cPop (i : Nat) : CExp := cMut i isLst fPop []
def cClear (i : Nat) : CExp := cMut i isLst fClear []
theorem SE.app {i : Nat} {te : TE} {m : CExp} (h : SE Γ W te m) : SE Γ W (tBM Γ.K "list" rAppend (tVar i) (tCons te tNil)) (cApp i m) :=
  SE.mut (P := fun x H => tyV Γ.K "list" x H) (G := fun σ Q x H1 => tyV Γ.K "list" x H1 ∧ tCons te tNil σ H1 fun xs H2 => rAppend x xs H2 Q) (fun _ _ _ _ b e => b.tyL e) mrApp (.cons h .nil) rfl (fun σ Q x H1 p h => ⟨p, h⟩)
theorem SE.pop {i : Nat} : SE Γ W (tBM0 Γ.K "list" rPop (tVar i)) (cPop i) :=
  SE.mut (P := fun x H => tyV Γ.K "list" x H) (G := fun σ Q x H1 => tyV Γ.K "list" x H1 ∧ rPop x [] H1 Q) (fun _ _ _ _ b e => b.tyL e) mrPop .nil rfl (fun σ Q x H1 p h => ⟨p, h⟩)
theorem SE.clear {i : Nat} : SE Γ W (tBM0 Γ.K "list" rClear (tVar i)) (cClear i) :=
  SE.mut (P := fun x H => tyV Γ.K "list" x H) (G := fun σ Q x H1 => tyV Γ.K "list" x H1 ∧ rClear x [] H1 Q) (fun _ _ _ _ b e => b.tyL e) mrClear .nil rfl (fun σ Q x H1 p h => ⟨p, h⟩)

/-! ### x[i] = v -/
def rSetD : V → V → V → Hp → (Hp → Prop) → Prop := fun o i v H Q => ∃ a H', o = .ref a ∧ DPut H a i v H' ∧ Q H'
def rSetA : V → V → V → Hp → (Hp → Prop) → Prop := fun o i v H Q => rSetL o i v H Q ∨ rSetD o i v H Q
theorem set_any {X : Cx} (hu : X.A.units + 1 < cLine) : PSet X rSetA := by
  intro pins s σ H o i v ov iv u Q I ro ri rv h
  rcases h with h | ⟨a, H', rfl, g, q⟩
  · exact set_list pins s σ H o i v ov iv u Q I ro ri rv h
  · obtain rfl : ov = Value.ref a := ro
    exact d_setItem hu I g ri rv fun s' I' => ⟨H', I', q⟩
def dStore : D → D → D → Option D
  | .lst xs, .int i, v => (ixN xs.length i).map fun j => .lst (xs.set j v)
  | .dK kvs, k, v => match dkey k with
    | some k => if kvs.length < sizeLine then some (.dK (dPut kvs k v)) else none
    | none => none
  | .dT kvs, .tup ks, v => match dkeys ks with
    | some k => if kvs.length < sizeLine then some (.dT (dPut kvs k v)) else none
    | none => none
  | _, _, _ => none
theorem dHas_all {κ : Type} [DecidableEq κ] {p : κ → Bool} {k : κ} {d : D} (hk : p k = true) : ∀ {ds : List (κ × D)}, (ds.all fun kd => p kd.1) = true → ((dSet ds k d).all fun kd => p kd.1) = true
  | [], _ => rfl
  | (k', e) :: r, h => by
    simp only [List.all_cons, Bool.and_eq_true] at h
    unfold dSet
    simp only [List.all_cons, Bool.and_eq_true]
    refine ⟨?_, dHas_all hk h.2⟩
    split <;> exact h.1
theorem dPut_all {κ : Type} [DecidableEq κ] {p : κ → Bool} {k : κ} {d : D} (hk : p k = true) {ds : List (κ × D)} (h : (ds.all fun kd => p kd.1) = true) : ((dPut ds k d).all fun kd => p kd.1) = true := by
  unfold dPut
  split
  · exact dHas_all hk h
  · simp only [List.all_append, h, List.all_cons, hk, List.all_nil, Bool.and_self]
theorem ksOk_put {k : Key} {d : D} {ds : List (Key × D)} (h : ksOk ds = true) (hk : kOk k = true) : ksOk (dPut ds k d) = true := dPut_all (p := kOk) hk h
theorem ktOk_put {k : List Key} {d : D} {ds : List (List Key × D)} (h : ktOk ds = true) (hk : k.all kOk = true) : ktOk (dPut ds k d) = true := dPut_all (p := fun (k : List Key) => k.all kOk) hk h
theorem Rep.keyOk {y : V} {i : D} {k : Key} (h : Rep Γ O H y i) (e : dkey i = some k) : kOk k = true := by
  cases i with
  | int j => cases e; rfl
  | str x => cases e; exact (Bor.str_inv (.rep h)).2
  | _ => cases e
theorem Reps.keysOk : ∀ {vs : List V} {ds : List D} {ks : List Key}, Reps Γ O H vs ds → dkeys ds = some ks → ks.all kOk = true
  | _, _, _, .nil, e => by cases e; rfl
  | _, _, ks, .cons h r, e => by
    rename_i v vs d ds
    unfold dkeys at e
    cases q1 : dkey d with
    | none => rw [q1] at e; cases e
    | some k =>
      cases q2 : dkeys ds with
      | none => rw [q1, q2] at e; cases e
      | some ks' =>
        rw [q1, q2] at e
        cases e
        simp only [List.all_cons, Rep.keyOk h q1, Reps.keysOk r q2, Bool.and_self]
theorem store_okD {a : Addr} {d i z d' : D} {y v : V} {Q : Hp → Prop} (m : ∀ b, O b → Mut (H b)) (ow : Own Γ O H (.ref a) d) (h2 : Rep Γ O H y i) (h3 : Rep Γ O H v z) (q : dStore d i z = some d')
    (k : ∀ o, Own Γ O (upd H a o) (.ref a) d' → Q (upd H a o)) : rSetA (.ref a) y v H Q := by
  cases ow with
  | @lst _ us ds h o r =>
    cases i with
    | int j =>
      simp only [dStore] at q
      cases q0 : ixN ds.length j with
      | none => rw [q0] at q; cases q
      | some n =>
        rw [q0] at q
        cases q
        rw [Rep.int_inv h2]
        exact .inl ⟨a, us, j, n, rfl, rfl, h, by rw [r.length]; exact q0, k _ (.lst upd_same o ((r.set h3 n).to (ov_upd m o)))⟩
    | _ => cases q
  | @dK _ us ds h o ky r =>
    simp only [dStore] at q
    cases q0 : dkey i with
    | none => rw [q0] at q; cases q
    | some k0 =>
      rw [q0] at q
      simp only at q
      split at q
      · rename_i hz
        cases q
        have R := KR.of ky.1 r
        rw [Bor.key (.rep h2) q0]
        obtain ⟨e1, e2⟩ := (R.put (k := k0) h3).to
        exact .inr ⟨a, _, rfl, DPut.k h (by rw [R.len]; exact hz), k _ (.dK upd_same o ⟨e1, ksOk_put ky.2 (Rep.keyOk h2 q0)⟩ (e2.to (ov_upd m o)))⟩
      · cases q
  | @dT _ us ds h o ky r =>
    cases i with
    | tup ks =>
      simp only [dStore] at q
      cases q0 : dkeys ks with
      | none => rw [q0] at q; cases q
      | some k0 =>
        rw [q0] at q
        simp only at q
        split at q
        · rename_i hz
          cases q
          have R := KR.of ky.1 r
          obtain ⟨b, ws, rfl, hb, rb⟩ := Bor.tup_inv (.rep h2)
          have ew := rb.keys q0
          subst ew
          obtain ⟨e1, e2⟩ := (R.put (k := k0) h3).to
          exact .inr ⟨a, _, rfl, DPut.t h hb (by rw [R.len]; exact hz), k _ (.dT upd_same o ⟨e1, ktOk_put ky.2 (rb.keysOk q0)⟩ (e2.to (ov_upd m o)))⟩
        · cases q
    | _ => cases q
  | obj => cases i <;> cases q
def cSet (i : Nat) (ix val : CExp) : CStm := fun ρ => (val ρ).bind fun s ρ1 => (match ρ1[i]? with
  | some (some _) => (ix ρ1).bind fun k ρ2 => (match ρ2[i]? with
    | some (some (d, true)) => (match dStore d k.1 s.1 with
      | some d' => .ok .nx (ρ2.set i (some (d', true)))
      | none => .stuck)
    | _ => .stuck)
  | _ => .stuck)
theorem SS.set {i : Nat} {ti te : TE} {ix val : CExp} (h1 : SE Γ W ti ix) (h2 : SE Γ W te val) : SS Γ fx W (tAsg te (gSub (tVar i) ti rSetA)) (cSet i ix val) := by
  intro Z σ ρ H E F k
  refine h2.val F ?_
  unfold cSet at k
  revert k
  cases val ρ with
  | exc c fs ρ' => exact fun k => PostX.st k
  | stuck => exact fun k => k
  | ok s ρ1 =>
    intro k v H1 f1 s1 r1
    simp only [Res.bind_ok] at k
    cases q : ρ1[i]? with
    | none => rw [q] at k; exact k.elim
    | some w =>
      cases w with
      | none => rw [q] at k; exact k.elim
      | some t =>
        rw [q] at k
        simp only at k
        obtain ⟨x, hx, _⟩ := f1.get q
        refine ⟨x, hx, h1.val f1 ?_⟩
        revert k
        cases ix ρ1 with
        | exc c fs ρ' => exact fun k => PostX.on s1 (PostX.st k)
        | stuck => exact fun k => k
        | ok ky ρ2 =>
          intro k y H2 f2 s2 r2
          simp only [Res.bind_ok] at k
          cases q2 : ρ2[i]? with
          | none => rw [q2] at k; exact k.elim
          | some w =>
            cases w with
            | none => rw [q2] at k; exact k.elim
            | some t =>
              obtain ⟨d, b⟩ := t
              cases b with
              | false => rw [q2] at k; exact k.elim
              | true =>
                rw [q2] at k
                simp only at k
                cases q3 : dStore d ky.1 s.1 with
                | none => rw [q3] at k; exact k.elim
                | some d' =>
                  rw [q3] at k
                  obtain ⟨v', hv', ow⟩ := f2.ow i d q2
                  rw [hx] at hv'
                  cases hv'
                  obtain ⟨a, rfl, oa, _⟩ := ow.ref
                  refine store_okD f2.mu ow r2 (s2.rep f1 r1) q3 fun o w => ?_
                  obtain ⟨g1, g2⟩ := f2.write q2 hx w
                  exact k σ _ g1 ((s1.trans s2).trans g2) Fx.refl
/-! ### x += e -/
def cAug (i : Nat) (f : List D → Option Slot) (m : CExp) : CStm := fun ρ => match ρ[i]? with
  | some (some _) => (m ρ).bind fun s ρ1 => (match fin f [.v i, .e m] [none, some s.1] ρ1 with
    | .ok z ρ2 => .ok .nx (ρ2.set i (some z))
    | .exc c fs ρ2 => .exc c fs ρ2
    | .stuck => .stuck)
  | _ => .stuck
theorem SS.aug {i : Nat} {te : TE} {ti : TIp} {f : List D → Option Slot} {m : CExp} (hr : PrimR Γ (r2l ti) f) (h : SE Γ W te m) (hi : i ∉ fx) : SS Γ fx W (tAug i te ti) (cAug i f m) := by
  intro Z σ ρ H E F k
  unfold cAug at k
  cases q : ρ[i]? with
  | none => rw [q] at k; exact k.elim
  | some w =>
    cases w with
    | none => rw [q] at k; exact k.elim
    | some t =>
      rw [q] at k
      simp only at k
      obtain ⟨x, hx, _⟩ := F.get q
      refine ⟨x, hx, h.val F ?_⟩
      revert k
      cases m ρ with
      | exc c fs ρ' => exact fun k => PostX.st k
      | stuck => exact fun k => k
      | ok s ρ1 =>
        intro k y H1 f1 s1 r1
        simp only [Res.bind_ok] at k
        refine prim_end (W := W) (r := r2l ti) (vs := [x, y]) hr f1 (.v hx (.e (m := m) r1 .nil)) ?_
        revert k
        cases fin f [.v i, .e m] [none, some s.1] ρ1 with
        | exc c fs ρ' => exact fun k => PostX.on s1 (PostX.st k)
        | stuck => exact fun k => k
        | ok z ρ2 =>
          obtain ⟨d, b⟩ := z
          cases b with
          | false => exact fun k v H' f' s r => k _ H' (f'.put r) ((s1.trans s).trans Step.put) (Fx.put hi)
          | true => exact fun k a H' f' s n q r => k _ H' (f'.putOwn n r) ((s1.trans s).putOwn (s1.root q)) (Fx.put hi)

/-! ### what is walked -/
def itemsD : D → Option (List D)
  | .tup xs => some xs
  | .ktup xs => some xs
  | .lst xs => some xs
  | .scr ns => some (ns.map D.int)
  | _ => none
/-- lists: a value that is not owned (an owned name is let go) -/
def cItL (m : CExp) : CIt := fun ρ => (m ρ).bind fun s ρ1 => match s.1 with
  | .lst xs => .ok xs ρ1
  | .scr ns => .ok (ns.map D.int) ρ1
  | _ => .stuck
def cItT (m : CExp) : CIt := fun ρ => (m ρ).bind fun s ρ1 => match s.1 with
  | .tup xs => .ok xs ρ1
  | .ktup xs => .ok xs ρ1
  | _ => .stuck
theorem wk_list {a : Addr} {ds : List D} : Wk Γ (Itl Γ.K a) (fun O H => ∃ vs, SqL Γ.K H a vs ∧ Reps Γ O H vs ds ∧ (H a = some (.lst vs) ∧ ¬ O a ∨ Scr Γ.K H a (vs.filterMap fun v => match v with | .int i => some i | _ => none) ∧ (vs = (vs.filterMap fun v => match v with | .int i => some i | _ => none).map V.int))) ds where
  pres := fun O O' H H' ⟨vs, h1, h2, h3⟩ ov => by
    refine ⟨vs, ?_, h2.to ov, ?_⟩
    · rcases h3 with ⟨h3, n⟩ | ⟨h3, e⟩
      · exact SqL.of (ov.keep a _ h3 n)
      · rw [e]; exact (ov.scr h3).sq
    · rcases h3 with ⟨h3, n⟩ | ⟨h3, e⟩
      · exact .inl ⟨ov.keep a _ h3 n, ov.not h3 n⟩
      · exact .inr ⟨ov.scr h3, e⟩
  item := fun O H i d m ⟨vs, h1, h2, _⟩ hd => by
    obtain ⟨v, e1, r⟩ := h2.get hd
    refine ⟨⟨vs, v, h1, e1⟩, fun x H' y => ?_⟩
    obtain ⟨e, y⟩ := y
    subst e
    have := y vs h1
    rw [e1] at this
    cases this
    exact ⟨Ext.refl _, r⟩
  done := fun O H ⟨vs, h1, h2, _⟩ => ⟨vs, h1, by rw [h2.length]; exact Nat.le_refl _⟩
theorem ints_fm (ns : List Int) : ((ns.map V.int).filterMap fun v => match v with | .int i => some i | _ => none) = ns := by
  induction ns with
  | nil => rfl
  | cons n r ih => simp [ih]
theorem SI.list {tl : TE} {m : CExp} (h : SE Γ W tl m) : SI Γ W (iList Γ.K tl) (cItL m) := by
  intro Z σ ρ H R F k
  refine h.val F ?_
  unfold cItL at k
  revert k
  cases m ρ with
  | exc c fs ρ' => exact fun k => k
  | stuck => exact fun k => k
  | ok s ρ1 =>
    obtain ⟨d, b⟩ := s
    cases d with
    | lst xs =>
      intro k v H1 f1 s1 r
      cases r with
      | @lst a vs _ h n r => exact ⟨a, rfl, ⟨vs, SqL.of h⟩, k _ _ H1 f1 s1 wk_list ⟨vs, SqL.of h, r, .inl ⟨h, n⟩⟩⟩
    | scr ns =>
      intro k v H1 f1 s1 r
      cases r with
      | @scr a _ h =>
        refine ⟨a, rfl, ⟨_, h.sq⟩, k _ _ H1 f1 s1 wk_list ⟨_, h.sq, ints_reps ns, .inr ⟨?_, ?_⟩⟩⟩
        · rw [ints_fm]; exact h
        · rw [ints_fm]
    | _ => exact fun k => k.elim
theorem wk_tup {a : Addr} {ds : List D} : Wk Γ (Itt Γ.K a) (fun O H => ∃ vs, (H a = some (.tup vs) ∨ KT Γ.K a vs) ∧ Reps Γ O H vs ds) ds where
  pres := fun O O' H H' ⟨vs, h1, h2⟩ ov => ⟨vs, h1.imp (fun h => ov.tup h) id, h2.to ov⟩
  item := fun O H i d m ⟨vs, h1, h2⟩ hd => by
    obtain ⟨v, e1, r⟩ := h2.get hd
    have hq : SqT Γ.K H a vs := by
      rcases h1 with h1 | h1
      · exact SqT.of h1
      · exact .inr h1
    refine ⟨⟨vs, v, hq, e1⟩, fun x H' y => ?_⟩
    obtain ⟨e, y⟩ := y
    subst e
    have := y vs hq
    rw [e1] at this
    cases this
    exact ⟨Ext.refl _, r⟩
  done := fun O H ⟨vs, h1, h2⟩ => ⟨vs, by
      rcases h1 with h1 | h1
      · exact SqT.of h1
      · exact .inr h1, by rw [h2.length]; exact Nat.le_refl _⟩
theorem SI.tup {tl : TE} {m : CExp} (h : SE Γ W tl m) : SI Γ W (iTup Γ.K tl) (cItT m) := by
  intro Z σ ρ H R F k
  refine h.val F ?_
  unfold cItT at k
  revert k
  cases m ρ with
  | exc c fs ρ' => exact fun k => k
  | stuck => exact fun k => k
  | ok s ρ1 =>
    obtain ⟨d, b⟩ := s
    cases d with
    | tup xs =>
      intro k v H1 f1 s1 r
      cases r with
      | @tup a vs _ h r => exact ⟨a, rfl, ⟨vs, SqT.of h⟩, k _ _ H1 f1 s1 wk_tup ⟨vs, .inl h, r⟩⟩
    | ktup xs =>
      intro k v H1 f1 s1 r
      cases r with
      | @ktup a vs _ h r => exact ⟨a, rfl, ⟨vs, .inr h⟩, k _ _ H1 f1 s1 wk_tup ⟨vs, .inr h, r⟩⟩
    | _ => exact fun k => k.elim
def rngD (lo : Int) (n : Nat) : List D := (List.range n).map fun (i : Nat) => .int (lo + (i : Int))
def cItR1 (o : Opd) : CIt := fun ρ => (evO [o] ρ).bind fun xs ρ1 => match late [o] xs ρ1 with
  | some [.int n] => if n.natAbs < 2 ^ 62 then .ok (rngD 0 n.toNat) ρ1 else .stuck
  | _ => .stuck
def cItR2 (o o2 : Opd) : CIt := fun ρ => (evO [o, o2] ρ).bind fun xs ρ1 => match late [o, o2] xs ρ1 with
  | some [.int m, .int n] => if m.natAbs < 2 ^ 62 ∧ n.natAbs < 2 ^ 62 then .ok (rngD m (n - m).toNat) ρ1 else .stuck
  | _ => .stuck
theorem rngD_len (lo : Int) (n : Nat) : (rngD lo n).length = n := by simp [rngD]
theorem wk_rng {lo : Int} {n : Nat} : Wk Γ (Itr lo n) (fun _ _ => True) (rngD lo n) where
  pres := fun _ _ _ _ _ _ => trivial
  item := fun O H i d m _ hd => by
    have hl : i < n := by have := lt_of_at hd; rwa [rngD_len] at this
    have e : d = .int (lo + (i : Int)) := by
      unfold rngD at hd
      rw [List.getElem?_map, List.getElem?_range hl] at hd
      exact (Option.some.inj hd).symm
    subst e
    refine ⟨hl, fun x H' y => ?_⟩
    obtain ⟨e1, e2⟩ := y
    subst e1 e2
    exact ⟨Ext.refl _, .int _⟩
  done := fun O H _ => by rw [rngD_len]; exact Nat.le_refl _
theorem SI.range1 {te : TE} {o : Opd} (h : SO Γ W te o) : SI Γ W (iRng1 (tCons te tNil)) (cItR1 o) := by
  intro Z σ ρ H R F k
  refine (SA.cons h .nil).run F ?_
  unfold cItR1 at k
  revert k
  cases evO [o] ρ with
  | exc c fs ρ' => exact fun k => k
  | stuck => exact fun k => k
  | ok xs ρ1 =>
    intro k vs H1 f1 s1 r
    simp only [Res.bind_ok] at k
    split at k
    · rename_i n q
      split at k
      · rename_i hz
        obtain ⟨v, rfl, b⟩ := bors1 (r.late f1 q)
        rw [b.int_inv]
        exact ⟨n, rfl, by omega, by omega, k _ _ H1 f1 s1 wk_rng trivial⟩
      · exact k.elim
    · exact k.elim
theorem SI.range2 {te tf : TE} {o o2 : Opd} (h : SO Γ W te o) (h2 : SO Γ W tf o2) : SI Γ W (iRng2 (tCons te (tCons tf tNil))) (cItR2 o o2) := by
  intro Z σ ρ H R F k
  refine (SA.cons h (.cons h2 .nil)).run F ?_
  unfold cItR2 at k
  revert k
  cases evO [o, o2] ρ with
  | exc c fs ρ' => exact fun k => k
  | stuck => exact fun k => k
  | ok xs ρ1 =>
    intro k vs H1 f1 s1 r
    simp only [Res.bind_ok] at k
    split at k
    · rename_i m n q
      split at k
      · rename_i hz
        obtain ⟨v, w, rfl, b, b2⟩ := bors2 (r.late f1 q)
        rw [b.int_inv, b2.int_inv]
        exact ⟨m, n, rfl, ⟨by omega, by omega, by omega, by omega⟩, k _ _ H1 f1 s1 wk_rng trivial⟩
      · exact k.elim
    · exact k.elim
end
end VS

namespace VS
open PySem L2 PySem.Spec
section
variable {Γ : Gm} {W : WX} {Z : Addr → Prop} {σ : L2.St} {ρ : Sl} {O : Addr → Prop} {H : Hp} {v : V} {fx : List Nat}
/-! ### list comprehensions, one for -/
def wipeS (ρ : Sl) : List Nat → Sl
  | [] => ρ
  | v :: vs => (wipeS ρ vs).set v none
/-- the slots of the block's names as they were -/
def backS (ρ0 : Sl) (ρ : Sl) : List Nat → Sl
  | [] => ρ
  | v :: vs => match ρ0[v]? with
    | some x => (backS ρ0 ρ vs).set v x
    | none => backS ρ0 ρ vs
def noOwn (ρ : Sl) : List Nat → Bool
  | [] => true
  | v :: vs => (match ρ[v]? with
    | some (some (_, true)) => false
    | _ => true) && noOwn ρ vs
/-- no exception leaves a comprehension -/
def Res.calm {α : Type} : Res α → Res α
  | .exc _ _ _ => .stuck
  | r => r
/-- the turns: tests, then the element; acc what is made so far -/
def lcGo (tg : D → Sl → Option Sl) (c : CTst) (e : CExp) (vs : List Nat) : List D → List D → Sl → Res (List D)
  | [], acc, ρ => .ok acc ρ
  | d :: ds, acc, ρ => match tg d ρ with
    | none => .stuck
    | some ρ1 => match c ρ1 with
      | .ok true ρ2 => (match e ρ2 with
        | .ok s ρ3 => if acc.length < sizeLine then lcGo tg c e vs ds (acc ++ [s.1]) (wipeS ρ3 vs) else .stuck
        | _ => .stuck)
      | .ok false ρ2 => lcGo tg c e vs ds acc (wipeS ρ2 vs)
      | _ => .stuck
def cLc (it : CIt) (tg : D → Sl → Option Sl) (c : CTst) (e : CExp) (vs : List Nat) : CExp := fun ρ => (it ρ).bind fun ds ρ1 => if noOwn ρ1 vs = true then (match lcGo tg c e vs ds [] (wipeS ρ1 vs) with
  | .ok acc ρ2 => .ok (.lst acc, true) (backS ρ1 ρ2 vs)
  | _ => .stuck) else .stuck
def cYes : CTst := fun ρ => .ok true ρ
theorem ST.yes : ST Γ W tYes cYes := fun Z σ ρ H Q f k => k H f Step.refl
theorem wipe_off {i : Nat} : ∀ {vs : List Nat}, i ∉ vs → (wipe σ vs)[i]? = σ[i]?
  | [], _ => rfl
  | v :: vs, h => by
    unfold wipe
    rw [set_off (fun e => h (by rw [e]; exact List.mem_cons_self))]
    exact wipe_off fun z => h (List.mem_cons_of_mem _ z)
theorem wipeS_len : ∀ {vs : List Nat}, (wipeS ρ vs).length = ρ.length
  | [] => rfl
  | v :: vs => by unfold wipeS; rw [List.length_set, wipeS_len]
theorem wipeS_some {i : Nat} {s : Slot} : ∀ {vs : List Nat}, (wipeS ρ vs)[i]? = some (some s) → ρ[i]? = some (some s) ∧ i ∉ vs
  | [], h => ⟨h, by simp⟩
  | v :: vs, h => by
    unfold wipeS at h
    rcases set_some h with ⟨_, z, _⟩ | ⟨z, ne⟩
    · cases z
    · obtain ⟨h1, h2⟩ := wipeS_some z
      exact ⟨h1, by simp [h2, Ne.symm ne]⟩
theorem backS_len {ρ0 : Sl} : ∀ {vs : List Nat}, (backS ρ0 ρ vs).length = ρ.length
  | [] => rfl
  | v :: vs => by
    unfold backS
    split
    · rw [List.length_set, backS_len]
    · exact backS_len
theorem backS_off {ρ0 : Sl} {i : Nat} : ∀ {vs : List Nat}, i ∉ vs → (backS ρ0 ρ vs)[i]? = ρ[i]?
  | [], _ => rfl
  | v :: vs, h => by
    have h2 : i ∉ vs := fun z => h (List.mem_cons_of_mem _ z)
    unfold backS
    split
    · rw [set_off (fun e => h (by rw [e]; exact List.mem_cons_self))]
      exact backS_off h2
    · exact backS_off h2
theorem backS_in {ρ0 : Sl} (hl : ρ0.length = ρ.length) {i : Nat} : ∀ {vs : List Nat}, i ∈ vs → (backS ρ0 ρ vs)[i]? = ρ0[i]?
  | [], h => nomatch h
  | v :: vs, h => by
    unfold backS
    by_cases e : v = i
    · subst e
      cases q : ρ0[v]? with
      | some x => exact set_at (by rw [backS_len, ← hl]; exact lt_of_at q)
      | none =>
        have : ρ0.length ≤ v := List.getElem?_eq_none_iff.mp q
        exact List.getElem?_eq_none_iff.mpr (by rw [backS_len, ← hl]; exact this)
    · have h2 : i ∈ vs := by
        rcases List.mem_cons.mp h with z | z
        · exact absurd z.symm e
        · exact z
      split
      · rw [set_off e]; exact backS_in hl h2
      · exact backS_in hl h2
theorem noOwn_at {i : Nat} {d : D} : ∀ {vs : List Nat}, noOwn ρ vs = true → i ∈ vs → ρ[i]? ≠ some (some (d, true))
  | [], _, h => nomatch h
  | v :: vs, hn, h => by
    unfold noOwn at hn
    obtain ⟨h1, h2⟩ := Bool.and_eq_true_iff.mp hn
    rcases List.mem_cons.mp h with e | h
    · subst e
      intro q
      rw [q] at h1
      cases h1
    · exact noOwn_at h2 h
/-- another list of values that agrees on the known slots -/
theorem roots_agree {σ' : L2.St} (h : ∀ (i : Nat) s, ρ[i]? = some (some s) → σ'[i]? = σ[i]?) (a : Addr) : roots σ' ρ a ↔ roots σ ρ a := by
  constructor
  · rintro ⟨i, d, e1, e2⟩; exact ⟨i, d, e1, by rw [← h i _ e1]; exact e2⟩
  · rintro ⟨i, d, e1, e2⟩; exact ⟨i, d, e1, by rw [h i _ e1]; exact e2⟩
theorem FR.agree {σ' : L2.St} (f : FR Γ Z σ ρ H) (hl : σ'.length = σ.length) (h : ∀ (i : Nat) s, ρ[i]? = some (some s) → σ'[i]? = σ[i]?) : FR Γ Z σ' ρ H := by
  have oa : OA Z σ' ρ = OA Z σ ρ := by
    funext a
    exact propext ⟨fun z => z.imp id (roots_agree h a).mp, fun z => z.imp id (roots_agree h a).mpr⟩
  refine ⟨hl.trans f.len, by rw [oa]; exact f.mu, fun i d e => ?_, fun i d e => ?_, fun i j d e a h1 h2 h3 h4 => ?_, fun a z r => f.dis a z ((roots_agree h a).mp r)⟩
  · rw [oa, h i _ e]; exact f.sh i d e
  · rw [oa, h i _ e]; exact f.ow i d e
  · rw [h i _ h1] at h3
    rw [h j _ h2] at h4
    exact f.inj i j d e a h1 h2 h3 h4
theorem FR.wipe (f : FR Γ Z σ ρ H) (vs : List Nat) : FR Γ Z (L2.wipe σ vs) (wipeS ρ vs) H :=
  (f.sub (ρ' := wipeS ρ vs) wipeS_len fun i s h => .inl (wipeS_some h).1).agree (wipe_length σ vs) fun i s h => wipe_off (wipeS_some h).2
theorem Step.wipe (vs : List Nat) : Step σ ρ H (L2.wipe σ vs) (wipeS ρ vs) H := ⟨fun _ _ h _ => h, fun _ _ h => ⟨_, h⟩, fun a ⟨i, d, e1, e2⟩ => by
  obtain ⟨q1, q2⟩ := wipeS_some e1
  rw [wipe_off q2] at e2
  exact .inl ⟨i, d, q1, e2⟩⟩
theorem wipe_eq {σ2 : L2.St} {vs : List Nat} (hl : σ2.length = σ.length) (h : ∀ i, i ∉ vs → σ2[i]? = (L2.wipe σ vs)[i]?) : L2.wipe σ2 vs = L2.wipe σ vs := by
  have hin : ∀ (τ : L2.St) (vs : List Nat) (i : Nat), i ∈ vs → i < τ.length → (L2.wipe τ vs)[i]? = some none := by
    intro τ vs
    induction vs with
    | nil => intro i h; cases h
    | cons v vs ih =>
      intro i hi hl
      unfold L2.wipe
      by_cases e : v = i
      · subst e; exact set_at (by rw [wipe_length]; exact hl)
      · rw [set_off e]
        rcases List.mem_cons.mp hi with z | z
        · exact absurd z.symm e
        · exact ih i z hl
  refine List.ext_getElem? fun i => ?_
  by_cases hi : i ∈ vs
  · by_cases hb : i < σ.length
    · rw [hin σ2 vs i hi (by rw [hl]; exact hb), hin σ vs i hi hb]
    · rw [List.getElem?_eq_none_iff.mpr (by rw [wipe_length, hl]; omega), List.getElem?_eq_none_iff.mpr (by rw [wipe_length]; omega)]
  · rw [wipe_off hi]; exact h i hi
theorem wipe_wipe (vs : List Nat) : L2.wipe (L2.wipe σ vs) vs = L2.wipe σ vs := wipe_eq (wipe_length σ vs) fun _ _ => rfl
/-- behind the comprehension: the frame as it was -/
theorem FR.back {ρn : Sl} {Hn : Hp} {p : Addr} {vs : List Nat} (f : FR Γ Z σ ρ H) (ho : noOwn ρ vs = true) (hp : H p = none) (fn : FR Γ (Zadd Z p) (L2.wipe σ vs) ρn Hn) (st : Step σ ρ H (L2.wipe σ vs) ρn Hn) (hw : ∀ (i : Nat) s, ρn[i]? = some (some s) → i ∉ vs) :
    FR Γ (Zadd Z p) σ (backS ρ ρn vs) Hn ∧ Step σ ρ H σ (backS ρ ρn vs) Hn ∧ OA (Zadd Z p) σ (backS ρ ρn vs) = OA (Zadd Z p) (L2.wipe σ vs) ρn := by
  have hl : ρ.length = ρn.length := by rw [← f.len, ← fn.len, wipe_length]
  have rt : ∀ a, roots σ (backS ρ ρn vs) a ↔ roots (L2.wipe σ vs) ρn a := fun a => by
    constructor
    · rintro ⟨i, d, e1, e2⟩
      by_cases hi : i ∈ vs
      · rw [backS_in hl hi] at e1
        exact absurd e1 (noOwn_at ho hi)
      · rw [backS_off hi] at e1
        exact ⟨i, d, e1, by rw [wipe_off hi]; exact e2⟩
    · rintro ⟨i, d, e1, e2⟩
      have hi := hw i _ e1
      rw [wipe_off hi] at e2
      exact ⟨i, d, by rw [backS_off hi]; exact e1, e2⟩
  have oa : OA (Zadd Z p) σ (backS ρ ρn vs) = OA (Zadd Z p) (L2.wipe σ vs) ρn := by
    funext a
    exact propext ⟨fun z => z.imp id (rt a).mp, fun z => z.imp id (rt a).mpr⟩
  refine ⟨⟨by rw [backS_len, ← hl]; exact f.len, by rw [oa]; exact fn.mu, fun i d e => ?_, fun i d e => ?_, fun i j d e a h1 h2 h3 h4 => ?_, fun a z r => fn.dis a z ((rt a).mp r)⟩, ⟨st.keep, st.dom, fun a z => st.new a ((rt a).mp z)⟩, oa⟩
  · rw [oa]
    by_cases hi : i ∈ vs
    · rw [backS_in hl hi] at e
      obtain ⟨v, e1, r⟩ := f.sh i d e
      refine ⟨v, e1, r.to ⟨fun a o ha z => ?_, f.mu, fun a o ha n => st.keep a o ha fun z => n (.inr z)⟩⟩
      rcases z with (z | z) | z
      · exact .inl z
      · rw [z, hp] at ha; cases ha
      · rcases st.new a z with q | q
        · exact .inr q
        · rw [ha] at q; cases q
    · rw [backS_off hi] at e
      obtain ⟨v, e1, r⟩ := fn.sh i d e
      exact ⟨v, by rw [← wipe_off hi]; exact e1, r⟩
  · rw [oa]
    by_cases hi : i ∈ vs
    · rw [backS_in hl hi] at e
      exact absurd e (noOwn_at ho hi)
    · rw [backS_off hi] at e
      obtain ⟨v, e1, r⟩ := fn.ow i d e
      exact ⟨v, by rw [← wipe_off hi]; exact e1, r⟩
  · by_cases hi : i ∈ vs
    · rw [backS_in hl hi] at h1
      exact absurd h1 (noOwn_at ho hi)
    · by_cases hj : j ∈ vs
      · rw [backS_in hl hj] at h2
        exact absurd h2 (noOwn_at ho hj)
      · rw [backS_off hi] at h1
        rw [backS_off hj] at h2
        exact fn.inj i j d e a h1 h2 (by rw [wipe_off hi]; exact h3) (by rw [wipe_off hj]; exact h4)
/-- the list that is being made grows -/
theorem FR.grow {τ : L2.St} {p : Addr} {o : HO} (f : FR Γ (Zadd Z p) τ ρ H) (mo : Mut (some o)) : FR Γ (Zadd Z p) τ ρ (upd H p o) ∧ Ov (OA (Zadd Z p) τ ρ) (OA (Zadd Z p) τ ρ) H (upd H p o) := by
  have hz : OA (Zadd Z p) τ ρ p := .inl (.inr rfl)
  have ov : Ov (OA (Zadd Z p) τ ρ) (OA (Zadd Z p) τ ρ) H (upd H p o) := ⟨fun _ _ _ z => z, f.mu, fun b u hb n => by rw [upd_ne (fun e => n (by rw [e]; exact hz))]; exact hb⟩
  refine ⟨⟨f.len, fun a z => ?_, fun i d e => ?_, fun i d e => ?_, f.inj, f.dis⟩, ov⟩
  · by_cases e : a = p
    · subst e; rw [upd_same]; exact mo
    · rw [upd_ne e]; exact f.mu a z
  · obtain ⟨v, e1, r⟩ := f.sh i d e
    exact ⟨v, e1, r.to ov⟩
  · obtain ⟨v, e1, r⟩ := f.ow i d e
    obtain ⟨a, rfl, oa, _⟩ := r.ref
    have na : a ≠ p := fun q => f.dis p (.inr rfl) (by rw [← q]; exact ⟨i, d, e, e1⟩)
    exact ⟨_, e1, r.to ov oa fun u hu => by rw [upd_ne na]; exact hu⟩
abbrev WF : WX := fun _ _ _ _ => False
def LenG (tg : D → Sl → Option Sl) : Prop := ∀ d ρ ρ', tg d ρ = some ρ' → ρ'.length = ρ.length
def LenGs (tg : List D → Sl → Option Sl) : Prop := ∀ d ρ ρ', tg d ρ = some ρ' → ρ'.length = ρ.length
theorem LenG.name {i : Nat} : LenG (tgN i) := fun d ρ ρ' e => by cases e; simp
theorem LenGs.nil : LenGs tgNil := fun d ρ ρ' e => by
  cases d with
  | nil => cases e; rfl
  | cons => cases e
theorem LenGs.cons {a : D → Sl → Option Sl} {b : List D → Sl → Option Sl} (h1 : LenG a) (h2 : LenGs b) : LenGs (tgCons a b) := fun d ρ ρ' e => by
  cases d with
  | nil => cases e
  | cons x r =>
    unfold tgCons at e
    simp only at e
    cases q : a x ρ with
    | none => rw [q] at e; cases e
    | some ρ1 => rw [q] at e; exact (h2 _ _ _ e).trans (h1 _ _ _ q)
theorem LenG.tup {n : Nat} {b : List D → Sl → Option Sl} (h : LenGs b) : LenG (tgTup n b) := fun d ρ ρ' e => by
  unfold tgTup at e
  split at e
  · split at e
    · exact h _ _ _ e
    · cases e
  · split at e
    · exact h _ _ _ e
    · cases e
  · cases e
theorem SE.lc {wi : TI} {g : TG} {tt : TT} {te : TE} {it : CIt} {tg : D → Sl → Option Sl} {c : CTst} {e : CExp} {vs : List Nat} (hi : SI Γ W wi it) (hg : ∀ fx', (∀ j ∈ vs, j ∉ fx') → SG Γ fx' g tg) (hlen : LenG tg) (hc : ST Γ WF tt c) (he : SE Γ WF te e) : SE Γ W (tLc wi g tt te vs) (cLc it tg c e vs) := by
  intro Z σ ρ H Q F k
  refine hi Z σ ρ H _ F ?_
  unfold cLc at k
  revert k
  cases it ρ with
  | exc c fs ρ' => exact fun k => k
  | stuck => exact fun k => k
  | ok ds ρ1 =>
    intro k J G H1 f1 s1 wk g1 p hp
    simp only [Res.bind_ok] at k
    split at k
    · rename_i hno
      -- the end, from the turns' end
      have fin : ∀ acc ρn Hn us, lcGo tg c e vs ds [] (wipeS ρ1 vs) = .ok acc ρn → FR Γ (Zadd Z p) (L2.wipe σ vs) ρn Hn → Step σ ρ1 H1 (L2.wipe σ vs) ρn Hn → (∀ (i : Nat) s, ρn[i]? = some (some s) → i ∉ vs) → Hn p = some (.lst us) → Reps Γ (OA (Zadd Z p) (L2.wipe σ vs) ρn) Hn us acc → Q (.ref p) Hn := by
        intro acc ρn Hn us e1 fn st hw hpn r
        rw [e1] at k
        obtain ⟨b1, b2, b3⟩ := f1.back hno hp fn st hw
        refine k p Hn b1 (s1.trans b2) (fun z => f1.nfresh hp (.inl z)) (.inl (s1.free hp)) ?_
        rw [b3]
        exact .lst hpn (.inl (.inr rfl)) r
      have hgo : ∃ acc ρn, lcGo tg c e vs ds [] (wipeS ρ1 vs) = .ok acc ρn := by
        revert k
        cases lcGo tg c e vs ds [] (wipeS ρ1 vs) with
        | ok acc ρn => exact fun _ => ⟨acc, ρn, rfl⟩
        | exc => exact fun k => k.elim
        | stuck => exact fun k => k.elim
      obtain ⟨accN, ρN, hN⟩ := hgo
      clear k
      have fw := f1.wipe vs
      have fz : FR Γ (Zadd Z p) (L2.wipe σ vs) (wipeS ρ1 vs) (upd H1 p (.lst [])) := fw.zadd (Ext.new hp) hp (by rw [upd_same]; trivial)
      have gz : G (OA (Zadd Z p) (L2.wipe σ vs) (wipeS ρ1 vs)) (upd H1 p (.lst [])) := by
        refine wk.pres _ _ _ _ g1 ⟨fun a o ha z => ?_, f1.mu, fun a o ha _ => (Ext.new hp).ex a o ha⟩
        rcases z with (z | z) | z
        · exact .inl z
        · rw [z, hp] at ha; cases ha
        · rcases (Step.wipe (σ := σ) (ρ := ρ1) (H := H1) vs).new a z with q | q
          · exact .inr q
          · rw [ha] at q; cases q
      refine ⟨fun i m H' => m = ds.length - i ∧ i ≤ ds.length ∧ ∃ acc ρi us, FR Γ (Zadd Z p) (L2.wipe σ vs) ρi H' ∧ Step σ ρ1 H1 (L2.wipe σ vs) ρi H' ∧ (∀ (j : Nat) s, ρi[j]? = some (some s) → j ∉ vs) ∧ G (OA (Zadd Z p) (L2.wipe σ vs) ρi) H' ∧ H' p = some (.lst us) ∧ Reps Γ (OA (Zadd Z p) (L2.wipe σ vs) ρi) H' us acc ∧ lcGo tg c e vs (ds.drop i) acc ρi = .ok accN ρN,
        ⟨ds.length, rfl, Nat.zero_le _, [], wipeS ρ1 vs, [], fz, (Step.wipe vs).trans (Ext.new hp).step, fun j s h => (wipeS_some h).2, gz, upd_same, .nil, hN⟩, ?_⟩
      rintro i m H' ⟨rfl, hle, acc, ρi, us, fi, si, wi', gi, hpi, ri, ki⟩
      by_cases hlt : i < ds.length
      · right
        have hd : ds[i]? = some ds[i] := List.getElem?_eq_getElem hlt
        obtain ⟨go, yl⟩ := wk.item _ H' i _ fi.mu gi hd
        refine ⟨go, fun H2 => ∃ acc ρi us, FR Γ (Zadd Z p) (L2.wipe σ vs) ρi H2 ∧ Step σ ρ1 H1 (L2.wipe σ vs) ρi H2 ∧ (∀ (j : Nat) s, ρi[j]? = some (some s) → j ∉ vs) ∧ G (OA (Zadd Z p) (L2.wipe σ vs) ρi) H2 ∧ H2 p = some (.lst us) ∧ Reps Γ (OA (Zadd Z p) (L2.wipe σ vs) ρi) H2 us acc ∧ lcGo tg c e vs (ds.drop (i + 1)) acc ρi = .ok accN ρN,
          fun H2 h => ⟨ds.length - (i + 1), by omega, rfl, hlt, h⟩, fun x H2 hy => ?_⟩
        obtain ⟨ex, rx⟩ := yl x H2 hy
        have f2 := fi.ext ex
        have s2 : Step (L2.wipe σ vs) ρi H' (L2.wipe σ vs) ρi H2 := ex.step
        rw [List.drop_eq_getElem_cons hlt] at ki
        unfold lcGo at ki
        cases q : tg ds[i] ρi with
        | none => rw [q] at ki; cases ki
        | some ρ3 =>
          rw [q] at ki
          simp only at ki
          refine hg ((List.range σ.length).filter fun j => decide (j ∉ vs)) (fun j hj hq => ?_) (Zadd Z p) (L2.wipe σ vs) ρi H2 x _ ρ3 _ f2 rx q fun σ3 f3 s3 x3 => ?_
          · have := (List.mem_filter.mp hq).2
            simp [hj] at this
          have l3 : σ3.length = σ.length := by
            have := f3.len
            have h2 := f2.len
            rw [wipe_length] at h2
            have h3 : ρ3.length = ρi.length := hlen _ _ _ q
            omega
          have w3 : L2.wipe σ3 vs = L2.wipe σ vs := wipe_eq l3 fun j hj => by
            by_cases hb : j < σ.length
            · exact x3 j (List.mem_filter.mpr ⟨List.mem_range.mpr hb, decide_eq_true hj⟩)
            · rw [List.getElem?_eq_none_iff.mpr (by omega), List.getElem?_eq_none_iff.mpr (by rw [wipe_length]; omega)]
          refine ⟨w3, hc (Zadd Z p) σ3 ρ3 H2 _ f3 ?_⟩
          have s23 := s2.trans s3
          revert ki
          cases c ρ3 with
          | exc => intro ki; cases ki
          | stuck => intro ki; cases ki
          | ok b ρ4 =>
            cases b with
            | false =>
              intro ki H4 f4 s4
              have fw4 := f4.wipe vs
              rw [w3] at fw4
              have sw : Step (L2.wipe σ vs) ρi H' (L2.wipe σ vs) (wipeS ρ4 vs) H4 := by
                have := (s23.trans s4).trans (Step.wipe vs)
                rw [w3] at this
                exact this
              refine ⟨acc, wipeS ρ4 vs, us, fw4, si.trans sw, fun j s h => (wipeS_some h).2, wk.pres _ _ _ _ gi (sw.ov fi), sw.keep p _ hpi (fi.dis p (.inr rfl)), ri.to (sw.ov fi), ki⟩
            | true =>
              intro ki H4 f4 s4
              show te σ3 H4 _
              refine he.val f4 ?_
              simp only at ki
              revert ki
              cases e ρ4 with
              | exc => intro ki; cases ki
              | stuck => intro ki; cases ki
              | ok s ρ5 =>
                intro ki y H5 f5 s5 r5
                simp only at ki
                split at ki
                · rename_i hz
                  have s25 := (s23.trans s4).trans s5
                  have np : ¬ roots (L2.wipe σ vs) ρi p := fi.dis p (.inr rfl)
                  have hp5 : H5 p = some (.lst us) := s25.keep p _ hpi np
                  refine ⟨us, hp5, by rw [ri.length]; exact hz, ?_⟩
                  have fw5 := f5.wipe vs
                  rw [w3] at fw5
                  have sw : Step (L2.wipe σ vs) ρi H' (L2.wipe σ vs) (wipeS ρ5 vs) H5 := by
                    have := s25.trans (Step.wipe vs)
                    rw [w3] at this
                    exact this
                  obtain ⟨fg, og⟩ := fw5.grow (o := .lst (us ++ [y])) trivial
                  have sg : Step σ ρ1 H1 (L2.wipe σ vs) (wipeS ρ5 vs) (upd H5 p (.lst (us ++ [y]))) := by
                    have s6 := si.trans sw
                    refine ⟨fun a o ha n => ?_, fun a o ha => ?_, s6.new⟩
                    · rw [upd_ne (ne_of_none ha hp)]; exact s6.keep a o ha n
                    · rw [upd_ne (ne_of_none ha hp)]; exact s6.dom a o ha
                  have ry : Rep Γ (OA (Zadd Z p) (L2.wipe σ vs) (wipeS ρ5 vs)) H5 y s.1 := by
                    have sw5 : Step σ3 ρ5 H5 (L2.wipe σ3 vs) (wipeS ρ5 vs) H5 := Step.wipe vs
                    rw [w3] at sw5
                    exact sw5.rep f5 r5
                  exact ⟨acc ++ [s.1], wipeS ρ5 vs, us ++ [y], fg, sg, fun j s h => (wipeS_some h).2, wk.pres _ _ _ _ (wk.pres _ _ _ _ gi (sw.ov fi)) og, upd_same, ((ri.to (sw.ov fi)).append (.cons ry .nil)).to og, ki⟩
                · cases ki
      · left
        have e1 : i = ds.length := by omega
        subst e1
        refine ⟨wk.done _ H' gi, ?_⟩
        rw [List.drop_length] at ki
        unfold lcGo at ki
        cases ki
        exact fin accN ρN H' us hN fi si wi' hpi ri
    · exact k.elim
end
end VS

namespace VS
open PySem L2 PySem.Spec PyProof.Rows
/-! ### syntax: what a piece of the text means -/
abbrev Gx (X : Cx) (ct : Cn) : Gm := ⟨X.K, ct⟩
def CE (X : Cx) (ct : Cn) (W : WX) (e : Expr) (m : CExp) : Prop := ∃ t, PE X e t ∧ SE (Gx X ct) W t m
def CT (X : Cx) (ct : Cn) (W : WX) (e : Expr) (m : CTst) : Prop := ∃ t, PT X e t ∧ ST (Gx X ct) W t m
def CW (X : Cx) (ct : Cn) (W : WX) (e : Expr) (m : CTst) : Prop := ∃ t, PW X e t ∧ ST (Gx X ct) W t m
def CTs (X : Cx) (ct : Cn) (W : WX) (es : List Expr) (m : CTst) : Prop := ∃ t, PTs X es t ∧ ST (Gx X ct) W t m
def CO (X : Cx) (ct : Cn) (W : WX) (e : Expr) (o : Opd) : Prop := ∃ t, PE X e t ∧ SO (Gx X ct) W t o
def CA (X : Cx) (ct : Cn) (W : WX) (es : List Expr) (os : List Opd) : Prop := ∃ t, PA X es t ∧ SA (Gx X ct) W t os
def CG (X : Cx) (ct : Cn) (fx : List Nat) (e : Expr) (tg : D → Sl → Option Sl) : Prop := ∃ g, PG X e g ∧ SG (Gx X ct) fx g tg
def CGs (X : Cx) (ct : Cn) (fx : List Nat) (es : List Expr) (tg : List D → Sl → Option Sl) : Prop := ∃ g, PGs X es g ∧ SGs (Gx X ct) fx g tg
def CI (X : Cx) (ct : Cn) (W : WX) (tg iter : Expr) (m : CIt) : Prop := ∃ wi, PI X tg iter wi ∧ SI (Gx X ct) W wi m
def CS (X : Cx) (ct : Cn) (fx : List Nat) (W : WX) (st : Stmt) (m : CStm) : Prop := ∃ t, PS X st t ∧ SS (Gx X ct) fx W t m
def CSs (X : Cx) (ct : Cn) (fx : List Nat) (W : WX) (st : List Stmt) (m : CStm) : Prop := ∃ t, PSs X st t ∧ SS (Gx X ct) fx W t m
section
variable {X : Cx} {ct : Cn} {W : WX} {fx : List Nat} {a b c e : Expr} {es : List Expr} {pos : Pos} {o o1 o2 o3 : Opd} {os : List Opd} {m m1 m2 : CExp} {t1 t2 : CTst} {s1 s2 : CStm}
theorem ce_var (i : Nat) {x : Str} (hN : X.N[i]? = some x := by rfl) (hv : Vis X.env.scope x := by first | exact Or.inl rfl | exact Or.inr (Or.inl rfl) | exact Or.inr (Or.inr rfl)) (hd : (x == ("__debug__" : Str)) = false := by decide) (hcd : (x == ("__classdict__" : Str)) = false := by decide) : CE X ct W (.Name x pos) (cVar i) := ⟨_, pe_var hN hv hd hcd, SE.var⟩
theorem ce_move (i : Nat) {x : Str} (hN : X.N[i]? = some x := by rfl) (hv : Vis X.env.scope x := by first | exact Or.inl rfl | exact Or.inr (Or.inl rfl) | exact Or.inr (Or.inr rfl)) (hd : (x == ("__debug__" : Str)) = false := by decide) (hcd : (x == ("__classdict__" : Str)) = false := by decide) : CE X ct W (.Name x pos) (cMove i) := ⟨_, pe_var hN hv hd hcd, SE.move⟩
theorem co_v (i : Nat) {x : Str} (hN : X.N[i]? = some x := by rfl) (hv : Vis X.env.scope x := by first | exact Or.inl rfl | exact Or.inr (Or.inl rfl) | exact Or.inr (Or.inr rfl)) (hd : (x == ("__debug__" : Str)) = false := by decide) (hcd : (x == ("__classdict__" : Str)) = false := by decide) : CO X ct W (.Name x pos) (.v i) := ⟨_, pe_var hN hv hd hcd, rfl⟩
theorem co_e (h : CE X ct W e m) : CO X ct W e (.e m) := h
theorem ce_int {i j} : CE X ct W (.Constant (.int i) j pos) (cC (.int i)) := ⟨_, pe_int, SE.c fun _ _ => .int i⟩
theorem ce_bl {b j} : CE X ct W (.Constant (.bool b) j pos) (cC (.bl b)) := ⟨_, pe_bl, SE.c fun _ _ => .bl b⟩
theorem ce_non {j} : CE X ct W (.Constant .none j pos) (cC .non) := ⟨_, pe_non, SE.c fun _ _ => .non⟩
theorem ce_str {x j} (h : PyData.strOk x = true := by decide +kernel) : CE X ct W (.Constant (.str x) j pos) (cC (.str x)) := ⟨_, pe_str, SE.c fun _ _ => .str x h⟩
/-- a built-in class as a value -/
theorem ce_ty {x : Str} {n : String} (hg : Gl X x) (hm : X.mg x = none) (hv : bootBuiltins x = some (.type n)) (hn : x ≠ "__name__" := by decide) (hd : (x == ("__debug__" : Str)) = false := by decide) : CE X ct W (.Name x pos) (cC (.ty n)) := ⟨_, pe_bltn (v := .ty n) hg hm hv rfl hn hd, SE.c fun _ _ => .ty n⟩
/-- a constant of the module -/
theorem ce_glob {x : Str} {v : V} {u : Value} {d : D} (hg : Gl X x) (hm : X.mg x = some u) (r : RelV v u) (hr : ∀ O H, Rep (Gx X ct) O H v d) (hd : (x == ("__debug__" : Str)) = false := by decide) : CE X ct W (.Name x pos) (cC d) := ⟨_, pe_glob hg hm r hd, SE.c hr⟩
theorem ca_nil : CA X ct W [] [] := ⟨_, pa_nil, .nil⟩
theorem ca_cons (h : CO X ct W e o) (hr : CA X ct W es os) (hs : starEach (e :: es) X.env = (false, eval e X.env) :: starEach es X.env := by rfl) : CA X ct W (e :: es) (o :: os) := by
  obtain ⟨t, h1, h2⟩ := h
  obtain ⟨u, g1, g2⟩ := hr
  exact ⟨_, pa_cons h1 g1 hs, .cons h2 g2⟩
theorem bop {op : Operator} {r : R2} {f : List D → Option Slot} (ho : OpR X (binaryOp op) r) (hr : PrimR (Gx X ct) (r2l r) f) (h1 : CO X ct W a o1) (h2 : CO X ct W b o2) : CE X ct W (.BinOp a op b pos) (cPrim f [o1, o2]) := by
  obtain ⟨t, p1, q1⟩ := h1
  obtain ⟨u, p2, q2⟩ := h2
  exact ⟨_, pe_op ho p1 p2, SE.op2 hr q1 q2⟩
theorem ce_add (h1 : CO X ct W a o1) (h2 : CO X ct W b o2) : CE X ct W (.BinOp a .Add b pos) (cPrim pAdd [o1, o2]) := bop opAdd prAdd h1 h2
theorem ce_sub (h1 : CO X ct W a o1) (h2 : CO X ct W b o2) : CE X ct W (.BinOp a .Sub b pos) (cPrim pSub [o1, o2]) := bop op_sub prSub h1 h2
theorem ce_mul (h1 : CO X ct W a o1) (h2 : CO X ct W b o2) : CE X ct W (.BinOp a .Mult b pos) (cPrim pMul [o1, o2]) := bop op_mul prMul h1 h2
theorem ce_div (h1 : CO X ct W a o1) (h2 : CO X ct W b o2) : CE X ct W (.BinOp a .FloorDiv b pos) (cPrim pDiv [o1, o2]) := bop op_fdiv prDiv h1 h2
theorem ce_mod (h1 : CO X ct W a o1) (h2 : CO X ct W b o2) : CE X ct W (.BinOp a .Mod b pos) (cPrim pMod [o1, o2]) := bop op_mod prMod h1 h2
theorem ce_pow (h1 : CO X ct W a o1) (h2 : CO X ct W b o2) : CE X ct W (.BinOp a .Pow b pos) (cPrim pPow [o1, o2]) := bop op_pow prPow h1 h2
theorem ce_neg (h1 : CO X ct W a o1) : CE X ct W (.UnaryOp .USub a pos) (cPrim pNeg [o1]) := by
  obtain ⟨t, p1, q1⟩ := h1
  exact ⟨_, pe_un un_neg p1, SE.op1 prNeg q1⟩
theorem cmp {op : CmpOp} {r : R2} {f : List D → Option Slot} (ho : OpR X (compareOp op) r) (hr : PrimR (Gx X ct) (r2l r) f) (h1 : CO X ct W a o1) (h2 : CO X ct W b o2) (hm : behindInMarks op b = false) : CE X ct W (.Compare a [op] [b] pos) (cPrim f [o1, o2]) := by
  obtain ⟨t, p1, q1⟩ := h1
  obtain ⟨u, p2, q2⟩ := h2
  exact ⟨_, pe_cmpR ho p1 p2 hm, SE.op2 hr q1 q2⟩
theorem ce_lt (h1 : CO X ct W a o1) (h2 : CO X ct W b o2) : CE X ct W (.Compare a [.Lt] [b] pos) (cPrim pLt [o1, o2]) := cmp op_lt prLt h1 h2 (nomark _)
theorem ce_le (h1 : CO X ct W a o1) (h2 : CO X ct W b o2) : CE X ct W (.Compare a [.LtE] [b] pos) (cPrim pLe [o1, o2]) := cmp op_le prLe h1 h2 (nomark _)
theorem ce_gt (h1 : CO X ct W a o1) (h2 : CO X ct W b o2) : CE X ct W (.Compare a [.Gt] [b] pos) (cPrim pGt [o1, o2]) := cmp op_gt prGt h1 h2 (nomark _)
theorem ce_ge (h1 : CO X ct W a o1) (h2 : CO X ct W b o2) : CE X ct W (.Compare a [.GtE] [b] pos) (cPrim pGe [o1, o2]) := cmp op_ge prGe h1 h2 (nomark _)
theorem ce_eq (hu : X.A.units + 65 < cLine) (h1 : CO X ct W a o1) (h2 : CO X ct W b o2) : CE X ct W (.Compare a [.Eq] [b] pos) (cPrim pEqA [o1, o2]) := cmp (opEq (by omega)) prEqA h1 h2 (nomark _)
theorem ce_ne (hu : X.A.units + 65 < cLine) (h1 : CO X ct W a o1) (h2 : CO X ct W b o2) : CE X ct W (.Compare a [.NotEq] [b] pos) (cPrim pNe [o1, o2]) := cmp (op_neD (by omega)) prNe h1 h2 (nomark _)
theorem ce_isN (h1 : CO X ct W a o1) (h2 : CO X ct W b o2) : CE X ct W (.Compare a [.Is] [b] pos) (cPrim pIsN [o1, o2]) := cmp op_isN prIsN h1 h2 (nomark _)
theorem ce_notN (h1 : CO X ct W a o1) (h2 : CO X ct W b o2) : CE X ct W (.Compare a [.IsNot] [b] pos) (cPrim pNotN [o1, o2]) := cmp op_notN prNotN h1 h2 (nomark _)
theorem ce_in (hu : X.A.units + 65 < cLine) (h1 : CO X ct W a o1) (h2 : CO X ct W b o2) (hm : behindInMarks .In b = false := by rfl) : CE X ct W (.Compare a [.In] [b] pos) (cPrim pIn [o1, o2]) := cmp (opIn hu) prIn h1 h2 hm
theorem ce_ni (hu : X.A.units + 65 < cLine) (h1 : CO X ct W a o1) (h2 : CO X ct W b o2) (hm : behindInMarks .NotIn b = false := by rfl) : CE X ct W (.Compare a [.NotIn] [b] pos) (cPrim pNi [o1, o2]) := cmp (opNi hu) prNi h1 h2 hm
theorem ce_idx (hu : X.A.units + 65 < cLine) (h1 : CO X ct W a o1) (h2 : CO X ct W b o2) (hs : PlainIx b := by exact fun _ _ => rfl) : CE X ct W (.Subscript a b pos) (cPrim pIdx [o1, o2]) := by
  obtain ⟨t, p1, q1⟩ := h1
  obtain ⟨u, p2, q2⟩ := h2
  exact ⟨_, pe_ix (ix_any (by omega)) p1 p2 hs, SE.op2 prIdx q1 q2⟩
theorem ce_rev {k : Nat} {p1 p2 p3 : Pos} (h1 : CO X ct W a o1) : CE X ct W (.Subscript a (.Slice none none (some (.UnaryOp .USub (.Constant (.int 1) k p1) p2)) p3) pos) (cPrim pRev [o1]) := by
  obtain ⟨t, p1, q1⟩ := h1
  exact ⟨_, pe_revL p1, SE.rev q1⟩
theorem ce_tup {k} (h : CA X ct W es os) (he : allE os = true := by rfl) : CE X ct W (.Tuple es k pos) (cPrim pTup os) := by
  obtain ⟨t, p1, q1⟩ := h
  exact ⟨_, pe_tup p1, SE.tup q1 he⟩
theorem ce_lst (h : CA X ct W es os) (he : allE os = true := by rfl) : CE X ct W (.List es pos) (cPrim pLst os) := by
  obtain ⟨t, p1, q1⟩ := h
  exact ⟨_, pe_lst p1, SE.lst q1 he⟩
theorem ce_dK : CE X ct W (.Dict [] [] pos) cDK := ⟨_, pe_dnewK, SE.dnewK⟩
theorem ce_dT : CE X ct W (.Dict [] [] pos) cDT := ⟨_, pe_dnewT, SE.dnewT⟩
/-- built-ins by name -/
theorem ce_b {x : Str} {id : String} {p : Pos} {r : List V → Hp → VK → Prop} {f : List D → Option Slot} (hc : CallR X (.builtin id) r) (hr : PrimR (Gx X ct) r f) (hg : Gl X x) (hm : X.mg x = none) (hv : bootBuiltins x = some (.builtin id)) (ha : CA X ct W (e :: es) os) (hn : x ≠ "__name__" := by decide) (hdb : (x == ("__debug__" : Str)) = false := by decide)
    (he : starEach (e :: es) X.env = (false, eval e X.env) :: starEach es X.env := by rfl) (hpl : (backTo pos (starEach es X.env)).any (·.1) = false := by rfl) : CE X ct W (.Call (.Name x p) (e :: es) [] pos) (cPrim f os) := by
  obtain ⟨t, p1, q1⟩ := ha
  exact ⟨_, pe_callB hc hg hm hv p1 hn hdb he hpl, SE.prim hr q1⟩
theorem ce_bT {x : Str} {T : String} {p : Pos} {r : List V → Hp → VK → Prop} {f : List D → Option Slot} (hc : CallR X (.type T) r) (hr : PrimR (Gx X ct) r f) (hg : Gl X x) (hm : X.mg x = none) (hv : bootBuiltins x = some (.type T)) (ha : CA X ct W (e :: es) os) (hn : x ≠ "__name__" := by decide) (hdb : (x == ("__debug__" : Str)) = false := by decide)
    (he : starEach (e :: es) X.env = (false, eval e X.env) :: starEach es X.env := by rfl) (hpl : (backTo pos (starEach es X.env)).any (·.1) = false := by rfl) : CE X ct W (.Call (.Name x p) (e :: es) [] pos) (cPrim f os) := by
  obtain ⟨t, p1, q1⟩ := ha
  exact ⟨_, pe_callTy hc hg hm hv p1 hn hdb he hpl, SE.prim hr q1⟩
theorem cr_len : CallR X (.builtin "len") (rLen1 X.K) := callOr call_len call_lenD
/-- d.get(k, x) -/
theorem ce_get2 {apos cpos : Pos} (hu : X.A.units + 65 < cLine) (h1 : CO X ct W a o1) (h2 : CO X ct W b o2) (h3 : CO X ct W c o3) (mm : M2 X a "get" apos b c cpos := by exact ⟨rfl, rfl, rfl, rfl⟩) : CE X ct W (.Call (.Attribute a "get" apos) [b, c] [] cpos) (cRecv isDict pGet2 o1 [o2, o3]) := by
  obtain ⟨t, p1, q1⟩ := h1
  obtain ⟨u, p2, q2⟩ := h2
  obtain ⟨v, p3, q3⟩ := h3
  exact ⟨_, pe_dget2 (by omega) p1 p2 p3 mm, SE.get2 q1 q2 q3⟩
theorem ce_join {apos : Pos} (h1 : CO X ct W a o1) (h2 : CO X ct W b o2) (hs : starEach [b] X.env = [(false, eval b X.env)] := by rfl) (hbase : attributeBase a "join" X.env (eval a X.env) = eval a X.env := by rfl) (hline : (apos.endLine == pos.line) = true := by rfl) : CE X ct W (.Call (.Attribute a "join" apos) [b] [] pos) (cRecv isStr pJoin o1 [o2]) := by
  obtain ⟨t, p1, q1⟩ := h1
  obtain ⟨u, p2, q2⟩ := h2
  exact ⟨_, pe_join p1 p2 hs hbase hline, SE.join q1 q2⟩
theorem ce_app (i : Nat) {x : Str} {pos' apos cpos : Pos} (h : CE X ct W e m) (hN : X.N[i]? = some x := by rfl) (hv : Vis X.env.scope x := by first | exact Or.inl rfl | exact Or.inr (Or.inl rfl) | exact Or.inr (Or.inr rfl)) (hd : (x == ("__debug__" : Str)) = false := by decide) (hcd : (x == ("__classdict__" : Str)) = false := by decide)
    (hbase : attributeBase (.Name x pos') "append" X.env (eval (.Name x pos') X.env) = eval (.Name x pos') X.env := by rfl)
    (hfew : ((backTo cpos (starEach [e] X.env)).all (fun x => !x.1) && (backToKw cpos (keywordEach [] X.env)).all (fun x => x.1.isSome) && decide (([e] : List Expr).length + ([] : List Keyword).length + (if ([] : List Keyword).isEmpty then 0 else 1) < 30)) = true := by rfl)
    (hline : (apos.endLine == cpos.line) = true := by rfl) (hs : starEach [e] X.env = (false, eval e X.env) :: starEach [] X.env := by rfl) :
    CE X ct W (.Call (.Attribute (.Name x pos') "append" apos) [e] [] cpos) (cApp i m) := by
  obtain ⟨t, p1, q1⟩ := h
  exact ⟨_, pe_bm PySem.F.plainAttrs_list PySem.F.slot_list_append PySem.F.type_list_append mt_append (pe_var hN hv hd hcd) (pa_cons p1 pa_nil hs) hbase hfew hline hs, SE.app q1⟩
theorem ce_pop (i : Nat) {x : Str} {pos' apos cpos : Pos} (hN : X.N[i]? = some x := by rfl) (hv : Vis X.env.scope x := by first | exact Or.inl rfl | exact Or.inr (Or.inl rfl) | exact Or.inr (Or.inr rfl)) (hd : (x == ("__debug__" : Str)) = false := by decide) (hcd : (x == ("__classdict__" : Str)) = false := by decide)
    (hbase : attributeBase (.Name x pos') "pop" X.env (eval (.Name x pos') X.env) = eval (.Name x pos') X.env := by rfl) (hline : (apos.endLine == cpos.line) = true := by rfl) :
    CE X ct W (.Call (.Attribute (.Name x pos') "pop" apos) [] [] cpos) (cPop i) := ⟨_, pe_bm0 PySem.F.plainAttrs_list PySem.F.slot_list_pop PySem.F.type_list_pop mt_pop (pe_var hN hv hd hcd) hbase hline, SE.pop⟩
theorem ce_clear (i : Nat) {x : Str} {pos' apos cpos : Pos} (hN : X.N[i]? = some x := by rfl) (hv : Vis X.env.scope x := by first | exact Or.inl rfl | exact Or.inr (Or.inl rfl) | exact Or.inr (Or.inr rfl)) (hd : (x == ("__debug__" : Str)) = false := by decide) (hcd : (x == ("__classdict__" : Str)) = false := by decide)
    (hbase : attributeBase (.Name x pos') "clear" X.env (eval (.Name x pos') X.env) = eval (.Name x pos') X.env := by rfl) (hline : (apos.endLine == cpos.line) = true := by rfl) :
    CE X ct W (.Call (.Attribute (.Name x pos') "clear" apos) [] [] cpos) (cClear i) := ⟨_, pe_bm0 PySem.F.plainAttrs_list PySem.F.slot_list_clear PySem.F.type_list_clear mt_clear (pe_var hN hv hd hcd) hbase hline, SE.clear⟩
/-- and, or, not as values -/
theorem ce_one {op} (h : CE X ct W a m) : CE X ct W (.BoolOp op [a] pos) m := by
  obtain ⟨t, p1, q1⟩ := h
  exact ⟨_, pe_one p1, q1⟩
theorem ce_and (h1 : CE X ct W a m1) (h2 : CE X ct W (.BoolOp .And (b :: es) pos) m2) : CE X ct W (.BoolOp .And (a :: b :: es) pos) (cAndV m1 m2) := by
  obtain ⟨t, p1, q1⟩ := h1
  obtain ⟨u, p2, q2⟩ := h2
  exact ⟨_, pe_and p1 p2, SE.andV q1 q2⟩
theorem ce_or (h1 : CE X ct W a m1) (h2 : CE X ct W (.BoolOp .Or (b :: es) pos) m2) : CE X ct W (.BoolOp .Or (a :: b :: es) pos) (cOrV m1 m2) := by
  obtain ⟨t, p1, q1⟩ := h1
  obtain ⟨u, p2, q2⟩ := h2
  exact ⟨_, pe_or p1 p2, SE.orV q1 q2⟩
theorem ce_not (h1 : CE X ct W a m1) : CE X ct W (.UnaryOp .Not a pos) (cNotV m1) := by
  obtain ⟨t, p1, q1⟩ := h1
  exact ⟨_, pe_not p1, SE.notV q1⟩
theorem ce_ife (h0 : CT X ct W c t1) (h1 : CE X ct W a m1) (h2 : CE X ct W b m2) : CE X ct W (.IfExp c a b pos) (cIfE t1 m1 m2) := by
  obtain ⟨t, p0, q0⟩ := h0
  obtain ⟨u, p1, q1⟩ := h1
  obtain ⟨v, p2, q2⟩ := h2
  exact ⟨_, pe_ifExp p0 p1 p2, SE.ifE q0 q1 q2⟩
/-! tests -/
theorem ct_val (h : CE X ct W e m) (he : ∀ whole, isTrue e X.env whole = (do let v ← whole; standAt e.pos; holding [v] (truthy v)) := by intro _; rfl) : CT X ct W e (cTst m) := by
  obtain ⟨t, p1, q1⟩ := h
  exact ⟨_, pt_val p1 he, ST.testB q1⟩
theorem tcmp {op : CmpOp} {r : R2} {f : List D → Option Slot} (ho : OpR X (compareOp op) r) (hr : PrimR (Gx X ct) (r2l r) f) (h1 : CO X ct W a o1) (h2 : CO X ct W b o2) (hm : behindInMarks op b = false) : CT X ct W (.Compare a [op] [b] pos) (cTst (cPrim f [o1, o2])) := by
  obtain ⟨t, p1, q1⟩ := h1
  obtain ⟨u, p2, q2⟩ := h2
  exact ⟨_, pt_cmpR ho p1 p2 hm, ST.test (SE.op2 hr q1 q2)⟩
theorem ct_lt (h1 : CO X ct W a o1) (h2 : CO X ct W b o2) : CT X ct W (.Compare a [.Lt] [b] pos) (cTst (cPrim pLt [o1, o2])) := tcmp op_lt prLt h1 h2 (nomark _)
theorem ct_le (h1 : CO X ct W a o1) (h2 : CO X ct W b o2) : CT X ct W (.Compare a [.LtE] [b] pos) (cTst (cPrim pLe [o1, o2])) := tcmp op_le prLe h1 h2 (nomark _)
theorem ct_gt (h1 : CO X ct W a o1) (h2 : CO X ct W b o2) : CT X ct W (.Compare a [.Gt] [b] pos) (cTst (cPrim pGt [o1, o2])) := tcmp op_gt prGt h1 h2 (nomark _)
theorem ct_ge (h1 : CO X ct W a o1) (h2 : CO X ct W b o2) : CT X ct W (.Compare a [.GtE] [b] pos) (cTst (cPrim pGe [o1, o2])) := tcmp op_ge prGe h1 h2 (nomark _)
theorem ct_eq (hu : X.A.units + 65 < cLine) (h1 : CO X ct W a o1) (h2 : CO X ct W b o2) : CT X ct W (.Compare a [.Eq] [b] pos) (cTst (cPrim pEqA [o1, o2])) := tcmp (opEq (by omega)) prEqA h1 h2 (nomark _)
theorem ct_ne (hu : X.A.units + 65 < cLine) (h1 : CO X ct W a o1) (h2 : CO X ct W b o2) : CT X ct W (.Compare a [.NotEq] [b] pos) (cTst (cPrim pNe [o1, o2])) := tcmp (op_neD (by omega)) prNe h1 h2 (nomark _)
theorem ct_isN (h1 : CO X ct W a o1) (h2 : CO X ct W b o2) : CT X ct W (.Compare a [.Is] [b] pos) (cTst (cPrim pIsN [o1, o2])) := tcmp op_isN prIsN h1 h2 (nomark _)
theorem ct_notN (h1 : CO X ct W a o1) (h2 : CO X ct W b o2) : CT X ct W (.Compare a [.IsNot] [b] pos) (cTst (cPrim pNotN [o1, o2])) := tcmp op_notN prNotN h1 h2 (nomark _)
theorem ct_in (hu : X.A.units + 65 < cLine) (h1 : CO X ct W a o1) (h2 : CO X ct W b o2) (hm : behindInMarks .In b = false := by rfl) : CT X ct W (.Compare a [.In] [b] pos) (cTst (cPrim pIn [o1, o2])) := tcmp (opIn hu) prIn h1 h2 hm
theorem ct_ni (hu : X.A.units + 65 < cLine) (h1 : CO X ct W a o1) (h2 : CO X ct W b o2) (hm : behindInMarks .NotIn b = false := by rfl) : CT X ct W (.Compare a [.NotIn] [b] pos) (cTst (cPrim pNi [o1, o2])) := tcmp (opNi hu) prNi h1 h2 hm
theorem CW.toT (h : CW X ct W e t1) : CT X ct W e t1 := by
  obtain ⟨t, p, q⟩ := h
  exact ⟨t, p.pt, q⟩
theorem cw_and1 (h : CT X ct W a t1) : CW X ct W (.BoolOp .And [a] pos) t1 := by
  obtain ⟨t, p, q⟩ := h
  exact ⟨_, pw_and1 p, q⟩
theorem cw_or1 (h : CT X ct W a t1) : CW X ct W (.BoolOp .Or [a] pos) t1 := by
  obtain ⟨t, p, q⟩ := h
  exact ⟨_, pw_or1 p, q⟩
theorem cw_and (h1 : CT X ct W a t1) (h2 : CW X ct W (.BoolOp .And (b :: es) pos) t2) : CW X ct W (.BoolOp .And (a :: b :: es) pos) (cAnd t1 t2) := by
  obtain ⟨t, p1, q1⟩ := h1
  obtain ⟨u, p2, q2⟩ := h2
  exact ⟨_, pw_and p1 p2, ST.and q1 q2⟩
theorem cw_or (h1 : CT X ct W a t1) (h2 : CW X ct W (.BoolOp .Or (b :: es) pos) t2) : CW X ct W (.BoolOp .Or (a :: b :: es) pos) (cOr t1 t2) := by
  obtain ⟨t, p1, q1⟩ := h1
  obtain ⟨u, p2, q2⟩ := h2
  exact ⟨_, pw_or p1 p2, ST.or q1 q2⟩
theorem ct_not (h1 : CT X ct W a t1) : CT X ct W (.UnaryOp .Not a pos) (cNot t1) := by
  obtain ⟨t, p1, q1⟩ := h1
  exact ⟨_, pt_not p1, ST.not q1⟩
theorem cts_nil : CTs X ct W [] cYes := ⟨_, pts_nil, ST.yes⟩
theorem cts_one (h : CT X ct W c t1) : CTs X ct W [c] t1 := by
  obtain ⟨t, p, q⟩ := h
  exact ⟨_, pts_one p, q⟩
/-! targets -/
theorem cg_name (i : Nat) {x : Str} (hN : X.N.Nodup) (hf : i ∉ fx := by decide) (hi : X.N[i]? = some x := by rfl) (hx : Loc X.env.scope x := by first | exact Or.inl rfl | exact Or.inr rfl) (hfn : X.fn x = true ∨ X.env.scope.names.lookup x = some .local := by first | exact .inl rfl | exact .inr rfl) : CG X ct fx (.Name x pos) (tgN i) := ⟨_, pg_name hN hi hx hfn, SG.name hf⟩
theorem cgs_nil : CGs X ct fx [] tgNil := ⟨_, pgs_nil, SGs.nil⟩
theorem cgs_cons {tg : D → Sl → Option Sl} {tgs : List D → Sl → Option Sl} (h1 : CG X ct fx e tg) (h2 : CGs X ct fx es tgs) (hs : (assignEach (e :: es) X.env).map (·.2) = assign e X.env :: (assignEach es X.env).map (·.2) := by rfl) : CGs X ct fx (e :: es) (tgCons tg tgs) := by
  obtain ⟨g, p1, q1⟩ := h1
  obtain ⟨gs, p2, q2⟩ := h2
  exact ⟨_, pgs_cons p1 p2 hs, SGs.cons q1 q2⟩
theorem cg_tup {k : Nat} {tgs : List D → Sl → Option Sl} {n : Nat} (hc : X.calm = true) (h : CGs X ct fx es tgs) (hn : (assignEach es X.env).length = n := by rfl) (hst : (assignEach es X.env).findIdx? (·.1) = none := by rfl) : CG X ct fx (.Tuple es k pos) (tgTup n tgs) := by
  obtain ⟨gs, p, q⟩ := h
  exact ⟨_, pg_tup hc p hn hst, SG.tup q⟩
/-! what is walked -/
variable {tg : Expr}
theorem ci_list (h : CE X ct W e m) : CI X ct W tg e (cItL m) := by
  obtain ⟨t, p, q⟩ := h
  exact ⟨_, pi_list p, SI.list q⟩
theorem ci_tup (h : CE X ct W e m) : CI X ct W tg e (cItT m) := by
  obtain ⟨t, p, q⟩ := h
  exact ⟨_, pi_tup p, SI.tup q⟩
theorem ci_range1 {p : Pos} (hg : Gl X "range") (hm : X.mg "range" = none) (ha : CO X ct W a o) (hs : starEach [a] X.env = [(false, eval a X.env)] := by rfl) : CI X ct W tg (.Call (.Name "range" p) [a] [] pos) (cItR1 o) := by
  obtain ⟨t, p1, q1⟩ := ha
  exact ⟨_, pi_range1 hg hm (pa_cons p1 pa_nil hs) hs, SI.range1 q1⟩
theorem ci_range2 {p : Pos} (hg : Gl X "range") (hm : X.mg "range" = none) (ha : CO X ct W a o) (hb : CO X ct W b o2) (hs : starEach [a, b] X.env = [(false, eval a X.env), (false, eval b X.env)] := by rfl) (hs2 : starEach [b] X.env = [(false, eval b X.env)] := by rfl) : CI X ct W tg (.Call (.Name "range" p) [a, b] [] pos) (cItR2 o o2) := by
  obtain ⟨t, p1, q1⟩ := ha
  obtain ⟨u, p2, q2⟩ := hb
  exact ⟨_, pi_range2 hg hm (pa_cons p1 (pa_cons p2 pa_nil hs2) (hs.trans (by rw [hs2]))) hs hs2, SI.range2 q1 q2⟩
/-! comprehensions -/
theorem ce_lc {elt iter : Expr} {ifs : List Expr} {scope : Scope} (own : List (Str × Nat)) {it : CIt} {g : TG} {tgm : D → Sl → Option Sl} {cc : CTst} {ee : CExp} (hc : X.calm = true) (hN : X.N.Nodup) (hi : CI X ct W tg iter it) (ok : BlkOk X.N X.env.scope scope own) (hlen : LenG tgm)
    (hgs : ∀ fx', (∀ j ∈ own.map (·.2), j ∉ fx') → SG (Gx X ct) fx' g tgm) (hg : ∀ (s : Shared) (H : Hp) (C : Addr) (cl : List (Str × Addr)) (fp : List Addr), PG (X.blk s H scope (compEnvC scope cl C X.env) fp) tg g)
    {tt : TT} {te : TE} (ht : ∀ (s : Shared) (H : Hp) (C : Addr) (cl : List (Str × Addr)) (fp : List Addr), PTs (X.blk s H scope (compEnvC scope cl C X.env) fp) ifs tt) (hts : ST (Gx X ct) WF tt cc)
    (he : ∀ (s : Shared) (H : Hp) (C : Addr) (cl : List (Str × Addr)) (fp : List Addr), PE (X.blk s H scope (compEnvC scope cl C X.env) fp) elt te) (hes : SE (Gx X ct) WF te ee) (hs : ∀ x, foldedSetIterable iter X.env x = pure x := by intro _; rfl) :
    CE X ct W (.ListComp elt [⟨tg, iter, ifs, 0⟩] scope pos) (cLc it tgm cc ee (own.map (·.2))) := by
  obtain ⟨wi, p, q⟩ := hi
  exact ⟨_, pe_lc hc hN p ok hg ht he hs, SE.lc q hgs hlen hts hes⟩
/-! statements -/
theorem css_nil : CSs X ct fx W [] cNext := ⟨_, pss_nil, SS.next⟩
theorem css_cons {st : Stmt} {rest : List Stmt} (h1 : CS X ct fx W st s1) (h2 : CSs X ct fx W rest s2) : CSs X ct fx W (st :: rest) (cSeq s1 s2) := by
  obtain ⟨t, p1, q1⟩ := h1
  obtain ⟨u, p2, q2⟩ := h2
  exact ⟨_, pss_cons p1 p2, SS.seq q1 q2⟩
theorem css_one {st : Stmt} (h1 : CS X ct fx W st s1) : CSs X ct fx W [st] s1 := by
  obtain ⟨t, p1, q1⟩ := h1
  exact ⟨_, pss_one p1, q1⟩
theorem cs_pass : CS X ct fx W (.Pass pos) cNext := ⟨_, ps_pass, SS.next⟩
theorem cs_brk : CS X ct fx W (.Break pos) cBrk := ⟨_, ps_break, SS.brk⟩
theorem cs_cnt : CS X ct fx W (.Continue pos) cCnt := ⟨_, ps_continue, SS.cnt⟩
theorem cs_doc {x j pos'} : CS X ct fx W (.Expr (.Constant (.str x) j pos) pos') cNext := ⟨_, ps_doc, SS.next⟩
theorem cs_ret (h : CE X ct W e m) : CS X ct fx W (.Return (some e) pos) (cRet m) := by
  obtain ⟨t, p, q⟩ := h
  exact ⟨_, ps_ret p, SS.ret q⟩
theorem cs_retN : CS X ct fx W (.Return none pos) cRetN := ⟨_, ps_retN, SS.retN⟩
theorem cs_expr (h : CE X ct W e m) (hs : swapsWith e none pos.line X.env = pure false := by rfl) : CS X ct fx W (.Expr e pos) (cDrop m) := by
  obtain ⟨t, p, q⟩ := h
  exact ⟨_, ps_expr p hs, SS.drop q⟩
theorem cs_if {l1 l2 : List Stmt} (h : CT X ct W c t1) (h1 : CSs X ct fx W l1 s1) (h2 : CSs X ct fx W l2 s2) : CS X ct fx W (.If c l1 l2 pos) (cIf t1 s1 s2) := by
  obtain ⟨t, p, q⟩ := h
  obtain ⟨u, p1, q1⟩ := h1
  obtain ⟨v, p2, q2⟩ := h2
  exact ⟨_, ps_if p p1 p2, SS.if q q1 q2⟩
theorem cs_set (i : Nat) {x : Str} {pos' : Pos} (hN : X.N.Nodup) (h : CE X ct W e m) (hf : i ∉ fx := by decide) (hi : X.N[i]? = some x := by rfl) (hx : Loc X.env.scope x := by first | exact Or.inl rfl | exact Or.inr rfl) (hs : swapsWith e (some (.Name x pos')) pos.line X.env = pure false := by rfl) (hfn : X.fn x = true ∨ X.env.scope.names.lookup x = some .local := by first | exact .inl rfl | exact .inr rfl) : CS X ct fx W (.Assign [.Name x pos'] e pos) (cAsg i m) := by
  obtain ⟨t, p, q⟩ := h
  exact ⟨_, ps_set hN hi hx p hs hfn, SS.asg q hf⟩
theorem cs_setLc (i : Nat) {y : Str} {py spos : Pos} {elt iter : Expr} {ifs : List Expr} {scope : Scope} (own : List (Str × Nat)) {it : CIt} {g : TG} {tgm : D → Sl → Option Sl} {cc : CTst} {ee : CExp} (hc : X.calm = true) (hN : X.N.Nodup) (hf : i ∉ fx) (hy : X.N[i]? = some y) (hyl : X.env.scope.names.lookup y = some .local)
    (hsw : swapsWith (.ListComp elt [⟨tg, iter, ifs, 0⟩] scope pos) (some (.Name y py)) spos.line X.env = pure true) (hi : CI X ct W tg iter it) (ok : BlkOk X.N X.env.scope scope own) (hlen : LenG tgm)
    (hgs : ∀ fx', (∀ j ∈ own.map (·.2), j ∉ fx') → SG (Gx X ct) fx' g tgm) (hg : ∀ (s : Shared) (H : Hp) (C : Addr) (cl : List (Str × Addr)) (fp : List Addr), PG (X.blk s H scope (compEnvC scope cl C X.env) fp) tg g)
    {tt : TT} {te : TE} (ht : ∀ (s : Shared) (H : Hp) (C : Addr) (cl : List (Str × Addr)) (fp : List Addr), PTs (X.blk s H scope (compEnvC scope cl C X.env) fp) ifs tt) (hts : ST (Gx X ct) WF tt cc)
    (he : ∀ (s : Shared) (H : Hp) (C : Addr) (cl : List (Str × Addr)) (fp : List Addr), PE (X.blk s H scope (compEnvC scope cl C X.env) fp) elt te) (hes : SE (Gx X ct) WF te ee) (hs : ∀ x, foldedSetIterable iter X.env x = pure x := by intro _; rfl) :
    CS X ct fx W (.Assign [.Name y py] (.ListComp elt [⟨tg, iter, ifs, 0⟩] scope pos) spos) (cAsg i (cLc it tgm cc ee (own.map (·.2)))) := by
  obtain ⟨wi, p, q⟩ := hi
  exact ⟨_, ps_setLc hc hN hy hyl hsw p ok hg ht he hs, SS.asg (SE.lc q hgs hlen hts hes) hf⟩
theorem cs_asgT {tgm : D → Sl → Option Sl} (h : CE X ct W e m) (hg : CG X ct fx tg tgm) (hs : swapsWithSole [tg] e pos.line X.env = pure false := by rfl) (hw : swappedStores [tg] e X.env = pure none := by rfl) (h1 : (assignEach [tg] X.env).map (·.2) = [assign tg X.env] := by rfl) : CS X ct fx W (.Assign [tg] e pos) (cAsgT tgm m) := by
  obtain ⟨t, p, q⟩ := h
  obtain ⟨g, p2, q2⟩ := hg
  exact ⟨_, ps_asg p p2 hs hw h1, SS.asgT q q2⟩
theorem cs_store (i : Nat) {x : Str} {p1 p2 : Pos} {ix : Expr} {mi : CExp} (hu : X.A.units + 65 < cLine) (h : CE X ct W e m) (hix : CE X ct W ix mi) (hN : X.N[i]? = some x := by rfl) (hv : Vis X.env.scope x := by first | exact Or.inl rfl | exact Or.inr (Or.inl rfl) | exact Or.inr (Or.inr rfl)) (hd : (x == ("__debug__" : Str)) = false := by decide) (hcd : (x == ("__classdict__" : Str)) = false := by decide)
    (hs : swapsWithSole [.Subscript (.Name x p1) ix p2] e pos.line X.env = pure false := by rfl) (hw : swappedStores [.Subscript (.Name x p1) ix p2] e X.env = pure none := by rfl) (h1 : (assignEach [.Subscript (.Name x p1) ix p2] X.env).map (·.2) = [assign (.Subscript (.Name x p1) ix p2) X.env] := by rfl)
    (ha : ∀ v, assign (.Subscript (.Name x p1) ix p2) X.env v = (do
      let ov ← holding [v] (eval (.Name x p1) X.env)
      let iv ← holding [v, ov] (eval ix X.env)
      standAt p2
      holding [v, ov, iv] (setItem ov iv v)
      release [v, ov, iv] []) := by intro _; rfl) : CS X ct fx W (.Assign [.Subscript (.Name x p1) ix p2] e pos) (cSet i mi m) := by
  obtain ⟨t, p, q⟩ := h
  obtain ⟨u, r, s⟩ := hix
  exact ⟨_, ps_asg p (pg_sub (pe_var hN hv hd hcd) r (set_any (by omega)) ha) hs hw h1, SS.set s q⟩
theorem cs_aug {op : Operator} {f : List D → Option Slot} {ti : TIp} (i : Nat) {x : Str} {pos' : Pos} (ho : PIp X op ti) (hr : PrimR (Gx X ct) (r2l ti) f) (hN : X.N.Nodup) (h : CE X ct W e m) (hf : i ∉ fx := by decide) (hi : X.N[i]? = some x := by rfl) (hx : Loc X.env.scope x := by first | exact Or.inl rfl | exact Or.inr rfl) (hfn : X.fn x = true ∨ X.env.scope.names.lookup x = some .local := by first | exact .inl rfl | exact .inr rfl) : CS X ct fx W (.AugAssign (.Name x pos') op e pos) (cAug i f m) := by
  obtain ⟨t, p, q⟩ := h
  exact ⟨_, ps_aug hN hi hx p ho hfn, SS.aug hr q hf⟩
def pAddI := pI0 fun i j => .int (i + j)
theorem prAddI : PrimR (Gx X ct) (r2l (ipI fun i j => i + j)) pAddI := prI0 (g := fun i j => .int (i + j)) fun _ _ _ _ => .int _
theorem prSubI : PrimR (Gx X ct) (r2l (ipI fun i j => i - j)) pSub := prI0 (g := fun i j => .int (i - j)) fun _ _ _ _ => .int _
theorem cs_for {iter : Expr} {body : List Stmt} {it : CIt} {tgm : D → Sl → Option Sl} (hp : PassesOwn (model X.prog X.w) X.A X.env X.xe) (hc : X.calm = true) (hi : CI X ct W tg iter it) (hg : CG X ct fx tg tgm) (hb : CSs X ct fx W body s1) (hs : ∀ x, foldedSetIterable iter X.env x = pure x := by intro _; rfl) : CS X ct fx W (.For tg iter body [] pos) (cFor it tgm s1) := by
  obtain ⟨wi, p, q⟩ := hi
  obtain ⟨g, p2, q2⟩ := hg
  obtain ⟨t, p3, q3⟩ := hb
  exact ⟨_, ps_for hp hc p p2 p3 hs, SS.for q q2 q3⟩
theorem cs_while {body : List Stmt} (n : Nat) (hp : PassesOwn (model X.prog X.w) X.A X.env X.xe) (h : CT X ct W c t1) (hb : CSs X ct fx W body s1) : CS X ct fx W (.While c body [] pos) (whl t1 s1 n) := by
  obtain ⟨t, p, q⟩ := h
  obtain ⟨u, p2, q2⟩ := hb
  exact ⟨_, ps_while hp p p2, SS.whl q q2⟩
end
/-! ### defs -/
structure Fn (P : Program) (w : World) (K : PySem.W.Frag) (mg : Str → Option Value) (base : Heap) (ct : Cn) (k : Nat) (x : Str) (np : Nat) (F : CFun) : Prop where
  ex : ∃ f : Addr, L2.FnR P w K mg base (L2.CX P w) k f (spD ⟨K, ct⟩ F np) ∧ mg x = some (.ref f) ∧ PySem.W.keepIn K (.ref f) = true
theorem run_fnRS {X : Cx} {k : Nat} {f : Addr} {sp : Sp} {E : XK} {pins : List (Addr × Obj)} {σ : L2.St} {H : Hp} {s : Shared} {Q : VK} {us : List Value} {vs : List V} (F : L2.FnR X.prog X.w X.K X.mg X.base (L2.CX X.prog X.w) k f sp) (hr : Room k X.A) (hx : PassesAt (L2.CX X.prog X.w) X σ E)
    (I : L2.Inv X pins σ H s) (r : Vals vs us) (h : sp vs H Q E) : wpAny (model X.prog X.w) X.A (call (.ref f) us) (EP X pins σ Q) X.xe s := by
  refine wpAny_call (codeAny_mono (F X.A X.stack s H us vs Q E hr I.env0 r h) fun z s' hq => ?_)
  cases z with
  | error e => exact hx pins H s e s' I hq
  | ok fl =>
    cases fl with
    | ret u => exact I.after hq
    | next => exact hq.elim
    | brk => exact hq.elim
    | cont => exact hq.elim
theorem pe_callRS {X : Cx} {k : Nat} {f : Addr} {sp : Sp} {E : L2.St → XK} {x : Str} {p pos : Pos} {e : Expr} {es : List Expr} {t : TA} (F : L2.FnR X.prog X.w X.K X.mg X.base (L2.CX X.prog X.w) k f sp) (hr : Room k X.A) (hg : Gl X x) (hm : X.mg x = some (.ref f)) (hk : PySem.W.keepIn X.K (.ref f) = true) (hx : ∀ σ, PassesAt (L2.CX X.prog X.w) X σ (E σ))
    (ha : PA X (e :: es) t) (hdb : (x == ("__debug__" : Str)) = false := by decide) (he : starEach (e :: es) X.env = (false, eval e X.env) :: starEach es X.env := by rfl) (hpl : (backTo pos (starEach es X.env)).any (·.1) = false := by rfl) :
    PE X (.Call (.Name x p) (e :: es) [] pos) (tCallS sp E t) := ⟨fun pins s σ H Q I h =>
  wpAny_Call_Name_kw (ld_glob I hg hm (PySem.W.callWith_K (h₀ := X.base) I.ok.mod.kin hk (thn (ha.run pos pins s σ H _ I h) fun us s1 ⟨vs, H1, I1, r, q⟩ => ⟨I1.kIn, run_fnRS F hr (hx σ) I1 r q⟩) he hpl) hdb)⟩
theorem pe_callRS0 {X : Cx} {k : Nat} {f : Addr} {sp : Sp} {E : L2.St → XK} {x : Str} {p pos : Pos} (F : L2.FnR X.prog X.w X.K X.mg X.base (L2.CX X.prog X.w) k f sp) (hr : Room k X.A) (hg : Gl X x) (hm : X.mg x = some (.ref f)) (hk : PySem.W.keepIn X.K (.ref f) = true) (hx : ∀ σ, PassesAt (L2.CX X.prog X.w) X σ (E σ))
    (hdb : (x == ("__debug__" : Str)) = false := by decide) : PE X (.Call (.Name x p) [] [] pos) (tCallS sp E tNil) := ⟨fun pins s σ H Q I h =>
  wpAny_Call_Name_kw (ld_glob I hg hm (PySem.W.callWith_K0 I.kIn hk (run_fnRS (vs := []) F hr (hx σ) I .nil h)) hdb)⟩
theorem fn_mk {P : Program} {w : World} {K : PySem.W.Frag} {mg : Str → Option Value} {base : Heap} {ct : Cn} {x : Str} {st : Stmt} {f : Addr} {fd : FuncData} {N ps : List Str} {k : Nat} (fx : List Nat) {m : CStm} (F : L2.Fun K x x st f fd) (S : FnScope N ps (defScope st)) (hm : mg x = some (.ref f)) (hb : Binds K fd ps [])
    (body : ∀ (cdv : Value) (A : Around) (outer : List Env) (s : Shared) (H : Hp) (E : XK), Room k (A.deeper (envOfC x (defScope st) s.heap.objs.size f cdv)) →
      Takes (cxOf (L2.CX P w) P w K mg base N x (defScope st) f cdv A outer s H E) (fun cls d _ H => E cls d H) →
      PassesOwn (model P w) (cxOf (L2.CX P w) P w K mg base N x (defScope st) f cdv A outer s H E).A (cxOf (L2.CX P w) P w K mg base N x (defScope st) f cdv A outer s H E).env (cxOf (L2.CX P w) P w K mg base N x (defScope st) f cdv A outer s H E).xe →
      (cxOf (L2.CX P w) P w K mg base N x (defScope st) f cdv A outer s H E).A.units + 65 < cLine →
      CSs (cxOf (L2.CX P w) P w K mg base N x (defScope st) f cdv A outer s H E) ct fx (fun cls d _ H => E cls d H) (defBody st) m) : Fn P w K mg base ct (k + 1) x ps.length (bodyF fx N.length m) := by
  refine ⟨f, ?_, hm, F.kp⟩
  have G : FnOk P w K mg base (L2.CX P w) (k + 1) f fd ps (spD ⟨K, ct⟩ (bodyF fx N.length m) ps.length) := ?_
  · exact (G.raw hb .nil).imp fun vs H Q E h => by rw [List.append_nil]; exact h
  refine F.okX S (fun vs H Q E h => h.1) fun cdv A outer s H vs Q E hr h => ?_
  obtain ⟨t, p, q⟩ := body cdv A outer s H E hr (takes_of rfl rfl rfl rfl) (passes_of rfl) (by have := hr.un; show (A.deeper _).units + 65 < cLine; omega)
  exact ⟨t, p, def_ok q h⟩
theorem ce_call {X : Cx} {ct : Cn} {W : WX} {e : Expr} {es : List Expr} {pos p : Pos} {os : List Opd} {k k' np : Nat} {x : Str} {F : CFun} (h : Fn X.prog X.w X.K X.mg X.base ct k x np F) (hr : Room k' X.A) (hk : k ≤ k') (hg : Gl X x) (tk : Takes X W) (ha : CA X ct W (e :: es) os) (hn : os.length = np)
    (hdb : (x == ("__debug__" : Str)) = false := by decide) (he : starEach (e :: es) X.env = (false, eval e X.env) :: starEach es X.env := by rfl) (hpl : (backTo pos (starEach es X.env)).any (·.1) = false := by rfl) : CE X ct W (.Call (.Name x p) (e :: es) [] pos) (cCall F os) := by
  obtain ⟨f, G, hm, kp⟩ := h.ex
  obtain ⟨t, p1, q1⟩ := ha
  exact ⟨_, pe_callRS G (hr.mono hk) hg hm kp (fun σ => passAt tk σ) p1 hdb he hpl, SE.call q1 hn⟩
theorem ce_call0 {X : Cx} {ct : Cn} {W : WX} {pos p : Pos} {k k' : Nat} {x : Str} {F : CFun} (h : Fn X.prog X.w X.K X.mg X.base ct k x 0 F) (hr : Room k' X.A) (hk : k ≤ k') (hg : Gl X x) (tk : Takes X W) (hdb : (x == ("__debug__" : Str)) = false := by decide) : CE X ct W (.Call (.Name x p) [] [] pos) (cCall F []) := by
  obtain ⟨f, G, hm, kp⟩ := h.ex
  exact ⟨_, pe_callRS0 G (hr.mono hk) hg hm kp (fun σ => passAt tk σ) hdb, SE.call .nil rfl⟩
end VS

namespace VS
open PySem L2 PySem.Spec PyProof.Rows
/-! ### a list, a tuple, a text walked -/
def iSeq (K : PySem.W.Frag) (tl : TE) : TI := fun σ H R => tl σ H fun x H1 => (∃ a, x = .ref a ∧ (∃ xs, SqL K H1 a xs) ∧ R (Itl K a) H1) ∨ (∃ a, x = .ref a ∧ (∃ xs, SqT K H1 a xs) ∧ R (Itt K a) H1) ∨ (∃ z, x = .str z ∧ R (Its z) H1)
theorem pi_seq {X : Cx} {tg l : Expr} {tl : TE} (hl : PE X l tl) : PI X tg l (iSeq X.K tl) := by
  refine ⟨fun pins s σ H R I h => ?_⟩
  refine thn (hl.run pins s σ H _ I h) fun v s1 ⟨x, H1, I1, r1, q1⟩ => ?_
  rcases q1 with ⟨a, e, ⟨xs, hq⟩, q⟩ | ⟨a, e, ⟨xs, hq⟩, q⟩ | ⟨z, e, q⟩
  · subst e
    cases r1
    obtain ⟨its, rv, p, hz⟩ := I1.list hq
    refine wpAny_pyIter_list p.isList ?_
    refine ⟨s1.heap.objs.size, [s1.heap.objs.size], _, _, H1, rfl, I1.kept (t' := s1.toks) fun b o e => Heap.get?_push_of_some _ e, turn_list a _, ⟨_, Heap.get?_push_size _ rfl, rfl, rfl⟩, fun b hb => ?_, q⟩
    have e : b = s1.heap.objs.size := by simpa using hb
    subst e
    exact I1.fpOk (Nat.le_refl _) (I1.hok.fresh (Nat.le_refl _))
  · subst e
    cases r1
    obtain ⟨its, rv, p, hz⟩ := I1.tuple hq
    refine wpAny_pyIter_tuple (show s1.heap.IsTuple a its.toArray from p) ?_
    refine ⟨s1.heap.objs.size, [s1.heap.objs.size], _, _, H1, rfl, I1.kept (t' := s1.toks) fun b o e => Heap.get?_push_of_some _ e, turn_tuple a _, ⟨_, Heap.get?_push_size _ rfl, rfl, rfl⟩, fun b hb => ?_, q⟩
    have e : b = s1.heap.objs.size := by simpa using hb
    subst e
    exact I1.fpOk (Nat.le_refl _) (I1.hok.fresh (Nat.le_refl _))
  · subst e
    obtain ⟨t, rfl⟩ := r1
    cases ha : z.cps.all (· < 128)
    · exact wpAny_pyIter_wide ha (pi_one (tk := s1.toks) I1 _ (turn_str _ z t "str_iterator" (.inr rfl)) ⟨_, Heap.get?_push_size _ rfl, rfl, rfl⟩ q)
    · exact wpAny_pyIter_ascii ha (pi_one (tk := s1.toks) I1 _ (turn_str _ z t "str_ascii_iterator" (.inl rfl)) ⟨_, Heap.get?_push_size _ rfl, rfl, rfl⟩ q)
def signsD (z : Str) : List D := z.cps.toList.map fun c => .str ⟨#[c]⟩
def seqD : D → Option (List D)
  | .lst xs => some xs
  | .scr ns => some (ns.map D.int)
  | .tup xs => some xs
  | .ktup xs => some xs
  | .str z => some (signsD z)
  | _ => none
def cItS (m : CExp) : CIt := fun ρ => (m ρ).bind fun s ρ1 => match seqD s.1 with
  | some ds => .ok ds ρ1
  | none => .stuck
section
variable {Γ : Gm} {W : WX}
theorem strOk_sign {z : Str} {c : Nat} (h : PyData.strOk z = true) (hc : c ∈ z.cps.toList) : PyData.strOk ⟨#[c]⟩ = true := by
  unfold PyData.strOk at *
  rw [Array.all_eq_true] at h
  have hm2 : c ∈ z.cps := by simpa using hc
  obtain ⟨k, hk, e2⟩ := Array.getElem_of_mem hm2
  have := h k hk
  rw [e2] at this
  simpa using this
theorem wk_str {z : Str} (h : PyData.strOk z = true) : Wk Γ (Its z) (fun _ _ => True) (signsD z) where
  pres := fun _ _ _ _ _ _ => trivial
  item := fun O H i d m _ hd => by
    unfold signsD at hd
    rw [List.getElem?_map] at hd
    cases q : z.cps.toList[i]? with
    | none => rw [q] at hd; cases hd
    | some c =>
      rw [q] at hd
      cases hd
      have hl := lt_of_at q
      refine ⟨by show i < z.cps.size; simpa using hl, fun x H' y => ?_⟩
      obtain ⟨e1, c', e2, e3⟩ := y
      subst e1 e3
      have e4 : c' = c := by
        rw [Array.getElem?_toList] at q
        rw [q] at e2
        exact (Option.some.inj e2).symm
      subst e4
      exact ⟨Ext.refl _, .str _ (strOk_sign h (List.mem_of_getElem? q))⟩
  done := fun O H _ => by
    show z.cps.size ≤ (signsD z).length
    simp [signsD]
theorem SI.seq {tl : TE} {m : CExp} (h : SE Γ W tl m) : SI Γ W (iSeq Γ.K tl) (cItS m) := by
  intro Z σ ρ H R F k
  refine h.val F ?_
  unfold cItS at k
  revert k
  cases m ρ with
  | exc c fs ρ' => exact fun k => k
  | stuck => exact fun k => k
  | ok s ρ1 =>
    obtain ⟨d, b⟩ := s
    cases d with
    | lst xs =>
      intro k v H1 f1 s1 r
      cases r with
      | @lst a vs _ h n r => exact .inl ⟨a, rfl, ⟨vs, SqL.of h⟩, k _ _ H1 f1 s1 wk_list ⟨vs, SqL.of h, r, .inl ⟨h, n⟩⟩⟩
    | scr ns =>
      intro k v H1 f1 s1 r
      cases r with
      | @scr a _ h =>
        refine .inl ⟨a, rfl, ⟨_, h.sq⟩, k _ _ H1 f1 s1 wk_list ⟨_, h.sq, ints_reps ns, .inr ⟨?_, ?_⟩⟩⟩
        · rw [ints_fm]; exact h
        · rw [ints_fm]
    | tup xs =>
      intro k v H1 f1 s1 r
      cases r with
      | @tup a vs _ h r => exact .inr (.inl ⟨a, rfl, ⟨vs, SqT.of h⟩, k _ _ H1 f1 s1 wk_tup ⟨vs, .inl h, r⟩⟩)
    | ktup xs =>
      intro k v H1 f1 s1 r
      cases r with
      | @ktup a vs _ h r => exact .inr (.inl ⟨a, rfl, ⟨vs, .inr h⟩, k _ _ H1 f1 s1 wk_tup ⟨vs, .inr h, r⟩⟩)
    | str z =>
      intro k v H1 f1 s1 r
      cases r with
      | str _ h => exact .inr (.inr ⟨z, rfl, k _ _ H1 f1 s1 (wk_str h) trivial⟩)
    | _ => exact fun k => k.elim
end
theorem ci_seq {X : Cx} {ct : Cn} {W : WX} {tg e : Expr} {m : CExp} (h : CE X ct W e m) : CI X ct W tg e (cItS m) := by
  obtain ⟨t, p, q⟩ := h
  exact ⟨_, pi_seq p, SI.seq q⟩
/-! ### list(x) of anything known -/
def pListA : List D → Option Slot
  | [.dK kvs] => pListD [.dK kvs]
  | ds => pList' ds
def rListA (K : PySem.W.Frag) : List V → Hp → VK → Prop := fun xs H Q => rList1 K xs H Q ∨ rListD xs H Q
theorem cr_list {X : Cx} (hc : X.calm = true) : CallR X (.type "list") (rListA X.K) := callOr call_list_of (call_list_dK hc)
theorem prListA {Γ : Gm} : PrimR Γ (rListA Γ.K) pListA := by
  intro O H vs ds s Q m b e k
  unfold pListA at e
  split at e
  · exact .inr (prListD O H vs _ s Q m b e k)
  · exact .inl (prList O H vs _ s Q m b e k)
theorem cr_tuple {X : Cx} : CallR X (.type "tuple") (rTuple1 X.K) := call_tuple_of
end VS

namespace VS
open PySem L2
/-! ### reckoning with meanings: what simp unfolds -/
@[simp] theorem e_cSeq (a b : CStm) (ρ : Sl) : cSeq a b ρ = match a ρ with | .ok .nx ρ1 => b ρ1 | r => r := rfl
@[simp] theorem e_cIf (c : CTst) (a b : CStm) (ρ : Sl) : cIf c a b ρ = (c ρ).bind fun x ρ1 => if x = true then a ρ1 else b ρ1 := rfl
@[simp] theorem e_cTst (m : CExp) (ρ : Sl) : cTst m ρ = (m ρ).bind fun s ρ' => match s.1 with | .bl b => .ok b ρ' | _ => .stuck := rfl
@[simp] theorem e_cAnd (a b : CTst) (ρ : Sl) : cAnd a b ρ = (a ρ).bind fun x ρ1 => if x = true then b ρ1 else .ok false ρ1 := rfl
@[simp] theorem e_cOr (a b : CTst) (ρ : Sl) : cOr a b ρ = (a ρ).bind fun x ρ1 => if x = true then .ok true ρ1 else b ρ1 := rfl
@[simp] theorem e_cNot (a : CTst) (ρ : Sl) : cNot a ρ = (a ρ).bind fun x ρ1 => .ok (!x) ρ1 := rfl
@[simp] theorem e_cAndV (a b : CExp) (ρ : Sl) : cAndV a b ρ = (a ρ).bind fun x ρ1 => match x.1 with | .bl true => b ρ1 | .bl false => .ok (.bl false, false) ρ1 | _ => .stuck := rfl
@[simp] theorem e_cOrV (a b : CExp) (ρ : Sl) : cOrV a b ρ = (a ρ).bind fun x ρ1 => match x.1 with | .bl true => .ok (.bl true, false) ρ1 | .bl false => b ρ1 | _ => .stuck := rfl
@[simp] theorem e_cNotV (a : CExp) (ρ : Sl) : cNotV a ρ = (a ρ).bind fun x ρ1 => match x.1 with | .bl b => .ok (.bl (!b), false) ρ1 | _ => .stuck := rfl
@[simp] theorem e_cIfE (c : CTst) (a b : CExp) (ρ : Sl) : cIfE c a b ρ = (c ρ).bind fun x ρ1 => if x = true then a ρ1 else b ρ1 := rfl
@[simp] theorem e_cPrim (f : List D → Option Slot) (os : List Opd) (ρ : Sl) : cPrim f os ρ = (evO os ρ).bind fun xs ρ' => fin f os xs ρ' := rfl
@[simp] theorem e_fin (f : List D → Option Slot) (os : List Opd) (xs : List (Option D)) (ρ : Sl) : fin f os xs ρ = match late os xs ρ with | some ds => (match f ds with | some s => .ok s ρ | none => .stuck) | none => .stuck := rfl
@[simp] theorem e_evO_nil (ρ : Sl) : evO [] ρ = .ok [] ρ := rfl
@[simp] theorem e_evO_v (i : Nat) (os : List Opd) (ρ : Sl) : evO (.v i :: os) ρ = match ρ[i]? with | some (some _) => (evO os ρ).bind fun xs ρ' => .ok (none :: xs) ρ' | _ => .stuck := rfl
@[simp] theorem e_evO_e (m : CExp) (os : List Opd) (ρ : Sl) : evO (.e m :: os) ρ = (m ρ).bind fun s ρ1 => (evO os ρ1).bind fun xs ρ2 => .ok (some s.1 :: xs) ρ2 := rfl
@[simp] theorem e_late_nil (ρ : Sl) : late [] [] ρ = some [] := rfl
@[simp] theorem e_late_v (i : Nat) (os : List Opd) (xs : List (Option D)) (ρ : Sl) : late (.v i :: os) (none :: xs) ρ = match ρ[i]?, late os xs ρ with | some (some s), some ds => some (s.1 :: ds) | _, _ => none := rfl
@[simp] theorem e_late_e (m : CExp) (d : D) (os : List Opd) (xs : List (Option D)) (ρ : Sl) : late (.e m :: os) (some d :: xs) ρ = match late os xs ρ with | some ds => some (d :: ds) | none => none := rfl
@[simp] theorem e_cC (d : D) (ρ : Sl) : cC d ρ = .ok (d, false) ρ := rfl
@[simp] theorem e_cVar (i : Nat) (ρ : Sl) : cVar i ρ = match ρ[i]? with | some (some (d, false)) => .ok (d, false) ρ | some (some (d, true)) => .ok (d, false) (ρ.set i (some (d, false))) | _ => .stuck := rfl
@[simp] theorem e_cMove (i : Nat) (ρ : Sl) : cMove i ρ = match ρ[i]? with | some (some (d, b)) => .ok (d, b) (ρ.set i none) | _ => .stuck := rfl
@[simp] theorem e_cRet (m : CExp) (ρ : Sl) : cRet m ρ = (m ρ).bind fun s ρ' => .ok (.rt s) ρ' := rfl
@[simp] theorem e_cRetN (ρ : Sl) : cRetN ρ = .ok (.rt (.non, false)) ρ := rfl
@[simp] theorem e_cNext (ρ : Sl) : cNext ρ = .ok .nx ρ := rfl
@[simp] theorem e_cBrk (ρ : Sl) : cBrk ρ = .ok .bk ρ := rfl
@[simp] theorem e_cCnt (ρ : Sl) : cCnt ρ = .ok .ct ρ := rfl
@[simp] theorem e_cAsg (i : Nat) (m : CExp) (ρ : Sl) : cAsg i m ρ = (m ρ).bind fun s ρ' => .ok .nx (ρ'.set i (some s)) := rfl
@[simp] theorem e_cDrop (m : CExp) (ρ : Sl) : cDrop m ρ = (m ρ).bind fun _ ρ' => .ok .nx ρ' := rfl
@[simp] theorem e_cAsgT (tg : D → Sl → Option Sl) (m : CExp) (ρ : Sl) : cAsgT tg m ρ = (m ρ).bind fun s ρ' => match tg s.1 ρ' with | some ρ2 => .ok .nx ρ2 | none => .stuck := rfl
@[simp] theorem e_tgN (i : Nat) (d : D) (ρ : Sl) : tgN i d ρ = some (ρ.set i (some (d, false))) := rfl
@[simp] theorem e_tgNil (ρ : Sl) : tgNil [] ρ = some ρ := rfl
@[simp] theorem e_tgCons (a : D → Sl → Option Sl) (b : List D → Sl → Option Sl) (d : D) (r : List D) (ρ : Sl) : tgCons a b (d :: r) ρ = match a d ρ with | some ρ1 => b r ρ1 | none => none := rfl
@[simp] theorem e_tgTup (n : Nat) (b : List D → Sl → Option Sl) (ds : List D) (ρ : Sl) : tgTup n b (.tup ds) ρ = if ds.length = n then b ds ρ else none := rfl
@[simp] theorem e_tgKTup (n : Nat) (b : List D → Sl → Option Sl) (ds : List D) (ρ : Sl) : tgTup n b (.ktup ds) ρ = if ds.length = n then b ds ρ else none := rfl
@[simp] theorem e_cFor (it : CIt) (tg : D → Sl → Option Sl) (body : CStm) (ρ : Sl) : cFor it tg body ρ = (it ρ).bind fun ds ρ1 => loop tg body ds ρ1 := rfl
@[simp] theorem e_cItS (m : CExp) (ρ : Sl) : cItS m ρ = (m ρ).bind fun s ρ1 => match seqD s.1 with | some ds => .ok ds ρ1 | none => .stuck := rfl
@[simp] theorem e_seqD_lst (xs : List D) : seqD (.lst xs) = some xs := rfl
@[simp] theorem e_seqD_tup (xs : List D) : seqD (.tup xs) = some xs := rfl
@[simp] theorem e_seqD_ktup (xs : List D) : seqD (.ktup xs) = some xs := rfl
@[simp] theorem e_seqD_scr (ns : List Int) : seqD (.scr ns) = some (ns.map D.int) := rfl
@[simp] theorem e_seqD_str (z : Str) : seqD (.str z) = some (signsD z) := rfl
@[simp] theorem e_cItR1 (o : Opd) (ρ : Sl) : cItR1 o ρ = (evO [o] ρ).bind fun xs ρ1 => match late [o] xs ρ1 with | some [.int n] => if n.natAbs < 2 ^ 62 then .ok (rngD 0 n.toNat) ρ1 else .stuck | _ => .stuck := rfl
@[simp] theorem e_cItR2 (o o2 : Opd) (ρ : Sl) : cItR2 o o2 ρ = (evO [o, o2] ρ).bind fun xs ρ1 => match late [o, o2] xs ρ1 with | some [.int m, .int n] => if m.natAbs < 2 ^ 62 ∧ n.natAbs < 2 ^ 62 then .ok (rngD m (n - m).toNat) ρ1 else .stuck | _ => .stuck := rfl
@[simp] theorem e_cSet (i : Nat) (ix val : CExp) (ρ : Sl) : cSet i ix val ρ = (val ρ).bind fun s ρ1 => (match ρ1[i]? with
  | some (some _) => (ix ρ1).bind fun k ρ2 => (match ρ2[i]? with
    | some (some (d, true)) => (match dStore d k.1 s.1 with
      | some d' => .ok .nx (ρ2.set i (some (d', true)))
      | none => .stuck)
    | _ => .stuck)
  | _ => .stuck) := rfl
@[simp] theorem e_cAug (i : Nat) (f : List D → Option Slot) (m : CExp) (ρ : Sl) : cAug i f m ρ = match ρ[i]? with
  | some (some _) => (m ρ).bind fun s ρ1 => (match fin f [.v i, .e m] [none, some s.1] ρ1 with
    | .ok z ρ2 => .ok .nx (ρ2.set i (some z))
    | .exc c fs ρ2 => .exc c fs ρ2
    | .stuck => .stuck)
  | _ => .stuck := rfl
@[simp] theorem e_cMut (i : Nat) (pk : D → Bool) (f : D → List D → Option (D × D)) (os : List Opd) (ρ : Sl) : cMut i pk f os ρ = match ρ[i]? with
  | some (some (d0, true)) => if pk d0 = true then (evO os ρ).bind fun xs ρ1 => (match late os xs ρ1, ρ1[i]? with
    | some ds, some (some (d, true)) => (match f d ds with
      | some (d', z) => .ok (z, false) (ρ1.set i (some (d', true)))
      | none => .stuck)
    | _, _ => .stuck) else .stuck
  | _ => .stuck := rfl
@[simp] theorem e_cApp (i : Nat) (m : CExp) : cApp i m = cMut i isLst fApp [.e m] := rfl
@[simp] theorem e_cPop (i : Nat) : cPop i = cMut i isLst fPop [] := rfl
@[simp] theorem e_cClear (i : Nat) : cClear i = cMut i isLst fClear [] := rfl
@[simp] theorem e_isLst (xs : List D) : isLst (.lst xs) = true := rfl
@[simp] theorem e_isDict (xs : List (Key × D)) : isDict (.dK xs) = true := rfl
@[simp] theorem e_isDictT (xs : List (List Key × D)) : isDict (.dT xs) = true := rfl
@[simp] theorem e_isStr (x : Str) : isStr (.str x) = true := rfl
@[simp] theorem e_fApp (xs : List D) (d : D) : fApp (.lst xs) [d] = if xs.length < sizeLine then some (.lst (xs ++ [d]), .non) else none := rfl
@[simp] theorem e_fPop (xs : List D) : fPop (.lst xs) [] = match xs[xs.length - 1]? with | some d => some (.lst xs.dropLast, d) | none => none := rfl
@[simp] theorem e_fClear (xs : List D) : fClear (.lst xs) [] = some (.lst [], .non) := rfl
@[simp] theorem e_cRecv_v (pk : D → Bool) (f : List D → Option Slot) (i : Nat) (os : List Opd) (ρ : Sl) : cRecv pk f (.v i) os ρ = match ρ[i]? with
    | some (some s) => if pk s.1 = true then cPrim f (.v i :: os) ρ else .stuck
    | _ => .stuck := rfl
@[simp] theorem e_cRecv_e (pk : D → Bool) (f : List D → Option Slot) (m : CExp) (os : List Opd) (ρ : Sl) : cRecv pk f (.e m) os ρ = (m ρ).bind fun s ρ1 => if pk s.1 = true then (evO os ρ1).bind fun xs ρ2 => fin f (.e m :: os) (some s.1 :: xs) ρ2 else .stuck := rfl
@[simp] theorem e_cCall (F : CFun) (os : List Opd) (ρ : Sl) : cCall F os ρ = (evO os ρ).bind fun xs ρ1 => match argS os xs ρ1, noDup os ρ1 with
  | some args, true => match F args with
    | .ok s as => .ok s (backF os as 0 ρ1)
    | .exc c fs as => .exc c fs (backF os as 0 ρ1)
    | .stuck => .stuck
  | _, _ => .stuck := rfl
@[simp] theorem e_argS_nil (ρ : Sl) : argS [] [] ρ = some [] := rfl
@[simp] theorem e_argS_v (i : Nat) (os : List Opd) (xs : List (Option D)) (ρ : Sl) : argS (.v i :: os) (none :: xs) ρ = match ρ[i]?, argS os xs ρ with | some (some s), some r => some (s :: r) | _, _ => none := rfl
@[simp] theorem e_argS_e (m : CExp) (d : D) (os : List Opd) (xs : List (Option D)) (ρ : Sl) : argS (.e m :: os) (some d :: xs) ρ = match argS os xs ρ with | some r => some ((d, false) :: r) | none => none := rfl
@[simp] theorem e_noDup_nil (ρ : Sl) : noDup [] ρ = true := rfl
@[simp] theorem e_noDup_v (i : Nat) (os : List Opd) (ρ : Sl) : noDup (.v i :: os) ρ = ((match ρ[i]? with | some (some (_, true)) => !hasV os i | _ => true) && noDup os ρ) := rfl
@[simp] theorem e_noDup_e (m : CExp) (os : List Opd) (ρ : Sl) : noDup (.e m :: os) ρ = noDup os ρ := rfl
@[simp] theorem e_hasV_nil (j : Nat) : hasV [] j = false := rfl
@[simp] theorem e_hasV_v (i j : Nat) (os : List Opd) : hasV (.v i :: os) j = (decide (i = j) || hasV os j) := rfl
@[simp] theorem e_hasV_e (m : CExp) (j : Nat) (os : List Opd) : hasV (.e m :: os) j = hasV os j := rfl
@[simp] theorem e_backF_nil (os : List Opd) (as : List (Option Slot)) (k : Nat) : backF os as k [] = [] := rfl
@[simp] theorem e_backF_cons (os : List Opd) (as : List (Option Slot)) (k : Nat) (s : Option Slot) (r : Sl) : backF os as k (s :: r) = updA os as k s :: backF os as (k + 1) r := rfl
@[simp] theorem e_updA_n (os : List Opd) (as : List (Option Slot)) (j : Nat) : updA os as j none = none := rfl
@[simp] theorem e_updA_f (os : List Opd) (as : List (Option Slot)) (j : Nat) (d : D) : updA os as j (some (d, false)) = some (d, false) := rfl
@[simp] theorem e_updA_t (os : List Opd) (as : List (Option Slot)) (j : Nat) (d : D) : updA os as j (some (d, true)) = match findA os as j with | some a => a | none => some (d, true) := rfl
@[simp] theorem e_findA_nil (as : List (Option Slot)) (j : Nat) : findA [] as j = none := rfl
@[simp] theorem e_findA_v (i j : Nat) (os : List Opd) (a : Option Slot) (as : List (Option Slot)) : findA (.v i :: os) (a :: as) j = if i = j then some a else findA os as j := rfl
@[simp] theorem e_findA_e (m : CExp) (j : Nat) (os : List Opd) (a : Option Slot) (as : List (Option Slot)) : findA (.e m :: os) (a :: as) j = findA os as j := rfl
@[simp] theorem e_bodyF (fx : List Nat) (n : Nat) (m : CStm) (args : List Slot) : bodyF fx n m args = match m ((maskF fx 0 args).map some ++ List.replicate (n - args.length) none) with
  | .ok .nx ρ' => .ok (.non, false) (outsF fx ρ' 0 args)
  | .ok (.rt s) ρ' => .ok s (outsF fx ρ' 0 args)
  | .exc c fs ρ' => .exc c fs (outsF fx ρ' 0 args)
  | _ => .stuck := rfl
@[simp] theorem e_maskF_nil (fx : List Nat) (k : Nat) : maskF fx k [] = [] := rfl
@[simp] theorem e_maskF_cons (fx : List Nat) (k : Nat) (s : Slot) (r : List Slot) : maskF fx k (s :: r) = (if k ∈ fx then s else (s.1, false)) :: maskF fx (k + 1) r := rfl
@[simp] theorem e_outsF_nil (fx : List Nat) (ρ : Sl) (k : Nat) : outsF fx ρ k [] = [] := rfl
@[simp] theorem e_outsF_cons (fx : List Nat) (ρ : Sl) (k : Nat) (s : Slot) (r : List Slot) : outsF fx ρ k (s :: r) = (if k ∈ fx then (match ρ[k]? with | some x => x | none => none) else some (s.1, false)) :: outsF fx ρ (k + 1) r := rfl
@[simp] theorem e_cDK (ρ : Sl) : cDK ρ = .ok (.dK [], true) ρ := rfl
@[simp] theorem e_cDT (ρ : Sl) : cDT ρ = .ok (.dT [], true) ρ := rfl
@[simp] theorem e_cYes (ρ : Sl) : cYes ρ = .ok true ρ := rfl
@[simp] theorem e_cLc (it : CIt) (tg : D → Sl → Option Sl) (c : CTst) (e : CExp) (vs : List Nat) (ρ : Sl) : cLc it tg c e vs ρ = (it ρ).bind fun ds ρ1 => if noOwn ρ1 vs = true then (match lcGo tg c e vs ds [] (wipeS ρ1 vs) with
  | .ok acc ρ2 => .ok (.lst acc, true) (backS ρ1 ρ2 vs)
  | _ => .stuck) else .stuck := rfl
@[simp] theorem e_wipeS_nil (ρ : Sl) : wipeS ρ [] = ρ := rfl
@[simp] theorem e_wipeS_cons (ρ : Sl) (v : Nat) (vs : List Nat) : wipeS ρ (v :: vs) = (wipeS ρ vs).set v none := rfl
@[simp] theorem e_backS_nil (ρ0 ρ : Sl) : backS ρ0 ρ [] = ρ := rfl
@[simp] theorem e_backS_cons (ρ0 ρ : Sl) (v : Nat) (vs : List Nat) : backS ρ0 ρ (v :: vs) = match ρ0[v]? with | some x => (backS ρ0 ρ vs).set v x | none => backS ρ0 ρ vs := rfl
@[simp] theorem e_noOwn_nil (ρ : Sl) : noOwn ρ [] = true := rfl
@[simp] theorem e_noOwn_cons (ρ : Sl) (v : Nat) (vs : List Nat) : noOwn ρ (v :: vs) = ((match ρ[v]? with | some (some (_, true)) => false | _ => true) && noOwn ρ vs) := rfl
/-! primitives -/
@[simp] theorem e_add_i (i j : Int) : pAdd [.int i, .int j] = some (.int (i + j), false) := rfl
@[simp] theorem e_add_s (x y : Str) : pAdd [.str x, .str y] = if x.length + y.length ≤ sizeLine then some (.str (x ++ y), false) else none := rfl
@[simp] theorem e_add_l (xs ys : List D) : pAdd [.lst xs, .lst ys] = if xs.length + ys.length ≤ sizeLine then some (.lst (xs ++ ys), true) else none := rfl
@[simp] theorem e_sub (i j : Int) : pSub [.int i, .int j] = some (.int (i - j), false) := rfl
@[simp] theorem e_mul (i j : Int) : pMul [.int i, .int j] = if cMulB i j = true then some (.int (i * j), false) else none := rfl
@[simp] theorem e_div (i j : Int) : pDiv [.int i, .int j] = if cDivB i j = true then some (.int (i / j), false) else none := rfl
@[simp] theorem e_mod (i j : Int) : pMod [.int i, .int j] = if cModB i j = true then some (.int (i % j), false) else none := rfl
@[simp] theorem e_pow (i j : Int) : pPow [.int i, .int j] = if cPowB i j = true then some (.int (i ^ j.toNat), false) else none := rfl
@[simp] theorem e_neg (i : Int) : pNeg [.int i] = some (.int (-i), false) := rfl
@[simp] theorem e_mulB_ofNat (i : Int) (n : Nat) (h : n < 18446744073709551616) : cMulB i (no_index (@OfNat.ofNat Int n instOfNat)) = true := by
  unfold cMulB
  rw [Bool.or_eq_true]
  exact .inr (decide_eq_true h)
@[simp] theorem e_mulB_ofNat' (j : Int) (n : Nat) (h : n < 18446744073709551616) : cMulB (no_index (@OfNat.ofNat Int n instOfNat)) j = true := by
  unfold cMulB
  rw [Bool.or_eq_true]
  exact .inl (decide_eq_true h)
@[simp] theorem e_cDivB (i j : Int) : cDivB i j = (decide (0 < j) && decide (j.natAbs < 1073741824)) := rfl
@[simp] theorem e_cModB (i j : Int) : cModB i j = decide (0 < j) := rfl
@[simp] theorem e_cPowB (i j : Int) : cPowB i j = (decide (0 ≤ j) && decide (j.natAbs ≤ 1000000) && decide (i.natAbs < 2 ^ 64)) := rfl
@[simp] theorem e_lt (i j : Int) : pLt [.int i, .int j] = some (.bl (decide (i < j)), false) := rfl
@[simp] theorem e_le (i j : Int) : pLe [.int i, .int j] = some (.bl (decide (i ≤ j)), false) := rfl
@[simp] theorem e_gt (i j : Int) : pGt [.int i, .int j] = some (.bl (decide (j < i)), false) := rfl
@[simp] theorem e_ge (i j : Int) : pGe [.int i, .int j] = some (.bl (decide (j ≤ i)), false) := rfl
@[simp] theorem e_isN (d : D) : pIsN [d, .non] = some (.bl (isNon d), false) := rfl
@[simp] theorem e_notN (d : D) : pNotN [d, .non] = some (.bl (!isNon d), false) := rfl
@[simp] theorem e_isNon : isNon .non = true := rfl
@[simp] theorem e_isNon_i (i : Int) : isNon (.int i) = false := rfl
@[simp] theorem e_isNon_s (x : Str) : isNon (.str x) = false := rfl
@[simp] theorem e_isNon_b (x : Bool) : isNon (.bl x) = false := rfl
@[simp] theorem e_isNon_t (xs : List D) : isNon (.tup xs) = false := rfl
@[simp] theorem e_isNon_l (xs : List D) : isNon (.lst xs) = false := rfl
@[simp] theorem e_isNon_k (xs : List (Key × D)) : isNon (.dK xs) = false := rfl
@[simp] theorem e_eq_i (i j : Int) : pEqA [.int i, .int j] = some (.bl (i == j), false) := rfl
@[simp] theorem e_eq_s (x y : Str) : pEqA [.str x, .str y] = some (.bl (x == y), false) := rfl
@[simp] theorem e_eq_b (x y : Bool) : pEqA [.bl x, .bl y] = some (.bl (x == y), false) := rfl
@[simp] theorem e_eq_k (a b : List (Key × D)) : pEqA [.dK a, .dK b] = if eqK a b = true then some (.bl true, false) else none := rfl
@[simp] theorem e_ne_i (i j : Int) : pNe [.int i, .int j] = some (.bl (!(i == j)), false) := rfl
@[simp] theorem e_ne_s (x y : Str) : pNe [.str x, .str y] = some (.bl (!(x == y)), false) := rfl
@[simp] theorem e_ne_b (x y : Bool) : pNe [.bl x, .bl y] = some (.bl (!(x == y)), false) := rfl
@[simp] theorem e_idx (d i : D) : pIdx [d, i] = (dAt d i).map fun z => (z, false) := rfl
@[simp] theorem e_at_l (xs : List D) (i : Int) : dAt (.lst xs) (.int i) = atI xs i := rfl
@[simp] theorem e_at_t (xs : List D) (i : Int) : dAt (.tup xs) (.int i) = atI xs i := rfl
@[simp] theorem e_at_kt (xs : List D) (i : Int) : dAt (.ktup xs) (.int i) = atI xs i := rfl
@[simp] theorem e_at_scr (ns : List Int) (i : Int) : dAt (.scr ns) (.int i) = (atI ns i).map D.int := rfl
theorem e_at_s (x : Str) (i : Int) : dAt (.str x) (.int i) = if x.length ≤ sizeLine then (atI x.cps.toList i).map fun c => .str ⟨#[c]⟩ else none := rfl
@[simp] theorem e_at_k (kvs : List (Key × D)) (x : Str) : dAt (.dK kvs) (.str x) = dGet kvs (.inr x) := rfl
@[simp] theorem e_at_ki (kvs : List (Key × D)) (i : Int) : dAt (.dK kvs) (.int i) = dGet kvs (.inl i) := rfl
@[simp] theorem e_len (d : D) : pLen [d] = (dLen d).map fun (n : Nat) => (.int (n : Int), false) := rfl
@[simp] theorem e_len_l (xs : List D) : dLen (.lst xs) = some xs.length := rfl
@[simp] theorem e_len_t (xs : List D) : dLen (.tup xs) = some xs.length := rfl
@[simp] theorem e_len_kt (xs : List D) : dLen (.ktup xs) = some xs.length := rfl
@[simp] theorem e_len_scr (xs : List Int) : dLen (.scr xs) = some xs.length := rfl
@[simp] theorem e_len_s (x : Str) : dLen (.str x) = if x.length ≤ sizeLine then some x.length else none := rfl
@[simp] theorem e_len_k (kvs : List (Key × D)) : dLen (.dK kvs) = some kvs.length := rfl
@[simp] theorem e_abs (i : Int) : pAbs [.int i] = some (.int (if i < 0 then -i else i), false) := rfl
@[simp] theorem e_int (i : Int) : pInt [.int i] = some (.int i, false) := rfl
@[simp] theorem e_int_b (b : Bool) : pInt [.bl b] = some (.int (if b then 1 else 0), false) := rfl
@[simp] theorem e_min (i j : Int) : pMin2 [.int i, .int j] = some (.int (if j < i then j else i), false) := rfl
@[simp] theorem e_max (i j : Int) : pMax2 [.int i, .int j] = some (.int (if j > i then j else i), false) := rfl
@[simp] theorem e_isi (d : D) (b : String) : pIsi [d, .ty b] = match tyD d with | some a => (isiB a b).map fun r => (.bl r, false) | none => none := rfl
@[simp] theorem e_ty_non : tyD .non = some "NoneType" := rfl
@[simp] theorem e_ty_bl (b : Bool) : tyD (.bl b) = some "bool" := rfl
@[simp] theorem e_ty_int (i : Int) : tyD (.int i) = some "int" := rfl
@[simp] theorem e_ty_str (i : Str) : tyD (.str i) = some "str" := rfl
@[simp] theorem e_ty_tup (i : List D) : tyD (.tup i) = some "tuple" := rfl
@[simp] theorem e_ty_ktup (i : List D) : tyD (.ktup i) = some "tuple" := rfl
@[simp] theorem e_ty_lst (i : List D) : tyD (.lst i) = some "list" := rfl
@[simp] theorem e_ty_scr (i : List Int) : tyD (.scr i) = some "list" := rfl
@[simp] theorem e_ty_dK (i : List (Key × D)) : tyD (.dK i) = some "dict" := rfl
@[simp] theorem e_ty_dT (i : List (List Key × D)) : tyD (.dT i) = some "dict" := rfl
@[simp] theorem e_isiB (a b : String) : isiB a b = if b = "int" then some (a == "int" || a == "bool") else if b = "bool" ∨ b = "str" ∨ b = "tuple" ∨ b = "list" ∨ b = "dict" then some (a == b) else none := rfl
@[simp] theorem e_tup (ds : List D) : pTup ds = if ds.length ≤ 1000 then some (.tup ds, false) else none := rfl
@[simp] theorem e_lst (ds : List D) : pLst ds = if ds.length ≤ 1000 then some (.lst ds, true) else none := rfl
@[simp] theorem e_rev (xs : List D) : pRev [.lst xs] = some (.lst xs.reverse, true) := rfl
@[simp] theorem e_list_l (xs : List D) : pListA [.lst xs] = some (.lst xs, true) := rfl
@[simp] theorem e_list_t (xs : List D) : pListA [.tup xs] = some (.lst xs, true) := rfl
@[simp] theorem e_list_k (kvs : List (Key × D)) : pListA [.dK kvs] = some (.lst (kvs.map fun kv => keyD kv.1), true) := rfl
@[simp] theorem e_tuple_l (xs : List D) : pTuple [.lst xs] = some (.tup xs, false) := rfl
@[simp] theorem e_dict (kvs : List (Key × D)) : pDict [.dK kvs] = some (.dK kvs, true) := rfl
@[simp] theorem e_get2 (d k x : D) : pGet2 [d, k, x] = if flat1 x = true then (match dLook d k with | some (some z) => some (z, false) | some none => some (x, false) | none => none) else none := rfl
@[simp] theorem e_flat1_i (i : Int) : flat1 (.int i) = true := rfl
@[simp] theorem e_look_k (kvs : List (Key × D)) (x : Str) : dLook (.dK kvs) (.str x) = some (dGet kvs (.inr x)) := rfl
@[simp] theorem e_look_ki (kvs : List (Key × D)) (i : Int) : dLook (.dK kvs) (.int i) = some (dGet kvs (.inl i)) := rfl
@[simp] theorem e_join (a : Str) (xs : List D) : pJoin [.str a, .lst xs] = match strsOf xs with | some ys => if (ys.map (·.length)).sum + ys.length * a.length ≤ 16777216 then some (.str (Str.join a ys), false) else none | none => none := rfl
@[simp] theorem e_store_l (xs : List D) (i : Int) (v : D) : dStore (.lst xs) (.int i) v = (ixN xs.length i).map fun j => .lst (xs.set j v) := rfl
@[simp] theorem e_store_k (kvs : List (Key × D)) (x : Str) (v : D) : dStore (.dK kvs) (.str x) v = if kvs.length < sizeLine then some (.dK (dPut kvs (.inr x) v)) else none := rfl
@[simp] theorem e_store_ki (kvs : List (Key × D)) (x : Int) (v : D) : dStore (.dK kvs) (.int x) v = if kvs.length < sizeLine then some (.dK (dPut kvs (.inl x) v)) else none := rfl
@[simp] theorem e_add_t (xs ys : List D) : pAdd [.tup xs, .tup ys] = if xs.length + ys.length ≤ sizeLine then some (.tup (xs ++ ys), false) else none := rfl
@[simp] theorem e_addI (i j : Int) : pAddI [.int i, .int j] = some (.int (i + j), false) := rfl
theorem sz (n : Nat) : (n ≤ sizeLine) = (n ≤ 16777216) := by rw [sizeLine_eq]
/-! ### loops -/
theorem loop_ind {tg : D → Sl → Option Sl} {body : CStm} {ds : List D} {ρ : Sl} (I : Nat → Sl → Prop) {P : Res Out → Prop} (h0 : I 0 ρ)
    (hs : ∀ i d ρ, ds[i]? = some d → I i ρ → ∃ ρ1, tg d ρ = some ρ1 ∧ ((∃ ρ2, body ρ1 = .ok .nx ρ2 ∧ I (i + 1) ρ2) ∨ (∃ ρ2, body ρ1 = .ok .ct ρ2 ∧ I (i + 1) ρ2) ∨ (∃ ρ2, body ρ1 = .ok .bk ρ2 ∧ P (.ok .nx ρ2)) ∨ (∃ s ρ2, body ρ1 = .ok (.rt s) ρ2 ∧ P (.ok (.rt s) ρ2)) ∨ (∃ c fs ρ2, body ρ1 = .exc c fs ρ2 ∧ P (.exc c fs ρ2))))
    (hd : ∀ ρ, I ds.length ρ → P (.ok .nx ρ)) : P (loop tg body ds ρ) := by
  have go : ∀ (es : List D) (k : Nat) (ρ : Sl), ds.drop k = es → I k ρ → k ≤ ds.length → P (loop tg body es ρ) := by
    intro es
    induction es with
    | nil =>
      intro k ρ e h hk
      have : ds.length ≤ k := List.drop_eq_nil_iff.mp e
      have : k = ds.length := by omega
      subst this
      exact hd ρ h
    | cons d es ih =>
      intro k ρ e h hk
      have hk2 : k < ds.length := by
        by_cases q : k < ds.length
        · exact q
        · rw [List.drop_eq_nil_iff.mpr (by omega)] at e; cases e
      rw [List.drop_eq_getElem_cons hk2] at e
      injection e with e1 e2
      obtain ⟨ρ1, t1, h1⟩ := hs k d ρ (by rw [List.getElem?_eq_getElem hk2, e1]) h
      unfold loop
      rw [t1]
      simp only
      rcases h1 with ⟨ρ2, b, h2⟩ | ⟨ρ2, b, h2⟩ | ⟨ρ2, b, h2⟩ | ⟨s, ρ2, b, h2⟩ | ⟨c, fs, ρ2, b, h2⟩
      · rw [b]; exact ih (k + 1) ρ2 e2 h2 hk2
      · rw [b]; exact ih (k + 1) ρ2 e2 h2 hk2
      · rw [b]; exact h2
      · rw [b]; exact h2
      · rw [b]; exact h2
  exact go ds 0 ρ rfl h0 (Nat.zero_le _)
/-- a loop that only goes on -/
theorem loop_go {tg : D → Sl → Option Sl} {body : CStm} {ds : List D} {ρ : Sl} (I : Nat → Sl → Prop) (h0 : I 0 ρ)
    (hs : ∀ i d ρ, ds[i]? = some d → I i ρ → ∃ ρ1 ρ2, tg d ρ = some ρ1 ∧ body ρ1 = .ok .nx ρ2 ∧ I (i + 1) ρ2) : ∃ ρ', loop tg body ds ρ = .ok .nx ρ' ∧ I ds.length ρ' :=
  loop_ind (P := fun r => ∃ ρ', r = .ok .nx ρ' ∧ I ds.length ρ') I h0 (fun i d ρ hd h => by
    obtain ⟨ρ1, ρ2, t, b, h2⟩ := hs i d ρ hd h
    exact ⟨ρ1, t, .inl ⟨ρ2, b, h2⟩⟩) fun ρ h => ⟨ρ, rfl, h⟩
theorem loop_nxN {j : Nat} {body : CStm} {d : D} {ds : List D} {ρ ρ2 : Sl} (h : body (ρ.set j (some (d, false))) = .ok .nx ρ2) : loop (tgN j) body (d :: ds) ρ = loop (tgN j) body ds ρ2 := by
  conv => lhs; unfold loop
  simp only [e_tgN, h]
theorem loop_nil {tg : D → Sl → Option Sl} {body : CStm} {ρ : Sl} : loop tg body [] ρ = .ok .nx ρ := rfl
/-- the target a name -/
theorem loop_goN {j : Nat} {body : CStm} {ds : List D} {ρ : Sl} (I : Nat → Sl → Prop) (h0 : I 0 ρ)
    (hs : ∀ i d ρ, ds[i]? = some d → I i ρ → ∃ ρ2, body (ρ.set j (some (d, false))) = .ok .nx ρ2 ∧ I (i + 1) ρ2) : ∃ ρ', loop (tgN j) body ds ρ = .ok .nx ρ' ∧ I ds.length ρ' :=
  loop_go I h0 fun i d ρ hd h => by
    obtain ⟨ρ2, b, h2⟩ := hs i d ρ hd h
    exact ⟨_, ρ2, rfl, b, h2⟩
theorem loop_indN {j : Nat} {body : CStm} {ds : List D} {ρ : Sl} (I : Nat → Sl → Prop) {P : Res Out → Prop} (h0 : I 0 ρ)
    (hs : ∀ i d ρ, ds[i]? = some d → I i ρ → ((∃ ρ2, body (ρ.set j (some (d, false))) = .ok .nx ρ2 ∧ I (i + 1) ρ2) ∨ (∃ ρ2, body (ρ.set j (some (d, false))) = .ok .ct ρ2 ∧ I (i + 1) ρ2) ∨ (∃ ρ2, body (ρ.set j (some (d, false))) = .ok .bk ρ2 ∧ P (.ok .nx ρ2)) ∨ (∃ s ρ2, body (ρ.set j (some (d, false))) = .ok (.rt s) ρ2 ∧ P (.ok (.rt s) ρ2)) ∨ (∃ c fs ρ2, body (ρ.set j (some (d, false))) = .exc c fs ρ2 ∧ P (.exc c fs ρ2))))
    (hd : ∀ ρ, I ds.length ρ → P (.ok .nx ρ)) : P (loop (tgN j) body ds ρ) := loop_ind I h0 (fun i d ρ hd h => ⟨_, rfl, hs i d ρ hd h⟩) hd
theorem lc_go {tg : D → Sl → Option Sl} {c : CTst} {e : CExp} {vs : List Nat} {ds : List D} {ρ : Sl} (I : Nat → List D → Sl → Prop) (h0 : I 0 [] ρ)
    (hs : ∀ i d acc ρ, ds[i]? = some d → I i acc ρ → ∃ ρ1, tg d ρ = some ρ1 ∧ ((∃ ρ2 s ρ3, c ρ1 = .ok true ρ2 ∧ e ρ2 = .ok s ρ3 ∧ acc.length < sizeLine ∧ I (i + 1) (acc ++ [s.1]) (wipeS ρ3 vs)) ∨ (∃ ρ2, c ρ1 = .ok false ρ2 ∧ I (i + 1) acc (wipeS ρ2 vs)))) : ∃ acc ρ', lcGo tg c e vs ds [] ρ = .ok acc ρ' ∧ I ds.length acc ρ' := by
  have go : ∀ (es : List D) (k : Nat) (acc : List D) (ρ : Sl), ds.drop k = es → I k acc ρ → k ≤ ds.length → ∃ acc' ρ', lcGo tg c e vs es acc ρ = .ok acc' ρ' ∧ I ds.length acc' ρ' := by
    intro es
    induction es with
    | nil =>
      intro k acc ρ e h hk
      have : ds.length ≤ k := List.drop_eq_nil_iff.mp e
      have : k = ds.length := by omega
      subst this
      exact ⟨acc, ρ, rfl, h⟩
    | cons d es ih =>
      intro k acc ρ e1 h hk
      have hk2 : k < ds.length := by
        by_cases q : k < ds.length
        · exact q
        · rw [List.drop_eq_nil_iff.mpr (by omega)] at e1; cases e1
      rw [List.drop_eq_getElem_cons hk2] at e1
      injection e1 with e2 e3
      obtain ⟨ρ1, t1, h1⟩ := hs k d acc ρ (by rw [List.getElem?_eq_getElem hk2, e2]) h
      unfold lcGo
      rw [t1]
      simp only
      rcases h1 with ⟨ρ2, s, ρ3, b1, b2, hz, h2⟩ | ⟨ρ2, b1, h2⟩
      · rw [b1]
        simp only [b2, if_pos hz]
        exact ih (k + 1) _ _ e3 h2 hk2
      · rw [b1]
        exact ih (k + 1) _ _ e3 h2 hk2
  exact go ds 0 [] ρ rfl h0 (Nat.zero_le _)
theorem rngD_at {lo : Int} {n i : Nat} {d : D} (h : (rngD lo n)[i]? = some d) : i < n ∧ d = .int (lo + (i : Int)) := by
  have hl : i < n := by have := lt_of_at h; rwa [rngD_len] at this
  refine ⟨hl, ?_⟩
  unfold rngD at h
  rw [List.getElem?_map, List.getElem?_range hl] at h
  exact (Option.some.inj h).symm
theorem map_some {α β : Type} {f : α → β} {xs : List α} {i : Nat} {y : β} (h : (xs.map f)[i]? = some y) : ∃ x, xs[i]? = some x ∧ y = f x := by
  rw [List.getElem?_map] at h
  cases e : xs[i]? with
  | none => rw [e] at h; cases h
  | some x => rw [e] at h; exact ⟨x, rfl, (Option.some.inj h).symm⟩
theorem atI_nat' {α : Type} {xs : List α} {i : Nat} {x : α} (h : xs[i]? = some x) : atI xs (i : Int) = some x := by
  have hl := lt_of_at h
  unfold atI ixN
  rw [if_pos (by omega), if_pos (by omega)]
  simpa using h
end VS

namespace VS
open PySem L2
/-! ### dicts as lists of pairs: laws -/
section
variable {κ α : Type} [DecidableEq κ]
theorem dHas_iff {k : κ} : ∀ {kvs : List (κ × α)}, dHas kvs k = true ↔ k ∈ kvs.map (·.1)
  | [] => by simp [dHas]
  | (k', v) :: r => by
    have := dHas_iff (k := k) (kvs := r)
    simp only [dHas, Bool.or_eq_true, decide_eq_true_eq, this, List.map_cons, List.mem_cons]
    exact ⟨fun h => h.imp Eq.symm id, fun h => h.imp Eq.symm id⟩
theorem dSet_keys {k : κ} {v : α} : ∀ {kvs : List (κ × α)}, (dSet kvs k v).map (·.1) = kvs.map (·.1)
  | [] => rfl
  | (k', u) :: r => by
    have := dSet_keys (k := k) (v := v) (kvs := r)
    unfold dSet
    simp only [List.map_cons, this]
    split <;> rfl
theorem dPut_keys {k : κ} {v : α} {kvs : List (κ × α)} : (dPut kvs k v).map (·.1) = if dHas kvs k = true then kvs.map (·.1) else kvs.map (·.1) ++ [k] := by
  unfold dPut
  split
  · exact dSet_keys
  · simp
theorem dPut_nodup {k : κ} {v : α} {kvs : List (κ × α)} (h : (kvs.map (·.1)).Nodup) : ((dPut kvs k v).map (·.1)).Nodup := by
  rw [dPut_keys]
  split
  · exact h
  · rename_i hn
    rw [List.nodup_append]
    refine ⟨h, by simp, fun a ha b hb => ?_⟩
    rw [List.mem_singleton.mp hb]
    intro e
    exact hn (dHas_iff.mpr (e ▸ ha))
theorem dGet_mem {kvs : List (κ × α)} : ∀ (h : (kvs.map (·.1)).Nodup) {p : κ × α}, p ∈ kvs → dGet kvs p.1 = some p.2 := by
  induction kvs with
  | nil => intro _ p hp; cases hp
  | cons q r ih =>
    intro h p hp
    obtain ⟨k', u⟩ := q
    simp only [List.map_cons, List.nodup_cons] at h
    rcases List.mem_cons.mp hp with e | hp
    · subst e; simp [dGet]
    · have ne : ¬ k' = p.1 := fun e => h.1 (by rw [e]; exact List.mem_map_of_mem hp)
      unfold dGet
      rw [if_neg ne]
      exact ih h.2 hp
theorem dGet_set_same {k : κ} {v : α} : ∀ {kvs : List (κ × α)}, dHas kvs k = true → dGet (dSet kvs k v) k = some v
  | [], h => by cases h
  | (k', u) :: r, h => by
    by_cases e : k' = k
    · subst e; simp [dSet, dGet]
    · have h2 : dHas r k = true := by simpa [dHas, e] using h
      have := dGet_set_same (v := v) h2
      simp [dSet, dGet, e, this]
theorem dGet_set_ne {k j : κ} {v : α} (h : k ≠ j) : ∀ {kvs : List (κ × α)}, dGet (dSet kvs k v) j = dGet kvs j
  | [] => rfl
  | (k', u) :: r => by
    have := dGet_set_ne (v := v) h (kvs := r)
    by_cases e : k' = k
    · subst e; simp [dSet, dGet, h, this]
    · simp [dSet, dGet, e, this]
theorem dGet_none {k : κ} : ∀ {kvs : List (κ × α)}, dHas kvs k = false → dGet kvs k = none
  | [], _ => rfl
  | (k', u) :: r, h => by
    have h2 : ¬ k' = k ∧ dHas r k = false := by simpa [dHas] using h
    simp [dGet, h2.1, dGet_none h2.2]
theorem dGet_append {k : κ} {v : α} {j : κ} : ∀ {kvs : List (κ × α)}, dGet (kvs ++ [(k, v)]) j = match dGet kvs j with | some u => some u | none => if k = j then some v else none
  | [] => by simp [dGet]
  | (k', u) :: r => by
    have := dGet_append (k := k) (v := v) (j := j) (kvs := r)
    by_cases e : k' = j
    · simp [dGet, e]
    · simp [dGet, e, this]
theorem dGet_put {k j : κ} {v : α} {kvs : List (κ × α)} : dGet (dPut kvs k v) j = if k = j then some v else dGet kvs j := by
  unfold dPut
  by_cases e : k = j
  · subst e
    rw [if_pos rfl]
    split
    · rename_i h; exact dGet_set_same h
    · rename_i h
      rw [dGet_append, dGet_none (by simpa using h)]
      simp
  · rw [if_neg e]
    split
    · exact dGet_set_ne e
    · rw [dGet_append]
      cases dGet kvs j with
      | none => simp [e]
      | some u => rfl
theorem dPut_len {k : κ} {v : α} {kvs : List (κ × α)} : (dPut kvs k v).length ≤ kvs.length + 1 := by
  have := congrArg List.length (dPut_keys (k := k) (v := v) (kvs := kvs))
  rw [List.length_map] at this
  split at this
  · rw [List.length_map] at this; omega
  · rw [List.length_append, List.length_map] at this; simp at this; omega
end
def ownP (a : Option Slot) : Option Slot → Option Slot
  | some (_, true) => a
  | s => s
@[simp] theorem e_updA_nil (as : List (Option Slot)) (j : Nat) (s : Option Slot) : updA [] as j s = s := by
  unfold updA
  split
  · rfl
  · rfl
@[simp] theorem e_updA_ce (m : CExp) (os : List Opd) (a : Option Slot) (as : List (Option Slot)) (j : Nat) (s : Option Slot) : updA (.e m :: os) (a :: as) j s = updA os as j s := by
  unfold updA
  split
  · rfl
  · rfl
theorem e_updA_cv (i : Nat) (os : List Opd) (a : Option Slot) (as : List (Option Slot)) (j : Nat) (s : Option Slot) (h : i ≠ j) : updA (.v i :: os) (a :: as) j s = updA os as j s := by
  unfold updA
  split
  · simp [h]
  · rfl
@[simp] theorem e_updA_cv' (i : Nat) (os : List Opd) (a : Option Slot) (as : List (Option Slot)) (j : Nat) (s : Option Slot) : updA (.v i :: os) (a :: as) j s = if i = j then ownP a s else updA os as j s := by
  split
  · next h =>
    subst h
    rcases s with _ | ⟨d, _ | _⟩
    · rfl
    · rfl
    · show (match findA (.v i :: os) (a :: as) i with | some a => a | none => some (d, true)) = a
      rw [show findA (.v i :: os) (a :: as) i = some a from if_pos rfl]
  · next h => exact e_updA_cv i os a as j s h
@[simp] theorem e_ownP_n (a : Option Slot) : ownP a none = none := rfl
@[simp] theorem e_ownP_f (a : Option Slot) (d : D) : ownP a (some (d, false)) = some (d, false) := rfl
@[simp] theorem e_ownP_t (a : Option Slot) (d : D) : ownP a (some (d, true)) = a := rfl
end VS

namespace VS
open PySem L2 PySem.Spec PyProof.Rows
/-! ### the law's head -/
theorem fn_mkL {P : Program} {w : World} {K : PySem.W.Frag} {mg : Str → Option Value} {base : Heap} {ct : Cn} {x : Str} {st : Stmt} {f : Addr} {fd : FuncData} {N ps : List Str} {k : Nat} (fx : List Nat) {m : CStm} (F : L2.Fun K x x st f fd) (S : FnScope N ps (defScope st))
    (body : ∀ (cdv : Value) (A : Around) (outer : List Env) (s : Shared) (H : Hp) (E : XK), Room k (A.deeper (envOfC x (defScope st) s.heap.objs.size f cdv)) →
      Takes (cxOf (L2.CX P w) P w K mg base N x (defScope st) f cdv A outer s H E) (fun cls d _ H => E cls d H) →
      PassesOwn (model P w) (cxOf (L2.CX P w) P w K mg base N x (defScope st) f cdv A outer s H E).A (cxOf (L2.CX P w) P w K mg base N x (defScope st) f cdv A outer s H E).env (cxOf (L2.CX P w) P w K mg base N x (defScope st) f cdv A outer s H E).xe →
      (cxOf (L2.CX P w) P w K mg base N x (defScope st) f cdv A outer s H E).A.units + 65 < cLine →
      CSs (cxOf (L2.CX P w) P w K mg base N x (defScope st) f cdv A outer s H E) ct fx (fun cls d _ H => E cls d H) (defBody st) m) : FnOk P w K mg base (L2.CX P w) (k + 1) f fd ps (spD ⟨K, ct⟩ (bodyF fx N.length m) ps.length) := by
  refine F.okX S (fun vs H Q E h => h.1) fun cdv A outer s H vs Q E hr h => ?_
  obtain ⟨t, p, q⟩ := body cdv A outer s H E hr (takes_of rfl rfl rfl rfl) (passes_of rfl) (by have := hr.un; show (A.deeper _).units + 65 < cLine; omega)
  exact ⟨t, p, def_ok q h⟩
theorem scr_of {K : PySem.W.Frag} {H : Hp} {a : Addr} {ns : List Int} (hO : Only H) (hS : SqL K H a (ns.map V.int)) : Scr K H a ns := by
  rcases hS with (h | h) | h
  · rcases hO a with z | ⟨o, xs, z⟩
    · rw [z] at h; cases h
    · rw [z] at h; cases h
  · exact .inl h
  · exact .inr h
theorem hsp_of {K : PySem.W.Frag} {F : CFun} {ct : Cn} {n : Nat} (hF : ∀ ns : List Int, ns.length ≤ n → ∃ as, F [(.scr ns, false)] = .ok (.bl true, false) as) (H : Hp) (a : Addr) (ns : List Int) (hl : ns.length ≤ n) (hO : Only H) (hS : SqL K H a (ns.map V.int)) :
    spD ⟨K, ct⟩ F 1 [.ref a] H (fun v _ => v = .bl true) fun _ _ _ => False := by
  have nr : ∀ b, ¬ roots [some (V.ref a)] [some (D.scr ns, false)] b := by
    rintro b ⟨i, d, h, _⟩
    match i with
    | 0 => cases h
    | _ + 1 => cases h
  refine ⟨rfl, fun _ => False, [(.scr ns, false)], ⟨rfl, ?_, ?_, ?_, ?_, fun _ z => z.elim⟩, ?_⟩
  · rintro b (z | z)
    · exact z.elim
    · exact (nr b z).elim
  · intro i d h
    match i with
    | 0 => cases h; exact ⟨_, rfl, .scr (scr_of hO hS)⟩
    | _ + 1 => cases h
  · intro i d h
    match i with
    | 0 => cases h
    | _ + 1 => cases h
  · intro i j d e b h
    match i with
    | 0 => cases h
    | _ + 1 => cases h
  · obtain ⟨as, e⟩ := hF ns hl
    rw [e]
    intro v H' _ _ r
    cases r
    rfl
theorem walkD {l : PySem.W.OpenLaw} {q : Program} {loose : List Str} {XP : (Str → Option Value) → Heap → Prop} {YP : World → Heap → Prop} {d : DefRec} {K : Params → PySem.W.Frag} {F : CFun} {k : Nat} {x : Str} (hF : ∀ ns : List Int, ns.length ≤ 63 → ∃ as, F [(.scr ns, false)] = .ok (.bl true, false) as) (hr : Room k callerA) (hn : l.most = some 63) (hdf : d.params.defaults = [])
    (hY : ∀ (w : World) (h : Heap), YP w h → (K w.params).In h)
    (G : ∀ (w : World) (mg : Str → Option Value) (fa : Addr) (h : Heap), (K w.params).In h → h.Ns mainGlobals mg → mg d.name = some (.ref fa) →
      ∃ fd : FuncData, (∀ (s : Shared) (u : Value), BindsTo s fd ⟨[u], []⟩ [(x, u)]) ∧ ∃ ct : Cn, ∀ base : Heap, (K w.params).In base → base.Ns mainGlobals mg → FnOk l.prog w (K w.params) mg base (L2.CX l.prog w) k fa fd [x] (spD ⟨K w.params, ct⟩ F 1)) :
    PySem.W.WalkO q loose XP YP l.row.toRowW d [] (fun f vs => PySem.call f vs) := by
  refine Att.attach_call hn hdf fun w s₀ s₁ mg mb fa o pm cd doc a vs ns G1 Y ho hd hcd hmg hobj hints hlen hg => ?_
  have KX := hY w _ Y
  obtain ⟨fd, hb, ct, hG⟩ := G w mg fa _ KX G1.T.g hmg
  refine law_call KX G1.T.g G1.T.b G1.T.builtins G1.T.nolimit hg hobj hints (Nat.le_trans hlen (by decide)) hr hG hb (fun H hO hS => hsp_of hF H a ns hlen hO hS) fun H e s' z => ?_
  obtain ⟨_, _, _, _, _, _, _, _, _, _, _, _, z⟩ := z
  exact z
end VS

namespace VS
open PySem PySem.Spec PySem.W PySem.Calls PyProof.Rows PySem.HandSPX
/-! ### an own exception over ValueError: super().__init__(text), then its fields -/
/-- the stores of the fields -/
inductive Stores : List Stmt → List Str → Prop
  | nil : Stores [] []
  | cons {x : Str} {q1 q2 q3 q4 : Pos} {r : List Stmt} {l : List Str} (h : (x == ("__debug__" : Str)) = false) (t : Stores r l) : Stores (.Assign [.Attribute (.Name "self" q1) x q2] (.Name x q3) q4 :: r) (x :: l)
/-- the text of such an __init__ -/
inductive XInit : List Stmt → List Str → Prop
  | mk {msg : Str} {k : Nat} {p0 p1 p2 p3 p4 p5 : Pos} {r : List Stmt} {l : List Str} (t : Stores r l) (hl : (p2.endLine == p4.line) = true) : XInit (.Expr (.Call (.Attribute (.Call (.Name "super" p0) [] [] p1) "__init__" p2) [.Constant (.str msg) k p3] [] p4) p5 :: r) l
/-- what the written part says of the class at C, its __init__ at fI -/
structure XCls (P : Program) (K : Frag) (C fI : Addr) (ps : List Str) : Prop where
  cls : ∃ nm q N bs bm sn sub ab col dd k0 k1 k2 k3 k5, K.lookup C = some (excClassObj nm q C N bs bm true sn sub ab col dd k0 k1 k2 k3 k5 "ValueError.__new__") ∧ refsVE bm = true
  sa : findIn K (.ref C) "__setattr__" = some (some (.builtin "object.__setattr__"))
  iC : findIn K (.ref C) "__init__" = some (some (.ref fI))
  tC : typeIn K (.ref fI) = some (.type "function")
  kC : keepIn K (.ref C) = true
  exC : subIn K (.ref C) (.type "BaseException") = some true
  tyC : typeIn K (.ref C) = some (.type "type")
  noF : ∀ p ∈ ps, findIn K (.ref C) p = some none
  sup : ks_superIn K C C "__init__" = some (some (.builtin "ValueError.__init__"))
  opq : nsIn K cStatics "thirdparty.any" = some none
  own : mroIn K C (.ref C) = some true
  vE : subIn K (.ref C) (.type "ValueError") = some true
  top : (P.main.scope.names.lookup ("super" : Str)).isSome = false
  fn : ∃ (qn : Str) (params : Arguments) (body : List Stmt) (scope : Scope) (oc doc pm ct ccl cl : Value) (od an cdd cld : Option Addr) (cda cc : Addr) (osl ccs csl : Array (Option Value)) (vs : Array Value) (file : Str) (tf : Tok) (ar : Arg),
    K.lookup fI = some ⟨oc, od, .func (ksFn "__init__" qn params body scope .none .none doc pm an (.ref cda) ct cc), osl⟩ ∧ codeIn K (.ref cda) qn = true ∧
    K.lookup cda = some ⟨ccl, cdd, .fields vs, ccs⟩ ∧ vs[2]? = some (.str file tf) ∧ ((P.main.file : Str) == file) = true ∧ K.lookup cc = some ⟨cl, cld, .cell (some (.ref C)), csl⟩ ∧
    (params.posonlyargs ++ params.args).head? = some ar ∧ ar.arg = "self" ∧ XInit body ps ∧
    (∀ (s : Shared) (us : List Value), us.length = ps.length + 1 → BindsTo s (ksFn "__init__" qn params body scope .none .none doc pm an (.ref cda) ct cc) ⟨us, []⟩ ((("self" : Str) :: ps).zip us)) ∧
    (∀ x ∈ scope.names, x.2 ≠ .cell) ∧ scope.isCoroutine = false ∧ scope.isGenerator = false ∧ scope.kind = .function ∧
    scope.names.lookup ("super" : Str) = some .globalImplicit ∧ scope.names.lookup ("__class__" : Str) = some .free ∧ (∀ p ∈ ("self" : Str) :: ps, scope.names.lookup p = some .local)
  nd : (("self" : Str) :: ps).Nodup
  few : ps.length ≤ 900

section
variable {prog : Program} {w : World} {A : Around} {E : Value → Shared → Prop} {K : Frag} {C fI : Addr} {ps : List Str} {mg mb : Str → Option Value} {hh : Heap} {g : Array GenState} {d : Drawn} {t : Nat} {os : OsState}
abbrev xo (C t : Addr) (dx : Option Addr) : Obj := { cls := .ref C, dict := dx, data := .fields #[.ref t, .none, .none, .none, .bool false, .none] }
/-- the built-in __init__, bound, is called -/
theorem x_bound {nm q : Str} {N x u t0 : Addr} {bs bm : List Value} {sn : List Str} {sub : List Value} {ab : Bool} {col : Option Bool} {dd : Option Addr} {k0 k1 k2 k3 k5 : Option Value} {v : Value} {Q : Value → Shared → Prop}
    (hC : hh.get? C = some (excClassObj nm q C N bs bm true sn sub ab col dd k0 k1 k2 k3 k5 "ValueError.__new__")) (hx : hh.get? x = some (xo C t0 none)) (hu : hh.get? u = some (kxs_mw "ValueError.__init__" x))
    (hq : ∀ h' t1, (∀ b o, b ≠ x → hh.get? b = some o → h'.get? b = some o) → h'.get? x = some (xo C t1 none) → Q .none ⟨h', g, d, t, os⟩) :
    wpAny (model prog w) A (call (.ref u) [v]) Q E ⟨hh, g, d, t, os⟩ := by
  have FB := F.excBase_ValueError
  refine wpAny_call (codeAny_of_tree ?_)
  show wpAny _ A.in1 (callAny (.ref u) ⟨[v], []⟩) _ _ _
  simp only [callAny]
  refine wpAny_bind (wpAny_load hu ?_)
  simp only [kxs_mw]
  refine KFB.if_so (by decide) ?_
  refine wpAny_bind (check_bound_init FB.toExcCallFacts hC hx rfl ?_)
  refine wpAny_bind (wpAny_pure (wpAny_pure ⟨plainId_quiet FB.init.plain _, codeAny_builtin FB.initEntry ?_⟩))
  exact exc_init_tree (cls := .ref C) (t0 := t0) (dv := none) (c2 := .none) (c3 := .none) (b4 := .bool false) hx (by show 1 ≤ sizeLine; decide) fun h' k e _ => hq h' _ k e
/-- the first statement -/
theorem x_super {qn : Str} {params : Arguments} {body : List Stmt} {scope : Scope} {oc doc pm ct ccl cl : Value} {od an cdd cld : Option Addr} {cda cc L x t0 : Addr} {osl ccs csl : Array (Option Value)} {vs : Array Value} {file : Str} {tf : Tok} {ar : Arg} {m : Str → Option Value}
    {msg : Str} {k : Nat} {p0 p1 p2 p3 p4 p5 : Pos} {Q : Flow → Shared → Prop} (T : XCls prog K C fI ps) (X : K.In hh) (hg : hh.Ns mainGlobals mg) (hb : hh.Ns builtinsNs mb) (hbb : ∀ y : Str, y ≠ "__name__" → mb y = bootBuiltins y) (hmg : mg "super" = none)
    (hf : K.lookup fI = some ⟨oc, od, .func (ksFn "__init__" qn params body scope .none .none doc pm an (.ref cda) ct cc), osl⟩) (hco : K.lookup cda = some ⟨ccl, cdd, .fields vs, ccs⟩) (hvs : vs[2]? = some (.str file tf)) (hfile : ((prog.main.file : Str) == file) = true)
    (hce : K.lookup cc = some ⟨cl, cld, .cell (some (.ref C)), csl⟩) (hp : (params.posonlyargs ++ params.args).head? = some ar) (har : ar.arg = "self") (hk : scope.kind = .function) (h1 : scope.names.lookup ("super" : Str) = some .globalImplicit) (h2 : scope.names.lookup ("__class__" : Str) = some .free)
    (h3 : scope.names.lookup ("self" : Str) = some .local) (hn : hh.Ns L m) (hm : m "self" = some (.ref x)) (hx : hh.get? x = some (xo C t0 none)) (hxL : x ≠ L) (hl : (p2.endLine == p4.line) = true)
    (hq : ∀ h' t1 tk, (∀ b o, b ≠ x → hh.get? b = some o → h'.get? b = some o) → h'.get? x = some (xo C t1 none) → Q .next ⟨h', g, d, tk, os⟩) :
    _root_.PySem.wpAt (model prog w) A (.func body (ksEnv qn scope L fI (.ref cda) cc)) (exec (.Expr (.Call (.Attribute (.Call (.Name "super" p0) [] [] p1) "__init__" p2) [.Constant (.str msg) k p3] [] p4) p5) (ksEnv qn scope L fI (.ref cda) cc)) Q E ⟨hh, g, d, t, os⟩ := by
  obtain ⟨nm, q, N, bs, bm, sn, sub, ab, col, dd, k0, k1, k2, k3, k5, hC, hbm⟩ := T.cls
  have hcl : clsIn K C = some { name := nm, bases := bs, mro := .ref C :: bm, ns := N, qualname := q, hasDict := true, slotNames := sn, subclasses := sub, abstract := ab, collection := col, hasDel := false } := by unfold clsIn; rw [hC] <;> rfl
  have I : InstAt hh x (xo C t0 none) C none := ⟨hx, rfl, rfl, trivial⟩
  have hxC : x ≠ C := ks_ne X I hcl
  have hi : interactive (ksEnv qn scope L fI (.ref cda) cc) = false := by
    unfold interactive
    simp [hk]
  refine ks_wpAt_Expr_any ?_ hi rfl
  have few : methodCallForm 1 (backTo p4 (starEach [Expr.Constant (.str msg) k p3] (ksEnv qn scope L fI (.ref cda) cc))) [] = true := rfl
  have mp : methodCallPos true (.Call (.Name "super" p0) [] [] p1) (ksEnv qn scope L fI (.ref cda) cc) p2 p4 = pure p4 := by
    unfold methodCallPos
    rw [hl]
    rfl
  refine ks_wpAt_MethodCall (pl := (do return (← importBound (.Call (.Name "super" p0) [] [] p1) (ksEnv qn scope L fI (.ref cda) cc)).getD true)) ?_ ?he
  case he =>
    show (attributeBase _ _ _ _ >>= fun ov => standAt p2.atName >>= fun _ => methodCall _ _ _ _ _ ov 1 _ []) = _
    unfold methodCall
    rw [few, mp]
    simp only [pure_bind]
    rfl
  refine ks_wpAt_super_base (env := ksEnv qn scope L fI (.ref cda) cc) h1 h2 (by decide) rfl (X _ _ hf) rfl hp rfl (X _ _ hco) rfl hvs hfile T.top ?_
  refine ks_loadName_global hk h1 (loadGlobal_builtin (env := ksEnv qn scope L fI (.ref cda) cc) hg hmg hb ((hbb _ (by decide +kernel)).trans (by decide +kernel)) ⟨rfl, ?_⟩)
  refine wpAny_loadName_free hk h2 rfl ⟨_, X _ _ hce, rfl⟩ ?_
  rw [har]
  refine wpAny_loadName_local hk h3 hn hm ?_
  refine ks_wpAny_isType_cls (X _ _ hC) rfl ⟨rfl, ?_⟩
  refine ks_wpAny_call_super (X _ _ hC) rfl hx rfl (fun c e => by cases e) (looks_mroIn X T.own) (fun h' e kk => ?_)
  have X' : K.In h' := X.keeps kk
  have I' : InstAt h' x (xo C t0 none) C none := ⟨kk _ _ hx, rfl, rfl, trivial⟩
  have hs := T.sup
  unfold ks_superIn at hs
  rw [hcl] at hs
  refine kxs_getMethod kxs_ValueError e (looks_opaque X' T.opq) (l₀ := .ref C :: bm) ?_ rfl X' hs (I'.type.andThen (looks_subIn X' T.vE)) hxC (by decide) ?_
  · exact fun A Q E s k q => wpAny_bind ((looks_clsIn X' hcl) A _ E s k (wpAny_pure q))
  · have he : starEach [Expr.Constant (.str msg) k p3] (ksEnv qn scope L fI (.ref cda) cc) = (false, eval (.Constant (.str msg) k p3) (ksEnv qn scope L fI (.ref cda) cc)) :: starEach [] (ksEnv qn scope L fI (.ref cda) cc) := rfl
    rw [he]
    refine kxs_callWith (i := "ValueError.__init__") (x := x) rfl (evalArgs_plain ?_)
    refine spliced_cons (Calls.Constant_str (k := k) (pos := p3) (spliced_none ?_))
    have pu : ∀ b o, h'.get? b = some o → (h'.push (kxs_mw "ValueError.__init__" x)).get? b = some o := fun b o e => Heap.get?_push_of_some _ e
    refine ⟨Heap.get?_push_at rfl rfl, x_bound (pu _ _ (X' _ _ hC)) (pu _ _ (kk _ _ hx)) (Heap.get?_push_at rfl rfl) fun h2 t1 k2 e2 => hq h2 t1 _ (fun b o hb q => k2 b o hb (pu _ _ (kk _ _ q))) e2⟩
/-- a name of the frame -/
theorem x_ld {qn : Str} {scope : Scope} {cda cc L : Addr} {m : Str → Option Value} {y : Str} {pos : Pos} {v : Value} {s : Shared} {Q : Value → Shared → Prop} (hk : scope.kind = .function) (hl : scope.names.lookup y = some .local) (hd : (y == ("__debug__" : Str)) = false) (hn : s.heap.Ns L m) (hv : m y = some v) (h : Q v s) :
    wpAny (model prog w) A (eval (.Name y pos) (ksEnv qn scope L fI (.ref cda) cc)) Q E s := wpAny_Name (wpAny_loadName_local hk hl hn hv h) hd
/-- where the stores stand -/
structure XAt (h0 h : Heap) (x C : Addr) (acc : List (Str × Value)) : Prop where
  keep : ∀ b o, b ≠ x → h0.get? b = some o → h.get? b = some o
  obj : ∃ t1 dv, h.get? x = some (xo C t1 dv) ∧ match dv with
    | none => acc = []
    | some dx => acc ≠ [] ∧ h0.objs.size < dx ∧ dx ≠ x ∧ h.Ns1 dx (fun y => acc.lookup y)
theorem lookup_cons (f y : Str) (v : Value) (l : List (Str × Value)) : ((f, v) :: l).lookup y = if y = f then some v else l.lookup y := by
  by_cases e : y = f
  · subst e
    simp [List.lookup]
  · have q : (y == f) = false := by simpa using e
    rw [if_neg e]
    simp [List.lookup, q]
theorem x_stores {qn : Str} {scope : Scope} {cda cc x : Addr} {m : Str → Option Value} {h0 : Heap} (T : XCls prog K C fI ps) (hk : scope.kind = .function) (hse : scope.names.lookup ("self" : Str) = some .local) (hnx : K.lookup x = none) {Q : Flow → Shared → Prop} (hm : m "self" = some (.ref x)) (X0 : K.In h0) :
    ∀ {r : List Stmt} {l : List Str}, Stores r l → ∀ {vs : List Value} {acc : List (Str × Value)} {s : Shared}, (∀ p ∈ l, scope.names.lookup p = some .local) → (∀ p ∈ l, findIn K (.ref C) p = some none) → (∀ (i : Nat) p, l[i]? = some p → m p = vs[i]?) → vs.length = l.length → acc.length + l.length ≤ 900 →
      s.heap.Ns h0.objs.size m → x ≠ h0.objs.size → XAt h0 s.heap x C acc → (∀ h' tk, XAt h0 h' x C ((l.zip vs).reverse ++ acc) → Q .next { s with heap := h', toks := tk }) →
      wpAny (model prog w) A (execs r (ksEnv qn scope h0.objs.size fI (.ref cda) cc)) Q E s := by
  intro r l st
  induction st with
  | nil =>
    intro vs acc s _ _ _ _ _ _ _ W hq
    exact wpAny_execs_nil (hq s.heap s.toks W)
  | @cons p q1 q2 q3 q4 r l hdb st ih =>
    intro vs acc s hloc hno hmv hlen hac hn hxL W hq
    obtain ⟨nm, q, N, bs, bm, sn, sub, ab, col, dd, k0, k1, k2, k3, k5, hC, hbm⟩ := T.cls
    have hcl : clsIn K C = some { name := nm, bases := bs, mro := .ref C :: bm, ns := N, qualname := q, hasDict := true, slotNames := sn, subclasses := sub, abstract := ab, collection := col, hasDel := false } := by unfold clsIn; rw [hC] <;> rfl
    obtain ⟨v, vs, rfl⟩ : ∃ v us, vs = v :: us := by
      cases vs with
      | nil => cases hlen
      | cons v us => exact ⟨v, us, rfl⟩
    have hv : m p = some v := hmv 0 p rfl
    have hno' : findIn K (.ref C) p = some none := hno p (by simp)
    have zip' : ((p :: l).zip (v :: vs)).reverse ++ acc = (l.zip vs).reverse ++ ((p, v) :: acc) := by simp
    rw [zip'] at hq
    have X : K.In s.heap := fun a o e => W.keep a o (fun z => by rw [z, hnx] at e; cases e) (X0 a o e)
    refine wpAny_execs_cons (plainObj_wpAny_Assign_Attribute ?_)
    refine x_ld hk (hloc p (by simp)) hdb hn hv (x_ld hk hse (by decide) hn hm ?_)
    obtain ⟨keep, t1, dv, hx, hd⟩ := W
    obtain ⟨hp, g, d, tk, os⟩ := s
    have hLs : h0.objs.size < hp.objs.size := hn.lt
    cases dv with
    | none =>
      have hd' : acc = [] := hd
      subst hd'
      refine set_plain X (ox := xo C t1 none) (od := none) ⟨hx, rfl, rfl, trivial⟩ T.sa ?_
      refine exc_osa X hx hcl (show refsVE (.ref C :: bm) = true from hbm) rfl hno' (fun h' tk' dx k dn dne hx' hns => ?_)
      refine ih (fun a ha => hloc a (by simp [ha])) (fun a ha => hno a (by simp [ha])) (fun i a ha => hmv (i + 1) a ha) (by simpa using hlen) (by simp at hac ⊢; omega) ?_ hxL ⟨fun b o hb e => k b o hb (keep b o hb e), t1, some dx, hx', by simp, Nat.lt_of_lt_of_le hLs dn, dne, ?_⟩ fun h2 tk2 W2 => hq h2 tk2 W2
      · obtain ⟨o, es, ep, ho, hr⟩ := hn
        exact ⟨o, es, ep, k _ _ (Ne.symm hxL) ho, hr⟩
      · have ef : (fun y => if y = p then some v else none) = (fun y => List.lookup y [(p, v)]) := by
          funext y
          rw [lookup_cons]
          rfl
        rw [← ef]
        exact hns
    | some dx =>
      obtain ⟨hnn, hb, hne, hns⟩ : acc ≠ [] ∧ h0.objs.size < dx ∧ dx ≠ x ∧ hp.Ns1 dx (fun y => acc.lookup y) := hd
      have hw : Within (fun y => acc.lookup y) (acc.map (·.1)) := fun y hy => by
        have key : ∀ {l : List (Str × Value)}, l.lookup y ≠ none → y ∈ l.map (·.1) := by
          intro l
          induction l with
          | nil => intro h; exact absurd rfl h
          | cons a l ih =>
            intro h
            obtain ⟨f, z⟩ := a
            rw [lookup_cons] at h
            by_cases e : y = f
            · simp [e]
            · rw [if_neg e] at h
              simp only [List.map_cons, List.mem_cons]
              exact .inr (ih h)
        exact key hy
      obtain ⟨oD, _, _, hoD, _, _⟩ := hns.count hw
      refine set_plain X (ox := xo C t1 (some dx)) (od := some oD) ⟨hx, rfl, rfl, hoD⟩ T.sa ?_
      refine PySem.OEX.osa_old X hx hns hw (by rw [List.length_map]; omega) hcl (show refsVE (.ref C :: bm) = true from hbm) rfl hno' (fun h' tk' k hn' => ?_)
      refine ih (fun a ha => hloc a (by simp [ha])) (fun a ha => hno a (by simp [ha])) (fun i a ha => hmv (i + 1) a ha) (by simpa using hlen) (by simp at hac ⊢; omega) ?_ hxL ⟨fun b o hb' e => k b o ?_ (keep b o hb' e), t1, some dx, k _ _ (Ne.symm hne) hx, by simp, hb, hne, ?_⟩ fun h2 tk2 W2 => hq h2 tk2 W2
      · obtain ⟨o, es, ep, ho, hr⟩ := hn
        exact ⟨o, es, ep, k _ _ (Nat.ne_of_lt hb) ho, hr⟩
      · exact Nat.ne_of_lt (Nat.lt_trans (Heap.lt_size e) hb)
      · have ef : (fun y => if y = p then some v else acc.lookup y) = (fun y => List.lookup y ((p, v) :: acc)) := by
          funext y
          rw [lookup_cons]
        rw [← ef]
        exact hn'
theorem zip_self {α β : Type} : ∀ {l : List α} {us : List β}, us.length = l.length → ∀ {i : Nat} {p : α}, l[i]? = some p → ∃ v, us[i]? = some v ∧ (l.zip us)[i]? = some (p, v)
  | [], _, _, i, p, h => by simp at h
  | a :: l, [], hl, _, _, _ => by cases hl
  | a :: l, u :: us, hl, 0, p, h => by
    simp at h
    subst h
    exact ⟨u, rfl, rfl⟩
  | a :: l, u :: us, hl, i + 1, p, h => by
    obtain ⟨v, h1, h2⟩ := zip_self (l := l) (us := us) (by simpa using hl) (i := i) (p := p) (by simpa using h)
    exact ⟨v, by simpa using h1, by simpa using h2⟩
theorem lookup_mem : ∀ {l : List (Str × Value)} {p : Str} {v : Value}, (l.map (·.1)).Nodup → (p, v) ∈ l → l.lookup p = some v
  | [], _, _, _, h => by simp at h
  | (f, z) :: l, p, v, nd, h => by
    rw [lookup_cons]
    simp only [List.map_cons, List.nodup_cons] at nd
    rcases List.mem_cons.mp h with h | h
    · cases h
      rw [if_pos rfl]
    · have ne : p ≠ f := fun z => nd.1 (z ▸ List.mem_map.mpr ⟨(p, v), h, rfl⟩)
      rw [if_neg ne, lookup_mem nd.2 h]
/-- the frame of the call -/
theorem binds_at {ps : List Str} {us : List Value} (nd : ps.Nodup) (hl : us.length = ps.length) {i : Nat} {p : Str} (h : ps[i]? = some p) : (ps.zip us).reverse.lookup p = us[i]? := by
  obtain ⟨v, h1, h2⟩ := zip_self hl h
  rw [h1]
  refine lookup_mem ?_ (List.mem_reverse.mpr (List.mem_of_getElem? h2))
  have e : (ps.zip us).map (·.1) = ps := by
    have := List.map_fst_zip (l₁ := ps) (l₂ := us) (by omega)
    exact this
  rw [List.map_reverse, e]
  exact List.pairwise_reverse.mpr (nd.imp fun h => Ne.symm h)
theorem x_init {s : Shared} {R : Result → Shared → Prop} (T : XCls prog K C fI ps) {x t0 : Addr} {vs : List Value} (X : K.In s.heap) (hg : s.heap.Ns mainGlobals mg) (hb : s.heap.Ns builtinsNs mb) (hbb : ∀ y : Str, y ≠ "__name__" → mb y = bootBuiltins y) (hmg : mg "super" = none) (hlim : s.heap.NoLimit)
    (hx : s.heap.get? x = some (xo C t0 none)) (hnx : K.lookup x = none) (hroom : A.depth < recursionLimit) (hlen : vs.length = ps.length)
    (hq : ∀ h' tk, XAt s.heap h' x C (ps.zip vs).reverse → R (.ok (.ret .none)) { s with heap := h', toks := tk }) : codeAny (model prog w) A (.call (.ref fI) ⟨.ref x :: vs, []⟩) R s := by
  obtain ⟨qn, params, body, scope, oc, doc, pm, ct, ccl, cl, od, an, cdd, cld, cda, cc, osl, ccs, csl, ws, file, tf, ar, hf, hcd, hco, hws, hfile, hce, hp, har, hin, hbind, hcell, hcor, hgen, hk, h1, h2, h3⟩ := T.fn
  have hl1 : (Value.ref x :: vs).length = ((("self" : Str) :: ps)).length := by simp [hlen]
  refine ks_codeAny_call_defAt (fd := ksFn "__init__" qn params body scope .none .none doc pm an (.ref cda) ct cc) (body := body) (binds := (("self" : Str) :: ps).zip (.ref x :: vs)) hroom (X _ _ hf) rfl hlim (codeRec_of X hcd) rfl (hbind s _ (by simp [hlen])) hcell (fun y hy => h3 _ (List.of_mem_zip hy).1) (fun h₀ hns hk₀ => ?_) hcor hgen hk
  have hxL : x ≠ s.heap.objs.size := Nat.ne_of_lt (Heap.lt_size hx)
  have hself : ((("self" : Str) :: ps).zip (Value.ref x :: vs)).reverse.lookup ("self" : Str) = some (.ref x) := binds_at T.nd hl1 (i := 0) rfl
  obtain ⟨st, hpos⟩ := hin
  rename_i msg k p0 p1 p2 p3 p4 p5 r
  refine ks_wpAt_execs_cons ?_
  refine x_super (t0 := t0) (x := x) T (X.keeps hk₀) (hg.keeps hk₀) (hb.keeps hk₀) hbb hmg hf hco hws hfile hce hp har hk h1 h2 (h3 _ (by simp)) hns hself (hk₀ _ _ hx) hxL hpos fun h' t1 tk kk e => ?_
  refine wpAt_of_wpAny ?_
  refine x_stores (h0 := s.heap) (x := x) (m := fun y => ((("self" : Str) :: ps).zip (Value.ref x :: vs)).reverse.lookup y) T hk (h3 _ (by simp)) hnx hself X st (vs := vs) (acc := []) (fun p hp => h3 p (by simp [hp])) (fun p hp => T.noF p hp) (fun i p hi => binds_at T.nd hl1 (i := i + 1) (by simpa using hi)) hlen (by have := T.few; simp; omega) ?_ hxL ⟨fun b o hb' q => kk b o hb' (hk₀ b o q), t1, none, e, rfl⟩ fun h2 tk2 W => ?_
  · obtain ⟨o, es, ep, ho, hr⟩ := hns
    exact ⟨o, es, ep, kk _ _ (Ne.symm hxL) ho, hr⟩
  · rw [List.append_nil] at W
    exact hq h2 tk2 W
end
end VS

namespace VS
open PySem L2 PySem.Spec PyProof.Rows PySem.HandSPX
/-! ### raise C(..) -/
def tMkX (C : Addr) (ps : List Str) (ta : TA) : L2.St → Hp → XK → Prop := fun σ H Q => ta σ H fun vs H1 => vs.length = ps.length ∧ (ps = [] → Q (.ref C) none H1) ∧ (ps ≠ [] → ∀ d, H1 d = none → Q (.ref C) (some d) (upd H1 d (.xd (ps.zip vs).reverse)))
theorem rel_zip : ∀ {ps : List Str} {vs : List V} {us : List Value}, Vals vs us → ∀ f, RelO ((ps.zip vs).lookup f) ((ps.zip us).lookup f)
  | [], vs, us, _, f => by simp [List.zip]; trivial
  | p :: ps, _, _, .nil, f => by simp [List.zip]; trivial
  | p :: ps, v :: vs, u :: us, .cons r rs, f => by
    show RelO (((p, v) :: ps.zip vs).lookup f) (((p, u) :: ps.zip us).lookup f)
    rw [lookup_cons, L2.lookup_put]
    by_cases e : f = p
    · rw [if_pos e, if_pos e]
      exact r
    · rw [if_neg e, if_neg e]
      exact rel_zip rs f
theorem rel_app {a c : List (Str × V)} {b d : List (Str × Value)} {f : Str} (h1 : RelO (a.lookup f) (b.lookup f)) (h2 : RelO (c.lookup f) (d.lookup f)) : RelO ((a ++ c).lookup f) ((b ++ d).lookup f) := by
  rw [List.lookup_append, List.lookup_append]
  cases e1 : a.lookup f with
  | none =>
    cases e2 : b.lookup f with
    | none => simpa using h2
    | some y => rw [e1, e2] at h1; exact h1.elim
  | some x =>
    cases e2 : b.lookup f with
    | none => rw [e1, e2] at h1; exact h1.elim
    | some y => rw [e1, e2] at h1; simpa using h1
theorem rel_zipR : ∀ {ps : List Str} {vs : List V} {us : List Value}, Vals vs us → ∀ f, RelO ((ps.zip vs).reverse.lookup f) ((ps.zip us).reverse.lookup f)
  | [], vs, us, _, f => by simp [List.zip]; trivial
  | p :: ps, _, _, .nil, f => by simp [List.zip]; trivial
  | p :: ps, v :: vs, u :: us, .cons r rs, f => by
    show RelO (((p, v) :: ps.zip vs).reverse.lookup f) (((p, u) :: ps.zip us).reverse.lookup f)
    rw [List.reverse_cons, List.reverse_cons]
    refine rel_app (rel_zipR rs f) ?_
    rw [lookup_cons, L2.lookup_put]
    by_cases e : f = p
    · rw [if_pos e, if_pos e]
      exact r
    · rw [if_neg e, if_neg e]
      trivial
section
variable {X : Cx} {C fI : Addr} {ps : List Str}
/-- C called: behind its arguments -/
theorem x_call {pins : List (Addr × Obj)} {σ : L2.St} {H1 : Hp} {s1 : Shared} {vs : List V} {us : List Value} {Q : XK} (T : XCls X.prog X.K C fI ps) (hsu : X.mg "super" = none) (hr : Room 1 X.A) (I1 : L2.Inv X pins σ H1 s1) (r1 : Vals vs us) (hl : vs.length = ps.length)
    (q0 : ps = [] → Q (.ref C) none H1) (q1 : ps ≠ [] → ∀ d, H1 d = none → Q (.ref C) (some d) (upd H1 d (.xd (ps.zip vs).reverse))) :
    wpAny (model X.prog X.w) X.A (call (.ref C) us) (MkP X pins σ Q) X.xe s1 := by
  obtain ⟨nm, q, N, bs, bm, sn, sub, ab, col, dd, k0, k1, k2, k3, k5, hC, hbm⟩ := T.cls
  have hlim := I1.nolimit
  have hgl := I1.mod.glob.keeps I1.bk
  obtain ⟨mb, hb1, hb2⟩ := I1.mod.blt
  have hbl := hb1.keeps I1.bk
  have hul : us.length = ps.length := by rw [← hl]; exact (Paired.length r1).symm
  obtain ⟨hp, g, dr, tk, os⟩ := s1
  have kk : ∀ b o, hp.get? b = some o → ((hp.push (PySem.W.kdv_tup us)).push (excO C hp.objs.size)).get? b = some o := fun b o e => Heap.get?_push_of_some _ (Heap.get?_push_of_some _ e)
  have hget : ((hp.push (PySem.W.kdv_tup us)).push (excO C hp.objs.size)).get? (hp.objs.size + 1) = some (excO C hp.objs.size) := by heap_get
  have hnx : X.K.lookup (hp.objs.size + 1) = none := by
    cases e : X.K.lookup (hp.objs.size + 1) with
    | none => rfl
    | some o =>
      have z : hp.get? (hp.objs.size + 1) = some o := I1.kIn _ _ e
      exact absurd (Nat.lt_of_succ_lt (Heap.lt_size z)) (Nat.lt_irrefl _)
  refine wpAny_call (call_own F.excBase_ValueError (fun Y => refsVE_contains Y bm hbm) (I1.kIn _ _ hC) (PySem.W.looks_findIn I1.kIn T.iC) (fun self => PySem.W.bind_fn I1.kIn self T.tC) (by rw [hul, sizeLine_eq]; have := T.few; omega) ?_)
  refine x_init (s := ⟨(hp.push (PySem.W.kdv_tup us)).push (excO C hp.objs.size), g, dr, tk, os⟩) T (I1.kIn.keeps kk) (hgl.keeps kk) (hbl.keeps kk) hb2 hsu (hlim.keeps kk) hget hnx (hr.make C us []).depth hul fun h' tk' W => ?_
  refine ⟨rfl, ?_⟩
  show MkP X pins σ Q (.ref (hp.objs.size + 1)) ⟨h', g, dr, tk', os⟩
  obtain ⟨keep, t1, dv, hx, hd⟩ := W
  obtain ⟨G', g1, g2⟩ := restrict h' fun b => decide (b ≠ hp.objs.size + 1)
  have gk : ∀ b, b ≠ hp.objs.size + 1 → G'.get? b = h'.get? b := fun b hb => g1 b (decide_eq_true hb)
  have ge : G'.get? (hp.objs.size + 1) = none := g2 _ (by simp)
  have nx : ∀ {b : Addr} {o : Obj}, hp.get? b = some o → b ≠ hp.objs.size + 1 := fun {b o} z => Nat.ne_of_lt (Nat.lt_succ_of_lt (Heap.lt_size z))
  have old : ∀ b o, hp.get? b = some o → G'.get? b = some o := fun b o z => (gk b (nx z)).trans (keep b o (nx z) (kk b o z))
  have down : ∀ b o, G'.get? b = some o → h'.get? b = some o := fun b o z => by
    by_cases hb : b = hp.objs.size + 1
    · rw [hb, ge] at z; cases z
    · exact (gk b hb).symm.trans z
  have hne : H1 (hp.objs.size + 1) = none := I1.hok.fresh (Nat.le_succ _)
  cases dv with
  | none =>
    have e0 : (ps.zip us).reverse = [] := hd
    have ep : ps = [] := by
      cases ps with
      | nil => rfl
      | cons p r =>
        cases us with
        | nil => cases hul
        | cons u t => simp at e0
    have J : L2.Inv X pins σ H1 ⟨G', g, dr, tk', os⟩ := I1.kept (t' := tk') old
    exact ⟨_, _, _, ⟨G', g, dr, tk', os⟩, _, .ref C, none, rfl, J, down, ge, hx, ⟨rfl, rfl⟩, rfl, rfl, hne, rfl, I1.bare, raises_own T.exC T.tyC, q0 ep⟩
  | some d =>
    obtain ⟨nn, db, dne, hns⟩ : (ps.zip us).reverse ≠ [] ∧ ((hp.push (PySem.W.kdv_tup us)).push (excO C hp.objs.size)).objs.size < d ∧ d ≠ hp.objs.size + 1 ∧ h'.Ns1 d (fun y => (ps.zip us).reverse.lookup y) := hd
    have db' : hp.objs.size ≤ d := by
      rw [Heap.size_push, Heap.size_push] at db
      exact Nat.le_of_lt (Nat.lt_trans (Nat.lt_trans (Nat.lt_succ_self _) (Nat.lt_succ_self _)) db)
    have np : ps ≠ [] := fun z => nn (by rw [z]; rfl)
    have ob : ObjOk X.prog X.w (upd H1 d (.xd (ps.zip vs).reverse)) G' d (.xd (ps.zip vs).reverse) :=
      ⟨_, hns.at (fun o z => (gk d dne).trans z), fun f => rel_zipR r1 f⟩
    have J : L2.Inv X pins σ (upd H1 d (.xd (ps.zip vs).reverse)) ⟨G', g, dr, tk', os⟩ := I1.laid (t' := tk') old db' ob
    refine ⟨_, _, _, ⟨G', g, dr, tk', os⟩, _, .ref C, some d, rfl, J, down, ge, hx, ⟨rfl, rfl⟩, rfl, rfl, ?_, rfl, I1.bare, raises_own T.exC T.tyC, q1 np d (I1.hok.fresh db')⟩
    rw [upd_ne (Ne.symm dne)]
    exact hne
theorem pmk_x {x : Str} {e : Expr} {es : List Expr} {ta : TA} {p pos : Pos} (T : XCls X.prog X.K C fI ps) (hsu : X.mg "super" = none) (hr : Room 1 X.A) (hm : X.mg x = some (.ref C)) (hg : Gl X x) (ha : PA X (e :: es) ta)
    (hdb : (x == ("__debug__" : Str)) = false := by decide) (he : starEach (e :: es) X.env = (false, eval e X.env) :: starEach es X.env := by rfl) (hpl : (backTo pos (starEach es X.env)).any (·.1) = false := by rfl) :
    PMk X (.Call (.Name x p) (e :: es) [] pos) (tMkX C ps ta) := by
  intro pins s σ H Q I h
  refine wpAny_Call_Name_kw (ld_glob I hg hm ?_ hdb)
  refine PySem.W.callWith_K (h₀ := X.base) I.ok.mod.kin T.kC (thn (ha.run pos pins s σ H _ I h) fun us s1 hh => ?_) he hpl
  obtain ⟨vs, H1, I1, r1, hl, q0, q1⟩ := hh
  exact ⟨I1.kIn, x_call T hsu hr I1 r1 hl q0 q1⟩
theorem pmk_x0 {x : Str} {p pos : Pos} (T : XCls X.prog X.K C fI []) (hsu : X.mg "super" = none) (hr : Room 1 X.A) (hm : X.mg x = some (.ref C)) (hg : Gl X x) (hdb : (x == ("__debug__" : Str)) = false := by decide) :
    PMk X (.Call (.Name x p) [] [] pos) (tMkX C [] tNil) := by
  intro pins s σ H Q I h
  refine wpAny_Call_Name_kw (ld_glob I hg hm ?_ hdb)
  obtain ⟨hl, q0, q1⟩ := h
  exact PySem.W.callWith_K0 I.kIn T.kC (x_call T hsu hr I .nil hl q0 q1)
end
end VS

namespace VS
open PySem L2
/-! ### raise -/
def cRaise (c : Nat) (ps : List Str) (os : List Opd) : CStm := fun ρ => (evO os ρ).bind fun xs ρ' => match late os xs ρ' with
  | some ds => .exc c (ps.zip ds).reverse ρ'
  | none => .stuck
section
variable {Γ : Gm} {W : WX} {Z : Addr → Prop} {σ σ1 : L2.St} {ρ ρ1 ρ' : Sl} {H H1 : Hp} {fx : List Nat} {O : Addr → Prop}
theorem Reps.app {as bs : List V} {cs ds : List D} (h1 : Reps Γ O H as cs) (h2 : Reps Γ O H bs ds) : Reps Γ O H (as ++ bs) (cs ++ ds) := by
  match h1 with
  | .nil => exact h2
  | .cons r rs => exact .cons r (Reps.app rs h2)
theorem zip_reps : ∀ {ps : List Str} {vs : List V} {ds : List D}, Reps Γ O H vs ds → ((ps.zip vs).reverse).map (·.1) = ((ps.zip ds).reverse).map (·.1) ∧ Reps Γ O H (((ps.zip vs).reverse).map (·.2)) (((ps.zip ds).reverse).map (·.2))
  | [], vs, ds, _ => by simp; exact .nil
  | p :: ps, _, _, .nil => by simp; exact .nil
  | p :: ps, v :: vs, d :: ds, .cons r rs => by
    obtain ⟨h1, h2⟩ := zip_reps (ps := ps) rs
    simp only [List.zip_cons_cons, List.reverse_cons, List.map_append, h1, List.map_cons, List.map_nil]
    exact ⟨trivial, h2.app (.cons r .nil)⟩
theorem SS.raise {C : Addr} {c : Nat} {ps : List Str} {ta : TA} {os : List Opd} (hC : Γ.ct c = C) (ha : SA Γ W ta os) (he : allE os = true) (hn : os.length = ps.length) : SS Γ fx W (fun _ σ H => tMkX C ps ta σ H fun cls d H' => W cls d σ H') (cRaise c ps os) := by
  intro Z σ ρ H E f k
  refine ha.run f ?_
  unfold cRaise at k
  revert k
  cases evO os ρ with
  | ok xs ρ' =>
    intro k vs H1 f1 s1 o
    simp only [Res.bind_ok] at k
    cases q : late os xs ρ' with
    | none => rw [q] at k; exact k.elim
    | some ds =>
      rw [q] at k
      have r := o.reps he q
      have hl : vs.length = ps.length := by
        rw [← hn]
        have : ∀ {os : List Opd} {xs : List (Option D)} {vs : List V}, OR Γ Z σ ρ' H1 os xs vs → vs.length = os.length := by
          intro os xs vs h
          induction h with
          | nil => rfl
          | v _ _ ih => simp [ih]
          | e _ _ ih => simp [ih]
        exact this o
      obtain ⟨z1, z2⟩ := zip_reps (ps := ps) r
      refine ⟨hl, fun e0 => ?_, fun e1 d hd => ?_⟩
      · subst hC
        refine k none σ H1 f1 s1 Fx.refl ?_
        rw [e0]
        rfl
      · subst hC
        have ex : Ext H1 (upd H1 d (.xd (ps.zip vs).reverse)) := Ext.new hd
        exact k (some d) σ _ (f1.ext ex) (s1.trans ex.step) Fx.refl ⟨_, upd_same, z1, z2.to (ex.ov f1.mu)⟩
  | exc c fs ρ' =>
    intro k
    exact fun d H' f' s' x => k d σ H' f' s' Fx.refl x
  | stuck => exact fun k => k.elim
end
/-! ### data without the exception -/
mutual
def noX : D → Bool
  | .exc _ _ => false
  | .tup xs => noXs xs
  | .ktup xs => noXs xs
  | .lst xs => noXs xs
  | .dK kvs => noXk kvs
  | .dT kvs => noXt kvs
  | .obj _ fs => noXf fs
  | _ => true
def noXs : List D → Bool
  | [] => true
  | d :: r => noX d && noXs r
def noXk : List (Key × D) → Bool
  | [] => true
  | (_, d) :: r => noX d && noXk r
def noXt : List (List Key × D) → Bool
  | [] => true
  | (_, d) :: r => noX d && noXt r
def noXf : List (Str × D) → Bool
  | [] => true
  | (_, d) :: r => noX d && noXf r
end
theorem noXk_eq : ∀ l : List (Key × D), noXk l = noXs (l.map (·.2))
  | [] => rfl
  | (_, d) :: r => by simp [noXk, noXs, noXk_eq r]
theorem noXt_eq : ∀ l : List (List Key × D), noXt l = noXs (l.map (·.2))
  | [] => rfl
  | (_, d) :: r => by simp [noXt, noXs, noXt_eq r]
theorem noXf_eq : ∀ l : List (Str × D), noXf l = noXs (l.map (·.2))
  | [] => rfl
  | (_, d) :: r => by simp [noXf, noXs, noXf_eq r]
/-- the same, another exception at hand -/
def Gm.with (Γ : Gm) (x : Option (Addr × Nat × Option Addr)) : Gm := ⟨Γ.K, ⟨Γ.cn.ct, x⟩⟩
section
variable {Γ : Gm} {x : Option (Addr × Nat × Option Addr)} {O : Addr → Prop} {H : Hp}
mutual
theorem Rep.out : ∀ {v : V} {d : D}, Rep Γ O H v d → noX d = true → Rep (Γ.with x) O H v d
  | _, _, .non, _ => .non
  | _, _, .bl b, _ => .bl b
  | _, _, .int i, _ => .int i
  | _, _, .str x h, _ => .str x h
  | _, _, .ty x, _ => .ty x
  | _, _, .tup h r, k => .tup h (Reps.out r (by simpa [noX] using k))
  | _, _, .ktup h r, k => .ktup h (Reps.out r (by simpa [noX] using k))
  | _, _, .scr h, _ => .scr h
  | _, _, .lst h n r, k => .lst h n (Reps.out r (by simpa [noX] using k))
  | _, _, .dK h n q r, k => .dK h n q (Reps.out r (by simpa [noX, noXk_eq] using k))
  | _, _, .dT h n q r, k => .dT h n q (Reps.out r (by simpa [noX, noXt_eq] using k))
  | _, _, .obj h n q r, k => .obj h n q (Reps.out r (by simpa [noX, noXf_eq] using k))
  | _, _, .cls c, _ => .cls (Γ := Γ.with x) c
  | _, _, .exn h, k => by simp [noX] at k
  | _, _, .exd _ _ _ _, k => by simp [noX] at k
theorem Reps.out : ∀ {vs : List V} {ds : List D}, Reps Γ O H vs ds → noXs ds = true → Reps (Γ.with x) O H vs ds
  | _, _, .nil, _ => .nil
  | _, _, .cons h r, k => by
    simp only [noXs, Bool.and_eq_true] at k
    exact .cons (Rep.out h k.1) (Reps.out r k.2)
end
mutual
theorem Rep.noX : ∀ {v : V} {d : D}, Γ.xa = none → Rep Γ O H v d → VS.noX d = true
  | _, _, _, .non => rfl
  | _, _, _, .bl b => rfl
  | _, _, _, .int i => rfl
  | _, _, _, .str x h => rfl
  | _, _, _, .ty x => rfl
  | _, _, e, .tup h r => by simpa [VS.noX] using Reps.noX e r
  | _, _, e, .ktup h r => by simpa [VS.noX] using Reps.noX e r
  | _, _, _, .scr h => rfl
  | _, _, e, .lst h n r => by simpa [VS.noX] using Reps.noX e r
  | _, _, e, .dK h n q r => by simpa [VS.noX, noXk_eq] using Reps.noX e r
  | _, _, e, .dT h n q r => by simpa [VS.noX, noXt_eq] using Reps.noX e r
  | _, _, e, .obj h n q r => by simpa [VS.noX, noXf_eq] using Reps.noX e r
  | _, _, _, .cls c => rfl
  | _, _, e, .exn h => by rw [e] at h; cases h
  | _, _, e, .exd h _ _ _ => by rw [e] at h; cases h
theorem Reps.noX : ∀ {vs : List V} {ds : List D}, Γ.xa = none → Reps Γ O H vs ds → noXs ds = true
  | _, _, _, .nil => rfl
  | _, _, e, .cons h r => by simp [noXs, Rep.noX e h, Reps.noX e r]
end
theorem Own.noX {v : V} {d : D} (e : Γ.xa = none) (h : Own Γ O H v d) : VS.noX d = true := by
  cases h with
  | lst h n r => simpa [VS.noX] using r.noX e
  | dK h n q r => simpa [VS.noX, noXk_eq] using r.noX e
  | dT h n q r => simpa [VS.noX, noXt_eq] using r.noX e
  | obj h n q r => simpa [VS.noX, noXf_eq] using r.noX e
theorem Own.out {v : V} {d : D} (h : Own Γ O H v d) (k : VS.noX d = true) : Own (Γ.with x) O H v d := by
  cases h with
  | lst h n r => exact .lst h n (r.out (by simpa [VS.noX] using k))
  | dK h n q r => exact .dK h n q (r.out (by simpa [VS.noX, noXk_eq] using k))
  | dT h n q r => exact .dT h n q (r.out (by simpa [VS.noX, noXt_eq] using k))
  | obj h n q r => exact .obj h n q (r.out (by simpa [VS.noX, noXf_eq] using k))
variable {Z : Addr → Prop} {σ : L2.St} {ρ : Sl}
def noXr (ρ : Sl) : Bool := ρ.all fun s => match s with
  | some s => VS.noX s.1
  | none => true
theorem noXr_at (h : noXr ρ = true) {i : Nat} {s : Slot} (e : ρ[i]? = some (some s)) : VS.noX s.1 = true := by
  unfold noXr at h
  rw [List.all_eq_true] at h
  exact h _ (List.mem_of_getElem? e)
theorem FR.out (f : FR Γ Z σ ρ H) (k : noXr ρ = true) : FR (Γ.with x) Z σ ρ H :=
  ⟨f.len, f.mu, fun i d e => (f.sh i d e).imp fun v h => ⟨h.1, h.2.out (noXr_at k e)⟩, fun i d e => (f.ow i d e).imp fun v h => ⟨h.1, h.2.out (noXr_at k e)⟩, f.inj, f.dis⟩
theorem FR.noX (e : Γ.xa = none) (f : FR Γ Z σ ρ H) : noXr ρ = true := by
  unfold noXr
  rw [List.all_eq_true]
  intro s hs
  obtain ⟨i, hi⟩ := List.getElem?_of_mem hs
  cases s with
  | none => rfl
  | some s =>
    obtain ⟨d, b⟩ := s
    cases b with
    | false =>
      obtain ⟨v, _, r⟩ := f.sh i d hi
      exact r.noX e
    | true =>
      obtain ⟨v, _, r⟩ := f.ow i d hi
      exact r.noX e
end
end VS

namespace VS
open PySem L2 PySem.Spec PyProof.Rows
/-! ### try with several clauses, each with or without a name -/
/-- behind a suite: the name is gone -/
def offE (oi : Option Nat) (D : Ends) : Ends := match oi with
  | none => D
  | some i => { nx := fun σ H => D.nx (σ.set i none) H, rt := D.rt, bk := fun σ H => D.bk (σ.set i none) H, ct := fun σ H => D.ct (σ.set i none) H }
def onS (oi : Option Nat) (a : Addr) (σ : L2.St) : L2.St := match oi with
  | none => σ
  | some i => σ.set i (some (.ref a))
abbrev Sui := Value × Option Nat × (Addr → Value → Option Addr → TS)
def wTry (K : PySem.W.Frag) (Wout : WX) (D : Ends) : List Sui → WX
  | [] => Wout
  | (c, oi, ts) :: r => fun cls d σ H => ∃ b, PySem.W.exmOne K cls c = some b ∧ (b = true → ∀ a, H a = none → ts a cls d (offE oi D) (onS oi a σ) H) ∧ (b = false → wTry K Wout D r cls d σ H)
/-- the clause's name stands in slot i -/
def NmOk (X : Cx) : Option Str → Option Nat → Prop
  | none, none => True
  | some n, some i => X.N[i]? = some n ∧ X.env.kindOf n = some .local
  | _, _ => False
inductive Hds (X : Cx) : List ExceptHandler → List Sui → Prop
  | nil : Hds X [] []
  | cons {x : Str} {on : Option Str} {oi : Option Nat} {c : Value} {ts : Addr → Value → Option Addr → TS} {b₀ : Stmt} {suite : List Stmt} {np pos' : Pos} {hds : List ExceptHandler} {l : List Sui} (hc : Names X x c) (hn : NmOk X on oi)
      (hsu : ∀ (a : Addr) (oe : Obj) (cls : Value) (d : Option Addr) (pn : List (Addr × Obj)), L2.Zc cls d oe → (∃ vs, oe.data = .fields vs) → PSs (X.suite a ((a, oe) :: pn)) (b₀ :: suite) (ts a cls d)) (r : Hds X hds l) :
      Hds X (.ExceptHandler (some (.Name x np)) on (b₀ :: suite) pos' :: hds) ((c, oi, ts) :: l)
section
variable {X : Cx}
theorem ps_tryN {body : List Stmt} {h₀ : ExceptHandler} {hds : List ExceptHandler} {l : List Sui} {pos : Pos} {tb : WX → TS} {Wout : WX} (hs : X.stack = X.env :: X.outer) (hf : X.env.frame = some X.env.locals) (hN : X.N.Nodup) (tk : Takes X Wout)
    (hb : ∀ (W : WX) (pn : List (Addr × Obj)) (xe : Value → Shared → Prop), Takes (X.tr pn xe) W → PassesOwn (model X.prog X.w) X.A X.env xe → PSs (X.tr pn xe) body (tb W))
    (hh : Hds X (h₀ :: hds) l) : PS X (.Try body (h₀ :: hds) [] [] pos) (fun D σ H => tb (wTry X.K Wout D l) D σ H) := by
  refine ⟨fun pins s σ H D I h => ?_⟩
  have ok := I.ok
  have hfr : X.A.frames = some (X.env :: X.outer) := by rw [ok.frames, hs]
  refine wpAny_Try_except (wpAny_mono ((hb (wTry X.K Wout D l) (X.pn ++ pins) (fun e s₁ => wpAny (model X.prog X.w) X.A (noteFrame e X.env) (fun _ s₂ => wpAny (model X.prog X.w) X.A (setFlight e none)
    (fun _ s₃ => wpAny (model X.prog X.w) X.A (handleBy e X.env (h₀ :: hds)) (SP X pins D) X.xe s₃) X.xe s₂) X.xe s₁) (fun u s' xx => ?_) PassesOwn.looking).run [] s σ H D (I.toTry _) h) (fun f s1 hsp => ?_) (fun e s1 he => he))
  · obtain ⟨a, B, sI, pins', σ', H', cls, d, rfl, J', nb, up, sky, na, os, ag, w⟩ := xx
    have J : L2.Inv X pins σ' H' sI := J'.ofTry ok
    refine Sky.land L2.Zc.steady hfr hf (show Sky B (X.env :: X.outer) a (L2.Zc cls d) X.env.locals s'.heap by rw [← hs]; exact sky) fun h3 fl3 up3 => ?_
    have J3 : L2.Inv X pins σ' H' { s' with heap := h3 } := J.landed nb fl3.1 (up.trans up3) os ag
    obtain ⟨oe3, vs3, he3, hz3, hd3⟩ := fl3.there
    have nfr : a ∉ frs (X.env :: X.outer) := fun hm => by
      obtain ⟨_, o', e', hnf⟩ := fl3.2.2.1.mem hm
      rw [he3] at e'
      cases e'
      exact hnf _ hd3
    have nL : a ≠ X.env.locals := fun z => nfr (List.mem_filterMap.mpr ⟨X.env, List.mem_cons_self, by rw [hf, z]⟩)
    have nF : a ∉ X.fs := fun hm => (List.mem_filterMap.mp hm).elim fun e h => nfr (List.mem_filterMap.mpr ⟨e, List.mem_cons_of_mem _ h.1, h.2⟩)
    have S3 := J3.suite he3 hd3 na nL nF
    have go : ∀ {hds' : List ExceptHandler} {l' : List Sui}, Hds X hds' l' → wTry X.K Wout D l' cls d σ' H' → wpAny (model X.prog X.w) X.A (handleBy (.ref a) X.env hds') (SP X pins D) X.xe { s' with heap := h3 } := by
      intro hds' l' hk
      induction hk with
      | nil =>
        intro w
        refine wpAny_handleBy_nil ?_
        obtain ⟨k1, k2, k3, oe, vs, T, oT, ts', he, hz, hd, h1, hr⟩ := id fl3
        unfold PySem.passOn
        refine wpAny_bind (wpAny_field he hd h1 ?_)
        rw [if_neg (show ¬ ((Value.ref T == Value.none) = true) from by simp)]
        have fin : wpAny (model X.prog X.w) X.A (setFlight (.ref a) X.env.frame) (fun _ s4 => wpAny (model X.prog X.w) X.A (throw (.ref a) : Sem Flow) (SP X pins D) X.xe s4) X.xe { s' with heap := h3 } := by
          rw [hf]
          refine HandSPX.setFlight_upZ fl3 fun h4 hh4 up4 => wpAny_throw (tk _ _ ⟨a, B, sI, pins, σ', H', cls, d, rfl, J, nb, (up.trans up3).trans up4, .inr (.inr (by rw [hs]; exact hh4)), na, os, ag, w⟩)
        first
          | exact wpAny_bind (wpAny_pure (wpAny_bind fin))
          | exact wpAny_bind fin
      | @cons x on oi c ts b₀ suite np pos' hds2 l2 hc hn hsu r ih =>
        intro w
        obtain ⟨b, hb1, hyes, hno⟩ := w
        refine wpAny_handleBy_cons (codeAny_handlers_test ?_) (by intro q; cases q)
        have LT : PySem.W.Looks (model X.prog X.w) h3 (typeOf (.ref a)) cls := fun A Q E s k q => wpAny_typeOf_ref (k _ _ he3) (by rw [hz3.1]; exact q)
        have LM := PySem.W.exm_one (M := model X.prog X.w) (J3.kIn) LT hb1
        have test : ∀ {Q : Value → Shared → Prop} {E : Value → Shared → Prop}, Q c { s' with heap := h3 } → wpAny (model X.prog X.w) (X.A.mark (some (.ref a))) (eval (.Name x np) X.env) Q E { s' with heap := h3 } := fun {Q E} q => by
          obtain ⟨hg, hdbg, hm | ⟨hm, hv, hnn⟩⟩ := hc
          · exact ld_glob (X := X.suite a ((a, oe3) :: (X.pn ++ pins))) S3 hg hm q hdbg
          · exact ld_blt (X := X.suite a ((a, oe3) :: (X.pn ++ pins))) S3 hg hm hv q hnn hdbg
        refine test (LM.here ?_)
        cases b with
        | false => exact ih (hno rfl)
        | true =>
          match on, oi, hn with
          | none, none, _ =>
            refine codeAny_handlers_suite (HandSPX.lands_againZ fl3 fun h4 fl4 up4 => ?_)
            have J4 : L2.Inv X pins σ' H' { s' with heap := h4 } := J.landed nb fl4.1 ((up.trans up3).trans up4) os ag
            obtain ⟨oe4, vs4, he4, hz4, hd4⟩ := fl4.there
            refine wpAny_mono ((hsu a oe4 cls d (X.pn ++ pins) hz4 ⟨_, hd4⟩).run [] _ _ H' _ (J4.suite he4 hd4 na nL nF) (hyes rfl a na)) (fun f s6 hsp => ?_) (fun _ _ z => False.elim z)
            cases f with
            | ret u => exact hsp.elim fun v6 h => h.elim fun σ6 h => h.elim fun H6 h => ⟨v6, σ6, H6, h.1.unsuite ok, h.2⟩
            | _ => exact hsp.elim fun σ6 h => h.elim fun H6 h => ⟨σ6, H6, h.1.unsuite ok, h.2⟩
          | some n, some i, hn =>
            obtain ⟨hi, hln⟩ : X.N[i]? = some n ∧ X.env.kindOf n = some .local := hn
            refine codeAny_handlers_suite_as (HandSPX.lands_againZ fl3 fun h4 fl4 up4 => ?_)
            have J4 : L2.Inv X pins σ' H' { s' with heap := h4 } := J.landed nb fl4.1 ((up.trans up3).trans up4) os ag
            obtain ⟨oe4, vs4, he4, hz4, hd4⟩ := fl4.there
            refine store_ok (X := X.suite a ((a, oe4) :: (X.pn ++ pins))) (v := .ref a) (J4.suite he4 hd4 na nL nF) hN hi (.inl hln) rfl (fun s5 S5 => ?_) (.inr hln)
            refine wpAny_mono ((hsu a oe4 cls d (X.pn ++ pins) hz4 ⟨_, hd4⟩).run [] s5 _ H' _ S5 (hyes rfl a na)) (fun f s6 hsp => ?_) (fun _ _ z => False.elim z)
            cases f with
            | ret u => exact hsp.elim fun v6 h => h.elim fun σ6 h => h.elim fun H6 h => gone_ok (h.1.unsuite ok) hN hi hln fun s7 J7 => ⟨v6, _, H6, J7, h.2⟩
            | _ => exact hsp.elim fun σ6 h => h.elim fun H6 h => gone_ok (h.1.unsuite ok) hN hi hln fun s7 J7 => ⟨_, H6, J7, h.2⟩
    exact go hh w
  · cases f with
    | next =>
      obtain ⟨σ', H', J', q⟩ := hsp
      exact wpAny_execs_nil ⟨σ', H', J'.ofTry ok, q⟩
    | brk =>
      obtain ⟨σ', H', J', q⟩ := hsp
      exact ⟨σ', H', J'.ofTry ok, q⟩
    | cont =>
      obtain ⟨σ', H', J', q⟩ := hsp
      exact ⟨σ', H', J'.ofTry ok, q⟩
    | ret u =>
      obtain ⟨v, σ', H', J', r, q⟩ := hsp
      exact ⟨v, σ', H', J'.ofTry ok, r, q⟩
end
end VS

namespace VS
open PySem L2
def offR (oi : Option Nat) (ρ : Sl) : Sl := match oi with
  | some i => ρ.set i none
  | none => ρ
def offS (oi : Option Nat) (σ : L2.St) : L2.St := match oi with
  | some i => σ.set i none
  | none => σ
def onR (oi : Option Nat) (d : D) (ρ : Sl) : Sl := match oi with
  | some i => ρ.set i (some (d, false))
  | none => ρ
def noXo : Out → Bool
  | .rt s => noX s.1
  | _ => true
abbrev Clz := (Nat → Option Bool) × Option Nat × CStm
def leaveT (oi : Option Nat) (r : Res Out) : Res Out := match r with
  | .ok o ρ => if (noXo o && noXr (offR oi ρ)) = true then .ok o (offR oi ρ) else .stuck
  | _ => .stuck
def pick (c : Nat) (fs : List (Str × D)) : List Clz → Sl → Res Out
  | [], ρ => .exc c fs ρ
  | (t, oi, m) :: r, ρ => match t c with
    | some true => leaveT oi (m (onR oi (.exc c fs) ρ))
    | some false => pick c fs r ρ
    | none => .stuck
def cTry (b : CStm) (cl : List Clz) : CStm := fun ρ => match b ρ with
  | .exc c fs ρ1 => pick c fs cl ρ1
  | r => r
section
variable {Γ : Gm} {W : WX} {Z : Addr → Prop} {σ σ1 : L2.St} {ρ ρ1 ρ' : Sl} {H H1 : Hp} {fx : List Nat} {O : Addr → Prop}
theorem off_at {i j : Nat} {s : Slot} (h : (ρ.set i none)[j]? = some (some s)) : i ≠ j ∧ ρ[j]? = some (some s) := by
  by_cases e : i = j
  · subst e
    by_cases hl : i < ρ.length
    · rw [set_at hl] at h; cases h
    · rw [List.getElem?_eq_none (by simp; omega)] at h; cases h
  · exact ⟨e, by rw [set_off e] at h; exact h⟩
theorem FR.offO (f : FR Γ Z σ ρ H) : ∀ oi : Option Nat, FR Γ Z (offS oi σ) (offR oi ρ) H
  | none => f
  | some i => (f.forget i).agree (by simp [offS]) fun j s h => set_off (off_at h).1
theorem Step.offO : ∀ oi : Option Nat, Step σ ρ H (offS oi σ) (offR oi ρ) H
  | none => Step.refl
  | some i => ⟨fun _ _ h _ => h, fun _ _ h => ⟨_, h⟩, fun a ⟨j, d, e1, e2⟩ => by
    obtain ⟨q1, q2⟩ := off_at (i := i) (ρ := ρ) e1
    rw [show (offS (some i) σ)[j]? = σ[j]? from set_off q1] at e2
    exact .inl ⟨j, d, q2, e2⟩⟩
theorem Fx.offO {oi : Option Nat} (h : ∀ i, oi = some i → i ∉ fx) : Fx fx σ (offS oi σ) := by
  intro j hj
  cases oi with
  | none => rfl
  | some i => exact set_off fun e => h i rfl (e ▸ hj)
theorem Fx.onO {oi : Option Nat} {a : Addr} (h : ∀ i, oi = some i → i ∉ fx) : Fx fx σ (onS oi a σ) := by
  intro j hj
  cases oi with
  | none => rfl
  | some i => exact set_off fun e => h i rfl (e ▸ hj)
theorem FR.onO (f : FR Γ Z σ ρ H) {a : Addr} {d : D} (r : Rep Γ (OA Z σ ρ) H (.ref a) d) : ∀ oi : Option Nat, FR Γ Z (onS oi a σ) (onR oi d ρ) H
  | none => f
  | some i => f.put r
theorem Step.onO {a : Addr} {d : D} : ∀ oi : Option Nat, Step σ ρ H (onS oi a σ) (onR oi d ρ) H
  | none => Step.refl
  | some i => Step.put
inductive SCl (Γ : Gm) (fx : List Nat) : List Sui → List Clz → Prop
  | nil : SCl Γ fx [] []
  | cons {cv : Value} {oi : Option Nat} {ts : Addr → Value → Option Addr → TS} {t : Nat → Option Bool} {m : CStm} {l : List Sui} {cl : List Clz} (ht : ∀ c b, t c = some b → PySem.W.exmOne Γ.K (.ref (Γ.ct c)) cv = some b) (hi : ∀ i, oi = some i → i ∉ fx)
      (hs : ∀ a c d, SS (Γ.with (some (a, c, d))) fx (fun _ _ _ _ => False) (ts a (.ref (Γ.ct c)) d) m) (r : SCl Γ fx l cl) : SCl Γ fx ((cv, oi, ts) :: l) ((t, oi, m) :: cl)
theorem SS.tryN {tb : WX → TS} {m : CStm} {l : List Sui} {cl : List Clz} (hx : Γ.xa = none) (hb : ∀ W', SS Γ fx W' (tb W') m) (hcl : SCl Γ fx l cl) : SS Γ fx W (fun D σ H => tb (wTry Γ.K W D l) D σ H) (cTry m cl) := by
  intro Z σ ρ H E f k
  refine hb (wTry Γ.K W E l) Z σ ρ H E f ?_
  unfold cTry at k
  revert k
  cases m ρ with
  | stuck => exact fun k => k
  | ok o ρ1 =>
    intro k
    cases o with
    | rt s =>
      obtain ⟨d, b⟩ := s
      cases b with
      | true => exact k
      | false => exact k
    | _ => exact k
  | exc c fs ρ1 =>
    intro k d σ1 H1 f1 s1 x1 xr
    show wTry Γ.K W E l (.ref (Γ.ct c)) d σ1 H1
    simp only at k
    induction hcl with
    | nil => exact k d σ1 H1 f1 s1 x1 xr
    | @cons cv oi ts t mm l cl ht hi hs r ih =>
      unfold pick at k
      cases ec : t c with
      | none => rw [ec] at k; exact k.elim
      | some b =>
        refine ⟨b, ht c b ec, fun hb a na => ?_, fun hb => ?_⟩
        · subst hb
          rw [ec] at k
          simp only at k
          have n1 := f1.noX hx
          have rx : Rep (Γ.with (some (a, c, d))) (OA Z σ1 ρ1) H1 (.ref a) (.exc c fs) := by
            cases d with
            | none =>
              have e : fs = [] := xr
              subst e
              exact .exn rfl
            | some dx =>
              obtain ⟨vs, h1, h2, h3⟩ := xr
              exact .exd rfl h1 h2 (h3.out (h3.noX hx))
          have f2 : FR (Γ.with (some (a, c, d))) Z (onS oi a σ1) (onR oi (.exc c fs) ρ1) H1 := (f1.out n1).onO rx oi
          have s2 : Step σ ρ H (onS oi a σ1) (onR oi (.exc c fs) ρ1) H1 := s1.trans (Step.onO oi)
          have x2 : Fx fx σ (onS oi a σ1) := x1.trans (Fx.onO hi)
          refine hs a c d Z _ _ H1 _ f2 ?_
          unfold leaveT at k
          revert k
          cases mm (onR oi (.exc c fs) ρ1) with
          | stuck => exact fun k => k
          | exc c' fs' ρ' => exact fun k => k.elim
          | ok o ρ2 =>
            intro k
            simp only at k
            by_cases hk : (noXo o && noXr (offR oi ρ2)) = true
            · rw [if_pos hk] at k
              obtain ⟨k1, k2⟩ := Bool.and_eq_true_iff.mp hk
              have back : ∀ {Z' : Addr → Prop} {σ' : L2.St} {H' : Hp}, FR (Γ.with (some (a, c, d))) Z' σ' ρ2 H' → FR Γ Z' (offS oi σ') (offR oi ρ2) H' := fun f' => (f'.offO oi).out (x := Γ.xa) k2
              cases o with
              | nx =>
                intro σ' H' f' s' x'
                have z := k (offS oi σ') H' (back f') (s2.trans (s'.trans (Step.offO oi))) (x2.trans (x'.trans (Fx.offO hi)))
                cases oi <;> exact z
              | bk =>
                intro σ' H' f' s' x'
                have z := k (offS oi σ') H' (back f') (s2.trans (s'.trans (Step.offO oi))) (x2.trans (x'.trans (Fx.offO hi)))
                cases oi <;> exact z
              | ct =>
                intro σ' H' f' s' x'
                have z := k (offS oi σ') H' (back f') (s2.trans (s'.trans (Step.offO oi))) (x2.trans (x'.trans (Fx.offO hi)))
                cases oi <;> exact z
              | rt s =>
                obtain ⟨dd, bb⟩ := s
                cases bb with
                | false =>
                  intro v σ' H' f' s' x' rv
                  have z := k v (offS oi σ') H' (back f') (s2.trans (s'.trans (Step.offO oi))) (x2.trans (x'.trans (Fx.offO hi))) (((Step.offO oi).rep f' rv).out (x := Γ.xa) k1)
                  cases oi <;> exact z
                | true =>
                  intro p σ' H' f' s' x' np hp rv
                  obtain ⟨_, e1, o1, o2⟩ := rv.ref
                  cases e1
                  have st : Step σ' ρ2 H' (offS oi σ') (offR oi ρ2) H' := Step.offO oi
                  have rv2 := (rv.to (st.ov f') (.inl (.inr rfl)) fun _ q => q).out (x := Γ.xa) k1
                  have z := k p (offS oi σ') H' (back f') (s2.trans (s'.trans st)) (x2.trans (x'.trans (Fx.offO hi))) np (s2.root hp) rv2
                  cases oi <;> exact z
            · rw [if_neg hk] at k
              exact k.elim
        · subst hb
          rw [ec] at k
          exact ih k
end
end VS

namespace VS
open PySem L2 PySem.Spec PyProof.Rows
/-! ### within a suite: e.f, isinstance(e, C) -/
/-- what the written part says of an exception's class -/
structure XTy (K : PySem.W.Frag) (C : Addr) : Prop where
  cl : (PySem.W.clsIn K C).isSome = true
  ga : PySem.W.findIn K (.ref C) "__getattribute__" = some (some (.builtin "BaseException.__getattribute__"))
  gg : PySem.W.findIn K (.ref C) "__getattr__" = some none
  sb : PySem.W.subIn K (.ref C) (.type "BaseException") = some true
  cc : PySem.W.findIn K (.ref C) "__class__" = some (some (.builtin "object.__class__"))
  gd : PySem.W.specialIn K (.builtin "object.__class__") "__get__" = some (some (.builtin "getset_descriptor.__get__"))
  td : PySem.W.takesIn K (.builtin "object.__class__") = some true
  ob : PySem.W.mroIn K C (.type "object") = some true
  hd : PySem.W.hasDictIn K C = true
section
variable {X : Cx} {a C : Addr} {oe : Obj} {d : Option Addr} {pn : List (Addr × Obj)}
def tXf (K : PySem.W.Frag) (a C : Addr) (d : Option Addr) (f : Str) (te : TE) : TE := fun σ H Q => te σ H fun x H1 => x = .ref a ∧ XTy K C ∧ PySem.W.findIn K (.ref C) f = some none ∧ ∃ (dd : Addr) (vs : List (Str × V)) (v : V), d = some dd ∧ H1 dd = some (.xd vs) ∧ vs.lookup f = some v ∧ Q v H1
theorem pe_xf {e : Expr} {te : TE} {f : Str} {pos : Pos} (hz : L2.Zc (.ref C) d oe) (hf : ∃ vs, oe.data = .fields vs) (he : PE (X.suite a ((a, oe) :: pn)) e te) (hb : attributeBase e f X.env (eval e X.env) = eval e X.env := by rfl) :
    PE (X.suite a ((a, oe) :: pn)) (.Attribute e f pos) (tXf X.K a C d f te) := by
  refine ⟨fun pins s σ H Q I h => ?_⟩
  refine attr_of hb (thn (he.run pins s σ H _ I h) fun u s1 hh => ?_)
  obtain ⟨x, H1, I1, rx, ex, T, nf, dd, vs, v, ed, ea, l, q⟩ := hh
  subst ex
  cases (show u = Value.ref a from rx)
  subst ed
  obtain ⟨ha, _⟩ := I1.pin (a, oe) (List.mem_append_left _ List.mem_cons_self)
  obtain ⟨ws, hd⟩ := hf
  have hx : ObjOk X.prog X.w H1 s1.heap dd (.xd vs) := I1.hok dd _ ea
  obtain ⟨mA, hns, hr⟩ := hx
  obtain ⟨od, ho, hl⟩ := lookIn_ns hns
  obtain ⟨u, hu, ru⟩ := RelO.some_of (v := v) (o := mA f) (by rw [← l]; exact hr f)
  have J : PySem.W.InstAt s1.heap a oe C (some od) := ⟨ha, hz.1, by unfold PySem.W.notCls; rw [hd] <;> rfl, by rw [hz.2]; exact ho⟩
  exact HandSPX.exc_get I1.kIn J T.ga T.gg T.sb (PySem.W.findObj_own T.hd nf rfl (by rw [hl, hu])) (handed_of ru) ⟨v, H1, I1.tok _, ru, q⟩
def rXis (K : PySem.W.Frag) (a C : Addr) (d : Option Addr) : List V → Hp → VK → Prop := fun xs H Q => XTy K C ∧ (∀ dd, d = some dd → ∃ vs, H dd = some (.xd vs)) ∧
  ((∃ (c : V) (u : Value) (b : Bool), xs = [.ref a, c] ∧ ClsV c u ∧ PySem.W.kitOne K (.ref C) u = some b ∧ Q (.bl b) H) ∨
    ∃ (tp : Addr) (cs : List V) (us : List Value) (b : Bool), xs = [.ref a, .ref tp] ∧ H tp = some (.tup cs) ∧ Paired ClsV cs us ∧ PySem.W.kitAny K (.ref C) us = some b ∧ Q (.bl b) H)
theorem call_isX (hz : L2.Zc (.ref C) d oe) (hf : ∃ vs, oe.data = .fields vs) : CallR (X.suite a ((a, oe) :: pn)) (.builtin "isinstance") (rXis X.K a C d) := by
  intro pins s σ H xs us Q I r h
  obtain ⟨T, hdd, h⟩ := h
  obtain ⟨ha, _⟩ := I.pin (a, oe) (List.mem_append_left _ List.mem_cons_self)
  obtain ⟨ws, hd⟩ := hf
  obtain ⟨od, J⟩ : ∃ od, PySem.W.InstAt s.heap a oe C od := by
    cases d with
    | none => exact ⟨none, ha, hz.1, by unfold PySem.W.notCls; rw [hd] <;> rfl, by rw [hz.2]; trivial⟩
    | some dd =>
      obtain ⟨vs, ea⟩ := hdd dd rfl
      have hx : ObjOk X.prog X.w H s.heap dd (.xd vs) := I.hok dd _ ea
      obtain ⟨mA, hns, hr⟩ := hx
      obtain ⟨od, ho, hl⟩ := lookIn_ns hns
      exact ⟨some od, ha, hz.1, by unfold PySem.W.notCls; rw [hd] <;> rfl, by rw [hz.2]; exact ho⟩
  have Z := PySem.W.kitx_exc (x := a) (ox := oe) (od := od) T.cl T.ga T.gg T.sb T.cc T.gd T.td T.ob
  rcases h with ⟨c, u, b, rfl, k, e, q⟩ | ⟨tp, cs, ws, b, rfl, hT, k, e, q⟩
  · obtain ⟨u1, u2, rfl, r1, r2⟩ := vals2 r
    cases (show u1 = Value.ref a from r1)
    have e2 := k.eq r2
    subst e2
    exact PySem.W.kia_one Z I.kIn J e (fun z => nomatch z) fun tk => ⟨.bl b, H, I.tok tk, rfl, q⟩
  · obtain ⟨u1, u2, rfl, r1, r2⟩ := vals2 r
    cases (show u1 = Value.ref a from r1)
    cases (show u2 = Value.ref tp from r2)
    obtain ⟨_, its, rv, o, h1, h2, n, h3⟩ := (show ObjOk X.prog X.w H s.heap tp (.tup cs) from I.hok tp _ hT)
    have e3 := ClsV.all k rv
    subst e3
    obtain ⟨oc, od', dt, sl⟩ := o
    simp only at h2 h3
    subst h2 h3
    exact PySem.W.kia_tup Z I.kIn J h1 e (fun z => nomatch z) fun tk => ⟨.bl b, H, I.tok tk, rfl, q⟩
end
/-! their meaning -/
def cXf (i : Nat) (f : Str) (cs : List Nat) : CExp := fun ρ => match ρ[i]? with
  | some (some (.exc c fs, _)) => if c ∈ cs then (match fs.lookup f with
    | some d => .ok (d, false) ρ
    | none => .stuck) else .stuck
  | _ => .stuck
def anyX (g : D → Option Bool) : List D → Option Bool
  | [] => some false
  | k :: r => match g k with
    | some true => some true
    | some false => anyX g r
    | none => none
def isCls : D → Bool
  | .cls _ => true
  | .ty _ => true
  | _ => false
def pXis (tb : Nat → D → Option Bool) : List D → Option Slot
  | [.exc c _, .tup (k :: ks)] => if ((k :: ks).all isCls) = true then (anyX (tb c) (k :: ks)).map fun b => (.bl b, false) else none
  | [.exc c _, k] => (tb c k).map fun b => (.bl b, false)
  | _ => none
inductive ClsD (ct : Nat → Addr) : D → Value → Prop
  | cls (c : Nat) : ClsD ct (.cls c) (.ref (ct c))
  | ty (n : String) : ClsD ct (.ty n) (.type n)
section
variable {Γ : Gm} {W : WX} {Z : Addr → Prop} {σ σ1 : L2.St} {ρ ρ1 ρ' : Sl} {H H1 : Hp} {O : Addr → Prop} {a : Addr} {c0 : Nat} {d : Option Addr}
theorem Bor.exc_inv {v : V} {c : Nat} {fs : List (Str × D)} (h : Bor Γ O H v (.exc c fs)) : ∃ a dx, Γ.xa = some (a, c, dx) ∧ v = .ref a ∧ (match dx with
    | none => fs = []
    | some dd => ∃ vs : List (Str × V), H dd = some (.xd vs) ∧ vs.map (·.1) = fs.map (·.1) ∧ Reps Γ O H (vs.map (·.2)) (fs.map (·.2))) := by
  cases h with
  | rep r =>
    cases r with
    | exn h => exact ⟨_, _, h, rfl, rfl⟩
    | exd h h1 h2 h3 => exact ⟨_, _, h, rfl, _, h1, h2, h3⟩
  | own o => cases o
theorem lookup_reps {f : Str} {x : D} : ∀ {vs : List (Str × V)} {fs : List (Str × D)}, vs.map (·.1) = fs.map (·.1) → Reps Γ O H (vs.map (·.2)) (fs.map (·.2)) → fs.lookup f = some x → ∃ v, vs.lookup f = some v ∧ Rep Γ O H v x
  | [], [], _, _, h => by cases h
  | [], _ :: _, h, _, _ => by cases h
  | _ :: _, [], h, _, _ => by cases h
  | (p, v) :: vs, (q, y) :: fs, h, r, hl => by
    simp only [List.map_cons, List.cons.injEq] at h
    obtain ⟨rfl, h⟩ := h
    cases r with
    | cons r rs =>
      rw [List.lookup_cons] at hl ⊢
      cases e : f == p with
      | true =>
        rw [e] at hl
        cases hl
        exact ⟨v, rfl, r⟩
      | false =>
        rw [e] at hl
        exact lookup_reps h rs hl
theorem SE.xf {i : Nat} {f : Str} {cs : List Nat} (hx : Γ.xa = some (a, c0, d)) (hc : ∀ c ∈ cs, XTy Γ.K (Γ.ct c) ∧ PySem.W.findIn Γ.K (.ref (Γ.ct c)) f = some none) : SE Γ W (tXf Γ.K a (Γ.ct c0) d f (tVar i)) (cXf i f cs) := by
  intro Z σ ρ H Q F k
  unfold cXf at k
  cases q : ρ[i]? with
  | none => rw [q] at k; exact k.elim
  | some w =>
    cases w with
    | none => rw [q] at k; exact k.elim
    | some sl =>
      obtain ⟨x, b⟩ := sl
      rw [q] at k
      cases x with
      | exc c fs =>
        simp only at k
        by_cases hm : c ∈ cs
        · rw [if_pos hm] at k
          cases e : fs.lookup f with
          | none => rw [e] at k; exact k.elim
          | some y =>
            rw [e] at k
            obtain ⟨v, hv, bo⟩ := F.get q
            obtain ⟨a', dx, hx', rfl, hm2⟩ := bo.exc_inv
            rw [hx] at hx'
            cases hx'
            obtain ⟨T, nf⟩ := hc _ hm
            refine ⟨_, hv, rfl, T, nf, ?_⟩
            cases d with
            | none =>
              have e0 : fs = [] := hm2
              subst e0
              cases e
            | some dd =>
              obtain ⟨vs, h1, h2, h3⟩ := hm2
              obtain ⟨v, l, r⟩ := lookup_reps h2 h3 e
              exact ⟨dd, vs, v, rfl, h1, l, k v H F Step.refl r⟩
        · rw [if_neg hm] at k
          exact k.elim
      | _ => exact k.elim
theorem ClsD.v {k : D} {u : Value} {v : V} (c : ClsD Γ.ct k u) (r : Bor Γ O H v k) : ClsV v u := by
  cases c with
  | cls c =>
    cases r with
    | rep r => cases r; exact .own _
    | own o => cases o
  | ty n =>
    cases r with
    | rep r => cases r; exact .ty _
    | own o => cases o
theorem isCls_d {k : D} (h : isCls k = true) : ∃ u, ClsD Γ.ct k u := by
  cases k with
  | cls c => exact ⟨_, .cls c⟩
  | ty n => exact ⟨_, .ty n⟩
  | _ => cases h
theorem paired_cls : ∀ {ks : List D} {vs : List V}, Reps Γ O H vs ks → (∀ k ∈ ks, isCls k = true) → ∃ us, Paired ClsV vs us
  | _, _, .nil, _ => ⟨[], .nil⟩
  | k :: ks, v :: vs, .cons r rs, hk => by
    obtain ⟨us, p⟩ := paired_cls rs fun k hk' => hk k (List.mem_cons_of_mem _ hk')
    obtain ⟨u, c⟩ := isCls_d (Γ := Γ) (hk k List.mem_cons_self)
    exact ⟨u :: us, .cons (c.v (.rep r)) p⟩
theorem anyX_kit {tb : D → Option Bool} {C : Addr} (ht : ∀ k b, tb k = some b → ∃ u, ClsD Γ.ct k u ∧ PySem.W.kitOne Γ.K (.ref C) u = some b) : ∀ {ks : List D} {vs : List V} {b : Bool}, Reps Γ O H vs ks → anyX tb ks = some b → (∀ k ∈ ks, isCls k = true) → ∃ us, Paired ClsV vs us ∧ PySem.W.kitAny Γ.K (.ref C) us = some b
  | _, _, b, .nil, h, _ => ⟨[], .nil, h⟩
  | k :: ks, v :: vs, b, .cons r rs, h, hk => by
    have hk' : ∀ k ∈ ks, isCls k = true := fun k h => hk k (List.mem_cons_of_mem _ h)
    obtain ⟨us0, p0⟩ := paired_cls rs hk'
    unfold anyX at h
    cases e : tb k with
    | none => rw [e] at h; cases h
    | some x =>
      rw [e] at h
      obtain ⟨u, c, kq⟩ := ht k x e
      cases x with
      | true =>
        cases h
        exact ⟨u :: us0, .cons (c.v (.rep r)) p0, by unfold PySem.W.kitAny; rw [kq]⟩
      | false =>
        obtain ⟨us, p, q⟩ := anyX_kit ht rs h hk'
        exact ⟨u :: us, .cons (c.v (.rep r)) p, by unfold PySem.W.kitAny; rw [kq]; exact q⟩
theorem anyX_some {g : D → Option Bool} {k : D} {ks : List D} {b : Bool} (h : anyX g (k :: ks) = some b) : ∃ x, g k = some x := by
  unfold anyX at h
  cases e : g k with
  | none => rw [e] at h; cases h
  | some x => exact ⟨x, rfl⟩
theorem pXis_form {tb : Nat → D → Option Bool} {ds : List D} {s : Slot} (e : pXis tb ds = some s) : ∃ c fs kd, ds = [.exc c fs, kd] := by
  unfold pXis at e
  split at e
  · exact ⟨_, _, _, rfl⟩
  · exact ⟨_, _, _, rfl⟩
  · cases e
theorem prXis {tb : Nat → D → Option Bool} (hx : Γ.xa = some (a, c0, d)) (ht : ∀ c k b, tb c k = some b → XTy Γ.K (Γ.ct c) ∧ ∃ u, ClsD Γ.ct k u ∧ PySem.W.kitOne Γ.K (.ref (Γ.ct c)) u = some b) : PrimR Γ (rXis Γ.K a (Γ.ct c0) d) (pXis tb) := by
  intro O H vs ds s Q m b e k
  obtain ⟨c, fs, kd, rfl⟩ := pXis_form e
  match vs, b with
  | [x, y], .cons b1 (.cons b2 .nil) =>
    obtain ⟨a', dx, hx', rfl, hm2⟩ := b1.exc_inv
    rw [hx] at hx'
    cases hx'
    have dict : ∀ dd, d = some dd → ∃ vs, H dd = some (.xd vs) := by
      rintro dd rfl
      obtain ⟨vs, h1, _⟩ := hm2
      exact ⟨vs, h1⟩
    have one : ∀ r, (tb c0 kd).map (fun b => ((.bl b, false) : Slot)) = some s → tb c0 kd = some r → rXis Γ.K a (Γ.ct c0) d [.ref a, y] H Q := by
      intro r e h
      rw [h] at e
      cases e
      obtain ⟨T, u, c, kq⟩ := ht _ _ _ h
      exact ⟨T, dict, .inl ⟨y, u, r, rfl, c.v b2, kq, k _ H (Ext.refl H) (.bl r)⟩⟩
    cases kd with
    | tup ks =>
      cases ks with
      | nil =>
        have e' : (tb c0 (.tup [])).map (fun b => ((.bl b, false) : Slot)) = some s := e
        cases h : tb c0 (.tup []) with
        | none => rw [h] at e'; cases e'
        | some r => exact one r e' h
      | cons k1 ks =>
        have e' : (if ((k1 :: ks).all isCls) = true then (anyX (tb c0) (k1 :: ks)).map (fun b => ((.bl b, false) : Slot)) else none) = some s := e
        by_cases hal : ((k1 :: ks).all isCls) = true
        · rw [if_pos hal] at e'
          cases h : anyX (tb c0) (k1 :: ks) with
          | none => rw [h] at e'; cases e'
          | some r =>
            rw [h] at e'
            cases e'
            obtain ⟨r1, h1⟩ := anyX_some h
            obtain ⟨T, _⟩ := ht _ _ _ h1
            obtain ⟨tp, us, rfl, hT, ru⟩ := b2.tup_inv
            obtain ⟨ws, p, kq⟩ := anyX_kit (C := Γ.ct c0) (fun k b h => (ht _ _ _ h).2) ru h (fun k hk => List.all_eq_true.mp hal k hk)
            exact ⟨T, dict, .inr ⟨tp, us, ws, r, rfl, hT, p, kq, k _ H (Ext.refl H) (.bl r)⟩⟩
        · rw [if_neg hal] at e'
          cases e'
    | _ =>
      cases h : tb c0 _ with
      | none => (have e' : (tb c0 _).map (fun b => ((.bl b, false) : Slot)) = some s := e); rw [h] at e'; cases e'
      | some r => exact one r e h
end
end VS

namespace VS
open PySem L2 PySem.Spec PyProof.Rows
abbrev WF0 : WX := fun _ _ _ _ => False
section
variable {X : Cx} {ct : Cn} {W : WX} {fx : List Nat} {e : Expr} {es : List Expr} {pos : Pos} {os : List Opd}
theorem ce_cls {x : Str} (c : Nat) (hg : Gl X x) (hm : X.mg x = some (.ref (ct.ct c))) (hd : (x == ("__debug__" : Str)) = false := by decide) : CE X ct W (.Name x pos) (cC (.cls c)) :=
  ce_glob (v := .ref (ct.ct c)) hg hm rfl (fun O H => .cls (Γ := Gx X ct) c) hd
theorem cs_raise {x : Str} {p pos2 : Pos} {k : Nat} {c : Nat} {fI : Addr} {ps : List Str} (T : XCls X.prog X.K (ct.ct c) fI ps) (hsu : X.mg "super" = none) (hr : Room k X.A) (hk : 1 ≤ k) (hg : Gl X x) (hm : X.mg x = some (.ref (ct.ct c))) (hc : X.calm = true) (tk : Takes X W) (ha : CA X ct W (e :: es) os)
    (hn : os.length = ps.length) (hal : allE os = true := by rfl) (hdb : (x == ("__debug__" : Str)) = false := by decide) (he : starEach (e :: es) X.env = (false, eval e X.env) :: starEach es X.env := by rfl) (hpl : (backTo pos (starEach es X.env)).any (·.1) = false := by rfl) :
    CS X ct fx W (.Raise (some (.Call (.Name x p) (e :: es) [] pos)) none pos2) (cRaise c ps os) := by
  obtain ⟨t, p1, q1⟩ := ha
  exact ⟨_, ps_raise hc tk (pmk_x T hsu (hr.mono hk) hm hg p1 hdb he hpl), SS.raise (Γ := Gx X ct) rfl q1 hal hn⟩
theorem cs_raise0 {x : Str} {p pos2 : Pos} {k : Nat} {c : Nat} {fI : Addr} (T : XCls X.prog X.K (ct.ct c) fI []) (hsu : X.mg "super" = none) (hr : Room k X.A) (hk : 1 ≤ k) (hg : Gl X x) (hm : X.mg x = some (.ref (ct.ct c))) (hc : X.calm = true) (tk : Takes X W) (hdb : (x == ("__debug__" : Str)) = false := by decide) :
    CS X ct fx W (.Raise (some (.Call (.Name x p) [] [] pos)) none pos2) (cRaise c [] []) :=
  ⟨_, ps_raise hc tk (pmk_x0 T hsu (hr.mono hk) hm hg hdb), SS.raise (Γ := Gx X ct) rfl .nil rfl rfl⟩
/-- the clauses -/
inductive CHds (X : Cx) (ct : Cn) (fx : List Nat) : List ExceptHandler → List Clz → Prop
  | nil : CHds X ct fx [] []
  | cons {x : Str} {on : Option Str} {oi : Option Nat} {cv : Value} {t : Nat → Option Bool} {m : CStm} {b₀ : Stmt} {suite : List Stmt} {np pos' : Pos} {hds : List ExceptHandler} {cl : List Clz} (hc : Names X x cv) (hn : NmOk X on oi) (hi : ∀ i, oi = some i → i ∉ fx)
      (ht : ∀ c b, t c = some b → PySem.W.exmOne X.K (.ref (ct.ct c)) cv = some b)
      (hsu : ∀ (a : Addr) (oe : Obj) (c : Nat) (d : Option Addr) (pn : List (Addr × Obj)), L2.Zc (.ref (ct.ct c)) d oe → (∃ vs, oe.data = .fields vs) → CSs (X.suite a ((a, oe) :: pn)) ⟨ct.ct, some (a, c, d)⟩ fx WF0 (b₀ :: suite) m) (r : CHds X ct fx hds cl) :
      CHds X ct fx (.ExceptHandler (some (.Name x np)) on (b₀ :: suite) pos' :: hds) ((t, oi, m) :: cl)
theorem CHds.both {hds : List ExceptHandler} {cl : List Clz} (h : CHds X ct fx hds cl) : ∃ l, Hds X hds l ∧ SCl (Gx X ct) fx l cl := by
  induction h with
  | nil => exact ⟨[], .nil, .nil⟩
  | @cons x on oi cv t m b₀ suite np pos' hds cl hc hn hi ht hsu r ih =>
    obtain ⟨l, h1, h2⟩ := ih
    refine ⟨(cv, oi, fun a cls d D σ H => ∃ c, cls = .ref (ct.ct c) ∧ ∀ t, SS ⟨X.K, ⟨ct.ct, some (a, c, d)⟩⟩ fx WF0 t m → t D σ H) :: l, .cons hc hn (fun a oe cls d pn hz hf => ⟨fun pins s σ H D I h => ?_⟩) h1, .cons ht hi (fun a c d Z σ ρ H E f k => ⟨c, rfl, fun t ht => ht Z σ ρ H E f k⟩) h2⟩
    obtain ⟨c, rfl, h⟩ := h
    obtain ⟨t, p, q⟩ := hsu a oe c d pn hz hf
    exact p.run pins s σ H D I (h t q)
theorem cs_try {body : List Stmt} {h₀ : ExceptHandler} {hds : List ExceptHandler} {m : CStm} {cl : List Clz} (hs : X.stack = X.env :: X.outer) (hf : X.env.frame = some X.env.locals) (hN : X.N.Nodup) (hx : ct.xa = none) (tk : Takes X W)
    (hb : ∀ (W' : WX) (pn : List (Addr × Obj)) (xe : Value → Shared → Prop), Takes (X.tr pn xe) W' → PassesOwn (model X.prog X.w) X.A X.env xe → CSs (X.tr pn xe) ct fx W' body m) (hh : CHds X ct fx (h₀ :: hds) cl) :
    CS X ct fx W (.Try body (h₀ :: hds) [] [] pos) (cTry m cl) := by
  obtain ⟨l, h1, h2⟩ := hh.both
  refine ⟨_, ps_tryN (tb := fun W' D σ H => ∀ t, SS (Gx X ct) fx W' t m → t D σ H) hs hf hN tk (fun W' pn xe tk' po => ⟨fun pins s σ H D I h => ?_⟩) h1, SS.tryN (Γ := Gx X ct) (tb := fun W' D σ H => ∀ t, SS (Gx X ct) fx W' t m → t D σ H) (m := m) hx (fun W' Z σ ρ H E f k t ht => ht Z σ ρ H E f k) h2⟩
  obtain ⟨t, p, q⟩ := hb W' pn xe tk' po
  exact p.run pins s σ H D I (h t q)
end
section
variable {X : Cx} {ctf : Nat → Addr} {W : WX} {fx : List Nat} {e : Expr} {es : List Expr} {pos : Pos} {os : List Opd} {a : Addr} {oe : Obj} {c : Nat} {d : Option Addr} {pn : List (Addr × Obj)}
/-- e.f in a suite -/
theorem ce_xf (i : Nat) {x f : Str} {pos1 : Pos} (cs : List Nat) (hz : L2.Zc (.ref (ctf c)) d oe) (hf : ∃ vs, oe.data = .fields vs) (hc : ∀ c ∈ cs, XTy X.K (ctf c) ∧ PySem.W.findIn X.K (.ref (ctf c)) f = some none) (hN : X.N[i]? = some x := by rfl)
    (hv : Vis X.env.scope x := by first | exact Or.inl rfl | exact Or.inr (Or.inl rfl) | exact Or.inr (Or.inr rfl)) (hd : (x == ("__debug__" : Str)) = false := by decide) (hcd : (x == ("__classdict__" : Str)) = false := by decide) (hb : attributeBase (.Name x pos1) f X.env (eval (.Name x pos1) X.env) = eval (.Name x pos1) X.env := by rfl) :
    CE (X.suite a ((a, oe) :: pn)) ⟨ctf, some (a, c, d)⟩ W (.Attribute (.Name x pos1) f pos) (cXf i f cs) :=
  ⟨_, pe_xf hz hf (pe_var hN hv hd hcd) hb, SE.xf (Γ := ⟨X.K, ⟨ctf, some (a, c, d)⟩⟩) rfl hc⟩
/-- isinstance(e, C), isinstance(e, (C, ..)) in a suite -/
theorem ce_isx {p : Pos} (tb : Nat → D → Option Bool) (hz : L2.Zc (.ref (ctf c)) d oe) (hf : ∃ vs, oe.data = .fields vs) (ht : ∀ c k b, tb c k = some b → XTy X.K (ctf c) ∧ ∃ u, ClsD ctf k u ∧ PySem.W.kitOne X.K (.ref (ctf c)) u = some b) (hg : Gl X "isinstance") (hm : X.mg "isinstance" = none)
    (ha : CA (X.suite a ((a, oe) :: pn)) ⟨ctf, some (a, c, d)⟩ W (e :: es) os) (he : starEach (e :: es) X.env = (false, eval e X.env) :: starEach es X.env := by rfl) (hpl : (backTo pos (starEach es X.env)).any (·.1) = false := by rfl) :
    CE (X.suite a ((a, oe) :: pn)) ⟨ctf, some (a, c, d)⟩ W (.Call (.Name "isinstance" p) (e :: es) [] pos) (cPrim (pXis tb) os) :=
  ce_b (X := X.suite a ((a, oe) :: pn)) (ct := ⟨ctf, some (a, c, d)⟩) (call_isX hz hf) (prXis (Γ := ⟨X.K, ⟨ctf, some (a, c, d)⟩⟩) rfl ht) hg hm (by decide +kernel) ha (by decide) (by decide) he hpl
end
end VS

namespace VS
open PySem L2
/-! ### slices -/
def cutL {α : Type} (xs : List α) (lo hi : Option Int) : List α := (xs.drop (HT.sIx xs.length 0 lo)).take (HT.sIx xs.length xs.length hi - HT.sIx xs.length 0 lo)
def whole (n : Nat) (lo hi : Option Int) : Bool := HT.sIx n 0 lo == 0 && HT.sIx n n hi == n
def pSl (lo hi : Option Int) : D → Option Slot
  | .lst xs => some (.lst (cutL xs lo hi), true)
  | .scr ns => some (.lst ((cutL ns lo hi).map D.int), true)
  | .tup xs => some (.tup (cutL xs lo hi), false)
  | .ktup xs => if whole xs.length lo hi = true then some (.ktup xs, false) else some (.tup (cutL xs lo hi), false)
  | .str z => if z.length ≤ 16777216 then some (.str (cutS z lo hi), false) else none
  | _ => none
def rSl (K : PySem.W.Frag) : V → Option Int → Option Int → Hp → VK → Prop := fun x lo hi H Q => rSlL K x lo hi H Q ∨ (rSlA K x lo hi H Q ∨ rSlS x lo hi H Q)
theorem slAny {X : Cx} : SlR X (rSl X.K) := sl_list.or (sl_tupA.or sl_str)
section
variable {Γ : Gm} {W : WX} {Z : Addr → Prop} {σ σ1 : L2.St} {ρ ρ1 ρ' : Sl} {H H1 H' : Hp} {O : Addr → Prop}
theorem Reps.cut {lo hi : Option Int} {vs : List V} {ds : List D} (r : Reps Γ O H vs ds) : Reps Γ O H (cutV vs lo hi) (cutL ds lo hi) := by
  unfold cutV cutL
  rw [r.length]
  exact (r.drop _).take _
theorem cutL_map {α β : Type} (g : α → β) (xs : List α) (lo hi : Option Int) : (cutL xs lo hi).map g = cutL (xs.map g) lo hi := by
  simp [cutL, List.map_take, List.map_drop]
theorem cutL_whole {α : Type} {xs : List α} {lo hi : Option Int} (h1 : HT.sIx xs.length 0 lo = 0) (h2 : HT.sIx xs.length xs.length hi = xs.length) : cutL xs lo hi = xs := by
  unfold cutL
  rw [h1, h2]
  simp
theorem strOk_cut {z : Str} {lo hi : Option Int} (h : PyData.strOk z = true) : PyData.strOk (cutS z lo hi) = true := by
  unfold PyData.strOk cutS at *
  rw [List.all_toArray, List.all_eq_true]
  rw [← Array.all_toList, List.all_eq_true] at h
  intro x hx
  exact h x (List.mem_of_mem_drop (List.mem_of_mem_take hx))
theorem sl_prim {lo hi : Option Int} {x : V} {d : D} {s : Slot} {Q : VK} (m : ∀ a, O a → Mut (H a)) (b : Bor Γ O H x d) (e : pSl lo hi d = some s) (k : PEnd Γ O H s Q) : rSl Γ.K x lo hi H Q := by
  cases d with
  | lst xs =>
    cases e
    obtain ⟨a, vs, rfl, h, r⟩ := b.sq
    exact .inl ⟨a, vs, rfl, h, fun p hp => new_lst m r.cut k p hp⟩
  | scr ns =>
    cases e
    obtain ⟨a, rfl, h⟩ := b.scr_inv
    refine .inl ⟨a, _, rfl, h.sq, fun p hp => new_lst m ?_ k p hp⟩
    rw [cutL_map]
    exact (ints_reps ns).cut
  | tup xs =>
    cases e
    obtain ⟨a, vs, rfl, h, r⟩ := b.tup_inv
    refine .inr (.inl ⟨a, vs, rfl, SqT.of h, fun w => ?_, fun _ p hp => new_tup m r.cut k p hp⟩)
    refine k _ H (Ext.refl H) (.tup h ?_)
    rw [cutL_whole (by rw [← r.length]; exact w.1) (by rw [← r.length]; exact w.2)]
    exact r
  | ktup xs =>
    obtain ⟨a, vs, rfl, h, r⟩ := b.ktup_inv
    refine .inr (.inl ⟨a, vs, rfl, .inr h, fun w => ?_, fun w p hp => ?_⟩)
    · have e' : (if whole xs.length lo hi = true then some ((.ktup xs, false) : Slot) else some (.tup (cutL xs lo hi), false)) = some s := e
      rw [if_pos (by unfold whole; rw [← r.length, w.1, w.2]; simp)] at e'
      cases e'
      exact k _ H (Ext.refl H) (.ktup h r)
    · have e' : (if whole xs.length lo hi = true then some ((.ktup xs, false) : Slot) else some (.tup (cutL xs lo hi), false)) = some s := e
      rw [if_neg (by unfold whole; rw [← r.length]; simpa using w)] at e'
      cases e'
      exact new_tup m r.cut k p hp
  | str z =>
    have e' : (if z.length ≤ 16777216 then some ((.str (cutS z lo hi), false) : Slot) else none) = some s := e
    by_cases hz : z.length ≤ 16777216
    · rw [if_pos hz] at e'
      cases e'
      obtain ⟨rfl, ok⟩ := b.str_inv
      exact .inr (.inr ⟨z, rfl, by rw [sizeLine_eq]; exact hz, k _ H (Ext.refl H) (.str _ (strOk_cut ok))⟩)
    · rw [if_neg hz] at e'
      cases e'
  | _ => cases e
def part (o : Option CExp) : Sl → Res (Option Int) := fun ρ => match o with
  | none => .ok none ρ
  | some m => (m ρ).bind fun s ρ' => match s.1 with
    | .int i => .ok (some i) ρ'
    | _ => .stuck
def cSl (o : Opd) (lo hi : Option CExp) : CExp := fun ρ => (evO [o] ρ).bind fun xs ρ1 => (part lo ρ1).bind fun l ρ2 => (part hi ρ2).bind fun u ρ3 => match late [o] xs ρ3 with
  | some [d] => (match pSl l u d with
    | some s => .ok s ρ3
    | none => .stuck)
  | _ => .stuck
def SP0 (Γ : Gm) (W : WX) (t : TO) : Option CExp → Prop
  | none => t = tNoPart
  | some m => ∃ te, t = tPart te ∧ SE Γ W te m
theorem SP0.run {t : TO} {o : Option CExp} (h : SP0 Γ W t o) (f : FR Γ Z σ ρ H) {Q : Option Int → Hp → Prop}
    (k : match part o ρ with
      | .ok i ρ' => ∀ H', FR Γ Z σ ρ' H' → Step σ ρ H σ ρ' H' → Q i H'
      | .exc c fs ρ' => PostX Γ Z σ ρ H c fs ρ' W
      | .stuck => False) : t σ H Q := by
  cases o with
  | none =>
    cases (show t = tNoPart from h)
    exact k H f Step.refl
  | some m =>
    obtain ⟨te, rfl, hs⟩ := h
    refine hs.val f ?_
    simp only [part] at k
    revert k
    cases m ρ with
    | ok s ρ' =>
      obtain ⟨d, b⟩ := s
      cases d with
      | int i =>
        intro k v H' f' s' r
        exact ⟨i, r.int_inv, k H' f' s'⟩
      | _ => exact fun k => k.elim
    | exc c fs ρ' => exact fun k => k
    | stuck => exact fun k => k
theorem OR.step {os : List Opd} {xs : List (Option D)} {vs : List V} (o : OR Γ Z σ ρ H os xs vs) (s : Step σ ρ H σ ρ' H') (f : FR Γ Z σ ρ H) : OR Γ Z σ ρ' H' os xs vs := by
  induction o with
  | nil => exact .nil
  | v h _ ih => exact .v h ih
  | e h _ ih => exact .e (s.rep f h) ih
theorem SE.sl {te : TE} {tl th : TO} {o : Opd} {lo hi : Option CExp} (h1 : SO Γ W te o) (h2 : SP0 Γ W tl lo) (h3 : SP0 Γ W th hi) : SE Γ W (tSl (rSl Γ.K) te tl th) (cSl o lo hi) := by
  intro Z σ ρ H Q f k
  have run : tCons te tNil σ H (fun vs H1 => match vs with | [x] => tl σ H1 fun l H2 => th σ H2 fun u H3 => rSl Γ.K x l u H3 Q | _ => False) := by
    refine (SA.cons h1 .nil).run f ?_
    unfold cSl at k
    revert k
    cases evO [o] ρ with
    | stuck => exact fun k => k
    | exc c fs ρ' => exact fun k => k
    | ok xs ρ1 =>
      intro k vs H1 f1 s1 o1
      simp only [Res.bind_ok] at k
      obtain ⟨x, rfl⟩ : ∃ x, vs = [x] := by
        cases o1 with
        | v _ r => cases r; exact ⟨_, rfl⟩
        | e _ r => cases r; exact ⟨_, rfl⟩
      refine h2.run f1 ?_
      revert k
      cases part lo ρ1 with
      | stuck => exact fun k => k
      | exc c fs ρ' => exact fun k => PostX.on s1 k
      | ok l ρ2 =>
        intro k H2 f2 s2
        simp only [Res.bind_ok] at k
        refine h3.run f2 ?_
        revert k
        cases part hi ρ2 with
        | stuck => exact fun k => k
        | exc c fs ρ' => exact fun k => PostX.on (s1.trans s2) k
        | ok u ρ3 =>
          intro k H3 f3 s3
          simp only [Res.bind_ok] at k
          cases q : late [o] xs ρ3 with
          | none => rw [q] at k; exact k.elim
          | some ds =>
            rw [q] at k
            have b := ((o1.step s2 f1).step s3 f2).late f3 q
            match ds, b with
            | [d], .cons b .nil =>
              simp only at k
              cases q2 : pSl l u d with
              | none => rw [q2] at k; exact k.elim
              | some s =>
                rw [q2] at k
                have k2 := EndV.on ((s1.trans s2).trans s3) k
                refine sl_prim f3.mu b q2 ?_
                obtain ⟨dd, bb⟩ := s
                cases bb with
                | false => exact fun v H' e r => k2 v H' (f3.ext e) e.step r
                | true =>
                  intro p H' hp e w
                  refine k2 p H' (f3.zadd e hp w.mut) e.step (fun z => f3.nfresh hp (.inl z)) (.inl hp) ?_
                  have e2 : (OA (Zadd Z p) σ ρ3) = (fun b => OA Z σ ρ3 b ∨ b = p) := by funext b; exact propext OA.zadd
                  rw [e2]
                  exact w
  exact run
end
section
open PySem.Spec PyProof.Rows
variable {X : Cx} {ct : Cn} {W : WX} {a e : Expr} {pos : Pos} {o1 : Opd}
def CP (X : Cx) (ct : Cn) (W : WX) (e : Option Expr) (m : Option CExp) : Prop := ∃ t, PO X e t ∧ SP0 (Gx X ct) W t m
theorem cp_none : CP X ct W none none := ⟨_, po_none, rfl⟩
theorem cp_some {m : CExp} (h : CE X ct W e m) : CP X ct W (some e) (some m) := by
  obtain ⟨t, p, q⟩ := h
  exact ⟨_, po_some p, t, rfl, q⟩
theorem ce_sl {lo hi : Option Expr} {l u : Option CExp} {p2 : Pos} (h1 : CO X ct W a o1) (h2 : CP X ct W lo l) (h3 : CP X ct W hi u) : CE X ct W (.Subscript a (.Slice lo hi none p2) pos) (cSl o1 l u) := by
  obtain ⟨t, p1, q1⟩ := h1
  obtain ⟨tl, pl, ql⟩ := h2
  obtain ⟨th, ph, qh⟩ := h3
  exact ⟨_, pe_slice slAny p1 pl ph, SE.sl q1 ql qh⟩
end
end VS

namespace VS
open PySem L2 PySem.Spec PyProof.Rows
/-! ### comprehensions, their parts by CE, CTs -/
section
variable {X : Cx} {ct : Cn} {W : WX} {fx : List Nat} {tg : Expr} {pos : Pos}
def tAllE (Γ : Gm) (m : CExp) : TE := fun σ H Q => ∀ t, SE Γ WF t m → t σ H Q
def tAllT (Γ : Gm) (m : CTst) : TT := fun σ H Q => ∀ t, ST Γ WF t m → t σ H Q
theorem SE.allE {Γ : Gm} {m : CExp} : SE Γ WF (tAllE Γ m) m := fun Z σ ρ H Q f k t ht => ht Z σ ρ H Q f k
theorem ST.allT {Γ : Gm} {m : CTst} : ST Γ WF (tAllT Γ m) m := fun Z σ ρ H Q f k t ht => ht Z σ ρ H Q f k
theorem ce_lcC {elt iter : Expr} {ifs : List Expr} {scope : Scope} (own : List (Str × Nat)) {it : CIt} {g : TG} {tgm : D → Sl → Option Sl} {cc : CTst} {ee : CExp} (hc : X.calm = true) (hN : X.N.Nodup) (hi : CI X ct W tg iter it) (ok : BlkOk X.N X.env.scope scope own) (hlen : LenG tgm)
    (hgs : ∀ fx', (∀ j ∈ own.map (·.2), j ∉ fx') → SG (Gx X ct) fx' g tgm) (hg : ∀ (s : Shared) (H : Hp) (C : Addr) (cl : List (Str × Addr)) (fp : List Addr), PG (X.blk s H scope (compEnvC scope cl C X.env) fp) tg g)
    (ht : ∀ (s : Shared) (H : Hp) (C : Addr) (cl : List (Str × Addr)) (fp : List Addr), CTs (X.blk s H scope (compEnvC scope cl C X.env) fp) ct WF ifs cc)
    (he : ∀ (s : Shared) (H : Hp) (C : Addr) (cl : List (Str × Addr)) (fp : List Addr), CE (X.blk s H scope (compEnvC scope cl C X.env) fp) ct WF elt ee) (hs : ∀ x, foldedSetIterable iter X.env x = pure x := by intro _; rfl) :
    CE X ct W (.ListComp elt [⟨tg, iter, ifs, 0⟩] scope pos) (cLc it tgm cc ee (own.map (·.2))) := by
  refine ce_lc own hc hN hi ok hlen hgs hg (tt := tAllT (Gx X ct) cc) (te := tAllE (Gx X ct) ee) (fun s H C cl fp => ⟨fun pins s' σ H' Q I h => ?_⟩) ST.allT (fun s H C cl fp => ⟨fun pins s' σ H' Q I h => ?_⟩) SE.allE hs
  · obtain ⟨t, p, q⟩ := ht s H C cl fp
    exact p.run pins s' σ H' Q I (h t q)
  · obtain ⟨t, p, q⟩ := he s H C cl fp
    exact p.run pins s' σ H' Q I (h t q)
theorem cs_setLcC (i : Nat) {y : Str} {py spos : Pos} {elt iter : Expr} {ifs : List Expr} {scope : Scope} (own : List (Str × Nat)) {it : CIt} {g : TG} {tgm : D → Sl → Option Sl} {cc : CTst} {ee : CExp} (hc : X.calm = true) (hN : X.N.Nodup) (hf : i ∉ fx) (hy : X.N[i]? = some y) (hyl : X.env.scope.names.lookup y = some .local)
    (hsw : swapsWith (.ListComp elt [⟨tg, iter, ifs, 0⟩] scope pos) (some (.Name y py)) spos.line X.env = pure true) (hi : CI X ct W tg iter it) (ok : BlkOk X.N X.env.scope scope own) (hlen : LenG tgm)
    (hgs : ∀ fx', (∀ j ∈ own.map (·.2), j ∉ fx') → SG (Gx X ct) fx' g tgm) (hg : ∀ (s : Shared) (H : Hp) (C : Addr) (cl : List (Str × Addr)) (fp : List Addr), PG (X.blk s H scope (compEnvC scope cl C X.env) fp) tg g)
    (ht : ∀ (s : Shared) (H : Hp) (C : Addr) (cl : List (Str × Addr)) (fp : List Addr), CTs (X.blk s H scope (compEnvC scope cl C X.env) fp) ct WF ifs cc)
    (he : ∀ (s : Shared) (H : Hp) (C : Addr) (cl : List (Str × Addr)) (fp : List Addr), CE (X.blk s H scope (compEnvC scope cl C X.env) fp) ct WF elt ee) (hs : ∀ x, foldedSetIterable iter X.env x = pure x := by intro _; rfl) :
    CS X ct fx W (.Assign [.Name y py] (.ListComp elt [⟨tg, iter, ifs, 0⟩] scope pos) spos) (cAsg i (cLc it tgm cc ee (own.map (·.2)))) := by
  refine cs_setLc i own hc hN hf hy hyl hsw hi ok hlen hgs hg (tt := tAllT (Gx X ct) cc) (te := tAllE (Gx X ct) ee) (fun s H C cl fp => ⟨fun pins s' σ H' Q I h => ?_⟩) ST.allT (fun s H C cl fp => ⟨fun pins s' σ H' Q I h => ?_⟩) SE.allE hs
  · obtain ⟨t, p, q⟩ := ht s H C cl fp
    exact p.run pins s' σ H' Q I (h t q)
  · obtain ⟨t, p, q⟩ := he s H C cl fp
    exact p.run pins s' σ H' Q I (h t q)
end
end VS

namespace VS
open PySem L2 PySem.Spec PyProof.Rows
/-! ### tables for the classes, constants of the module -/
inductive AllM (P : Nat → Prop) : List Nat → Prop
  | nil : AllM P []
  | cons {c : Nat} {l : List Nat} (h : P c) (t : AllM P l) : AllM P (c :: l)
theorem AllM.get {P : Nat → Prop} {l : List Nat} (h : AllM P l) : ∀ c ∈ l, P c := by
  induction h with
  | nil => intro c hc; cases hc
  | cons h _ ih =>
    intro c hc
    rcases List.mem_cons.mp hc with e | hc
    · subst e; exact h
    · exact ih c hc
def tblX (l : List (Nat × Bool)) (c : Nat) : Option Bool := l.lookup c
inductive AllP (P : Nat → Bool → Prop) : List (Nat × Bool) → Prop
  | nil : AllP P []
  | cons {c : Nat} {b : Bool} {l : List (Nat × Bool)} (h : P c b) (t : AllP P l) : AllP P ((c, b) :: l)
theorem AllP.tbl {P : Nat → Bool → Prop} {l : List (Nat × Bool)} (h : AllP P l) : ∀ c b, tblX l c = some b → P c b := by
  induction h with
  | nil => intro c b e; cases e
  | @cons c b l h _ ih =>
    intro c' b' e
    unfold tblX at e
    rw [List.lookup_cons] at e
    cases q : c' == c with
    | true =>
      rw [q] at e
      cases e
      rw [beq_iff_eq.mp q]
      exact h
    | false =>
      rw [q] at e
      exact ih c' b' e
def tblI (l1 : List ((Nat × Nat) × Bool)) (l2 : List ((Nat × String) × Bool)) : Nat → D → Option Bool := fun c k => match k with
  | .cls c2 => l1.lookup (c, c2)
  | .ty n => l2.lookup (c, n)
  | _ => none
inductive AllQ (K : PySem.W.Frag) (ct : Nat → Addr) : List ((Nat × Nat) × Bool) → Prop
  | nil : AllQ K ct []
  | cons {c c2 : Nat} {b : Bool} {l : List ((Nat × Nat) × Bool)} (h1 : XTy K (ct c)) (h : PySem.W.kitOne K (.ref (ct c)) (.ref (ct c2)) = some b) (t : AllQ K ct l) : AllQ K ct (((c, c2), b) :: l)
inductive AllR (K : PySem.W.Frag) (ct : Nat → Addr) : List ((Nat × String) × Bool) → Prop
  | nil : AllR K ct []
  | cons {c : Nat} {n : String} {b : Bool} {l : List ((Nat × String) × Bool)} (h1 : XTy K (ct c)) (h : PySem.W.kitOne K (.ref (ct c)) (.type n) = some b) (t : AllR K ct l) : AllR K ct (((c, n), b) :: l)
theorem isTbl {K : PySem.W.Frag} {ct : Nat → Addr} {l1 : List ((Nat × Nat) × Bool)} {l2 : List ((Nat × String) × Bool)} (h1 : AllQ K ct l1) (h2 : AllR K ct l2) : ∀ c k b, tblI l1 l2 c k = some b → XTy K (ct c) ∧ ∃ u, ClsD ct k u ∧ PySem.W.kitOne K (.ref (ct c)) u = some b := by
  have q1 : ∀ c c2 b, l1.lookup (c, c2) = some b → XTy K (ct c) ∧ PySem.W.kitOne K (.ref (ct c)) (.ref (ct c2)) = some b := by
    clear h2
    induction h1 with
    | nil => intro c c2 b e; cases e
    | @cons c c2 b l h1 h _ ih =>
      intro d d2 b' e
      rw [List.lookup_cons] at e
      cases q : ((d, d2) == (c, c2)) with
      | true =>
        rw [q] at e
        cases e
        cases beq_iff_eq.mp q
        exact ⟨h1, h⟩
      | false =>
        rw [q] at e
        exact ih d d2 b' e
  have q2 : ∀ c n b, l2.lookup (c, n) = some b → XTy K (ct c) ∧ PySem.W.kitOne K (.ref (ct c)) (.type n) = some b := by
    clear q1 h1
    induction h2 with
    | nil => intro c c2 b e; cases e
    | @cons c c2 b l h1 h _ ih =>
      intro d d2 b' e
      rw [List.lookup_cons] at e
      cases q : ((d, d2) == (c, c2)) with
      | true =>
        rw [q] at e
        cases e
        cases beq_iff_eq.mp q
        exact ⟨h1, h⟩
      | false =>
        rw [q] at e
        exact ih d d2 b' e
  intro c k b e
  cases k with
  | cls c2 =>
    obtain ⟨x, y⟩ := q1 c c2 b e
    exact ⟨x, _, .cls c2, y⟩
  | ty n =>
    obtain ⟨x, y⟩ := q2 c n b e
    exact ⟨x, _, .ty n, y⟩
  | _ => cases e
section
variable {X : Cx} {ct : Cn} {W : WX} {pos : Pos}
theorem ce_gint {x : Str} {i : Int} (hg : Gl X x) (hm : ∃ t, X.mg x = some (.int i t)) (hd : (x == ("__debug__" : Str)) = false := by decide) : CE X ct W (.Name x pos) (cC (.int i)) := by
  obtain ⟨t, hm⟩ := hm
  exact ce_glob (v := .int i) hg hm ⟨t, rfl⟩ (fun O H => .int i) hd
theorem ce_gstr {x y : Str} (hg : Gl X x) (hm : ∃ t, X.mg x = some (.str y t)) (ho : PyData.strOk y = true := by decide +kernel) (hd : (x == ("__debug__" : Str)) = false := by decide) : CE X ct W (.Name x pos) (cC (.str y)) := by
  obtain ⟨t, hm⟩ := hm
  exact ce_glob (v := .str y) hg hm ⟨t, rfl⟩ (fun O H => .str y ho) hd
end
end VS

namespace VS
open PySem L2 PySem.Spec PyProof.Rows
/-! ### def f(*xs) -/
def starF (F : CFun) : CFun := fun args => if (args.all fun s => !s.2) = true then (match F [(.tup (args.map (·.1)), false)] with
  | .ok s _ => .ok s (args.map some)
  | .exc c fs _ => .exc c fs (args.map some)
  | .stuck => .stuck) else .stuck
section
variable {Γ : Gm} {Z : Addr → Prop} {H H' : Hp} {vs : List V} {args : List Slot}
theorem noroots {σ : L2.St} (ha : (args.all fun s => !s.2) = true) (a : Addr) : ¬ roots σ (args.map some) a := by
  rintro ⟨i, d, h, _⟩
  rw [List.getElem?_map] at h
  cases q : args[i]? with
  | none => rw [q] at h; cases h
  | some s =>
    rw [q] at h
    cases h
    have := List.all_eq_true.mp ha _ (List.mem_of_getElem? q)
    cases this
theorem args_reps : ∀ {vs : List V} {args : List Slot}, (args.all fun s => !s.2) = true → vs.length = args.length → (∀ (i : Nat) d, (args.map some)[i]? = some (some (d, false)) → ∃ v, (vs.map some)[i]? = some (some v) ∧ Rep Γ Z H v d) → Reps Γ Z H vs (args.map (·.1))
  | [], [], _, _, _ => .nil
  | [], _ :: _, _, h, _ => by cases h
  | _ :: _, [], _, h, _ => by cases h
  | v :: vs, (d, b) :: args, ha, hl, h => by
    simp only [List.all_cons, Bool.and_eq_true] at ha
    obtain ⟨hb, ha⟩ := ha
    have hb' : b = false := by simpa using hb
    subst hb'
    obtain ⟨v', e, r⟩ := h 0 d rfl
    cases e
    exact .cons r (args_reps ha (by simpa using hl) fun i d' hd => h (i + 1) d' hd)
theorem star_sp {F : CFun} {n : Nat} {Q : VK} {E : XK} (h : spD Γ (starF F) n vs H Q E) (hz : n ≤ 1000) : vs.length = n ∧ ∀ p, H p = none → spD Γ F 1 [V.ref p] (upd H p (.tup vs)) Q E := by
  obtain ⟨hl, Z, args, f, k⟩ := h
  have hlen : vs.length = args.length := by simpa using f.len
  refine ⟨hl, fun p hp => ?_⟩
  unfold starF at k
  by_cases ha : (args.all fun s => !s.2) = true
  · rw [if_pos ha] at k
    have oa : ∀ a, OA Z (vs.map some) (args.map some) a ↔ Z a := fun a => ⟨fun z => z.elim id fun r => (noroots ha a r).elim, .inl⟩
    have oa' : OA Z (vs.map some) (args.map some) = Z := by funext a; exact propext (oa a)
    have r : Reps Γ Z H vs (args.map (·.1)) := args_reps ha hlen fun i d hd => by
      obtain ⟨v, e, r⟩ := f.sh i d hd
      rw [oa'] at r
      exact ⟨v, e, r⟩
    have ex : Ext H (upd H p (.tup vs)) := Ext.new hp
    have mz : ∀ a, Z a → Mut (H a) := fun a z => f.mu a (.inl z)
    have nr : ∀ (σ : L2.St) a, ¬ roots σ [some (D.tup (args.map (·.1)), false)] a := fun σ a => noroots (args := [(D.tup (args.map (·.1)), false)]) rfl a
    have f1 : FR Γ Z [some (V.ref p)] [some (D.tup (args.map (·.1)), false)] (upd H p (.tup vs)) := by
      refine ⟨rfl, fun a z => ?_, fun i d hd => ?_, fun i d hd => ?_, fun i j d e a hd => ?_, fun a _ => nr _ a⟩
      · have za : Z a := z.elim id fun r => (nr _ a r).elim
        have m := mz a za
        cases q : H a with
        | none => rw [q] at m; exact m.elim
        | some o => rw [ex.ex a o q, ← q]; exact m
      · match i with
        | 0 =>
          cases hd
          refine ⟨_, rfl, .tup upd_same ?_⟩
          have e2 : OA Z [some (V.ref p)] [some (D.tup (args.map (·.1)), false)] = Z := by
            funext a
            exact propext ⟨fun z => z.elim id fun r => (nr _ a r).elim, .inl⟩
          rw [e2]
          exact r.to (ex.ov mz)
        | _ + 1 => cases hd
      · match i with
        | 0 => cases hd
        | _ + 1 => cases hd
      · match i with
        | 0 => cases hd
        | _ + 1 => cases hd
    have f2 : FR Γ Z ([V.ref p].map some) ([((D.tup (args.map fun s : Slot => s.1)), false)].map some) (upd H p (.tup vs)) := f1
    refine ⟨rfl, Z, _, f2, ?_⟩
    have back : ∀ {as : List (Option Slot)} {H' : Hp}, Step [some (V.ref p)] [some (D.tup (args.map (·.1)), false)] (upd H p (.tup vs)) [some (V.ref p)] as H' → Ext H H' := fun st => ⟨fun a o q => st.keep a o (ex.ex a o q) (nr _ a)⟩
    revert k
    cases F [(D.tup (args.map (·.1)), false)] with
    | stuck => exact fun k => k
    | exc c fs as =>
      intro k d H' f' st x
      have e := back st
      refine k d H' (f.ext e) e.step ?_
      rw [oa']
      cases d with
      | none => exact x
      | some dx =>
        obtain ⟨ws, h1, h2, h3⟩ := x
        exact ⟨ws, h1, h2, h3.to ⟨fun a _ _ z => .inl z, f'.mu, fun _ _ h _ => h⟩⟩
    | ok s as =>
      obtain ⟨d, b⟩ := s
      cases b with
      | false =>
        intro k v H' f' st x
        have e := back st
        refine k v H' (f.ext e) e.step ?_
        rw [oa']
        exact x.to ⟨fun a _ _ z => .inl z, f'.mu, fun _ _ h _ => h⟩
      | true =>
        intro k a H' f' st nz hr ow
        have e := back st
        have ha0 : H a = none := by
          rcases hr with h | h
          · by_cases ep : a = p
            · rw [ep]; exact hp
            · rw [upd_ne ep] at h; exact h
          · exact (nr _ a h).elim
        refine k a H' (f.zadd e ha0 ow.mut) e.step nz (.inl ha0) ?_
        refine ow.to ⟨fun b _ _ z => ?_, f'.mu, fun _ _ h _ => h⟩ (.inl (.inr rfl)) fun _ h => h
        exact z.elim .inl fun r => (noroots ha b r).elim
  · rw [if_neg ha] at k
    exact k.elim
end
theorem fn_mkS {P : Program} {w : World} {K : PySem.W.Frag} {mg : Str → Option Value} {base : Heap} {ct : Cn} {x : Str} {st : Stmt} {f : Addr} {fd : FuncData} {N : List Str} {pv : Str} {k n : Nat} (fx : List Nat) {m : CStm} (F : L2.Fun K x x st f fd) (S : FnScope N [pv] (defScope st)) (hm : mg x = some (.ref f)) (hn : n ≤ 1000)
    (hb : ∀ rest : List Value, bindArgs fd ⟨rest, []⟩ = (newTuple rest >>= fun t => pure [(pv, t)]))
    (body : ∀ (cdv : Value) (A : Around) (outer : List Env) (s : Shared) (H : Hp) (E : XK), Room k (A.deeper (envOfC x (defScope st) s.heap.objs.size f cdv)) →
      Takes (cxOf (L2.CX P w) P w K mg base N x (defScope st) f cdv A outer s H E) (fun cls d _ H => E cls d H) →
      PassesOwn (model P w) (cxOf (L2.CX P w) P w K mg base N x (defScope st) f cdv A outer s H E).A (cxOf (L2.CX P w) P w K mg base N x (defScope st) f cdv A outer s H E).env (cxOf (L2.CX P w) P w K mg base N x (defScope st) f cdv A outer s H E).xe →
      (cxOf (L2.CX P w) P w K mg base N x (defScope st) f cdv A outer s H E).A.units + 65 < cLine →
      CSs (cxOf (L2.CX P w) P w K mg base N x (defScope st) f cdv A outer s H E) ct fx (fun cls d _ H => E cls d H) (defBody st) m) : Fn P w K mg base ct (k + 1) x n (starF (bodyF fx N.length m)) := by
  refine ⟨f, ?_, hm, F.kp⟩
  obtain ⟨oc, od, kV, doc, pm, an, cdv, ct', osl, rfl, lk, hcd⟩ := F.ex
  have G := StX.fn_star (P := P) (w := w) (mg := mg) (base := base) (k := k) (ps := []) (pv := pv) (sp := spD ⟨K, ct⟩ (bodyF fx N.length m) 1) lk hcd S (StX.cxUp (P := P) (w := w)) (fun us rest hu => by
    cases us with
    | nil => exact hb rest
    | cons _ _ => cases hu) fun A outer s H vs Q E hr h => by
    obtain ⟨t, p, q⟩ := body cdv A outer s H E hr (takes_of rfl rfl rfl rfl) (passes_of rfl) (by have := hr.un; show (A.deeper _).units + 65 < cLine; omega)
    exact ⟨t, p, def_ok q h⟩
  refine G.imp fun vs H Q E h => ?_
  obtain ⟨hl, h⟩ := star_sp h hn
  exact ⟨[], vs, rfl, rfl, by rw [hl]; exact Nat.le_trans hn (by decide), h⟩
end VS

namespace PySem
open PySem.W
set_option maxHeartbeats 1000000 in
theorem vs_enum_new {v : Value} {o : Obj} {H : Heap → Prop} (B : Begins v o H) :
    Meets (Builtin.«enumerate.__new__» ⟨[.type "enumerate", v], []⟩) (fun _ R s => H s.heap ∧
      R (.ok (.ret (.ref (s.heap.push o).objs.size))) { s with heap := (s.heap.push o).push { cls := .type "enumerate", data := .fields #[.none, .bool false, .ref s.heap.objs.size, rawInt 0, .none, .none] } }) :=
  .of_wp fun prog w A R s h => by
    obtain ⟨hp, g, d, tk, os⟩ := s
    obtain ⟨h1, h⟩ := h
    have hsub := sub_enumerate
    have q1 : ∀ {A' : Around} {E : Value → Shared → Prop} {Q : Value → Shared → Prop}, Q (.ref hp.objs.size) ⟨hp.push o, g, d, tk, os⟩ → wpAny (model prog w) A' (pyIter v) Q E ⟨hp, g, d, tk, os⟩ :=
      fun q => B.iter prog w _ _ ⟨hp, g, d, tk, os⟩ _ h1 q
    wp_walk using q1
    refine wpAny_stack_any fun st => wpAny_pure ?_
    split
    · rename_i c _ _ _ _ _
      cases (c == Value.type "enumerate")
      · wp_walk using q1
        exact ⟨_, rfl, h⟩
      · wp_walk using q1
        exact ⟨_, rfl, h⟩
    · wp_walk using q1
      exact ⟨_, rfl, h⟩
theorem vs_enum_call {prog : Program} {w : World} {A : Around} {E : Value → Shared → Prop} {s : Shared} {v : Value} {o : Obj} {H : Heap → Prop} {Q : Value → Shared → Prop} (B : Begins v o H) (h1 : H s.heap)
    (h : ∀ h', IsEnum h' (s.heap.objs.size + 1) s.heap.objs.size 0 .none → h'.get? s.heap.objs.size = some o → (∀ b o, s.heap.get? b = some o → h'.get? b = some o) → Q (.ref (s.heap.objs.size + 1)) { s with heap := h' }) :
    wpAny (model prog w) A (call (.type "enumerate") [v]) Q E s := by
  refine callType_new F.called_enumerate (by decide) (F.typeCall_enumerate_1 _) (F.newCall_enumerate_1 _) (fun obj => F.args_object_init_2 obj _) F.entry_enumerate_new (vs_enum_new B) ⟨h1, ?_⟩
  have hz : (s.heap.push o).objs.size = s.heap.objs.size + 1 := Heap.size_push ..
  show _ ∧ _
  rw [hz]
  have he : IsEnum ((s.heap.push o).push { cls := .type "enumerate", data := .fields #[.none, .bool false, .ref s.heap.objs.size, rawInt 0, .none, .none] }) (s.heap.objs.size + 1) s.heap.objs.size 0 .none := by
    have z := Heap.get?_push_size (s.heap.push o) (o := { cls := .type "enumerate", data := .fields #[.none, .bool false, .ref s.heap.objs.size, rawInt 0, .none, .none] }) rfl
    rw [hz] at z
    exact z
  exact ⟨⟨_, he, rfl⟩, h _ he (Heap.get?_push_of_some _ (Heap.get?_push_size _ B.free)) fun b o x => Heap.get?_push_of_some _ (Heap.get?_push_of_some _ x)⟩
end PySem
namespace VS
open PySem L2 PySem.Spec PyProof.Rows
/-- enumerate over a tuple -/
def IteT (K : PySem.W.Frag) (a : Addr) : It :=
  ⟨fun i H => ∃ (xs : List V) (x : V), SqT K H a xs ∧ xs[i]? = some x, fun i H v H' => ∃ T x, v = .ref T ∧ H T = none ∧ H' = upd H T (.tup [.int (i : Nat), x]) ∧ ∀ xs, SqT K H a xs → xs[i]? = some x, fun i H => ∃ xs : List V, SqT K H a xs ∧ xs.length = i⟩
theorem turn_enumT {P : Program} {w : World} {K : PySem.W.Frag} {elts : List Expr} {kk : Nat} {tpos : Pos} (a e it : Addr) :
    Turn P w K (.Tuple elts kk tpos) (IteT K a) [e, it] e (fun i h => (∃ old, IsEnum h e it ((i : Nat) : Int) old) ∧ h.IsTupleIter it a i ∧ e ≠ it) where
  mem := by simp
  obj := fun i h st b hb => by
    obtain ⟨⟨old, he⟩, ⟨o, ho, hc, hd⟩, _⟩ := st
    rcases (show b = e ∨ b = it by simpa using hb) with z | z
    · rw [z]; exact ⟨_, he, fun v q => nomatch q⟩
    · rw [z]; exact ⟨o, ho, fun v q => by rw [hd] at q; cases q⟩
  keep := fun i h h' st k => by
    obtain ⟨⟨old, he⟩, ⟨o, ho, hc, hd⟩, hne⟩ := st
    exact ⟨⟨old, k e (by simp) _ he⟩, ⟨o, k it (by simp) _ ho, hc, hd⟩, hne⟩
  item := by
    intro X hP hw hK hc i pins s σ H E I hf st hg
    subst hP hw hK
    obtain ⟨⟨old, he⟩, hit, hne⟩ := st
    obtain ⟨xs, x, hq, hx⟩ := hg
    obtain ⟨its, rv, ⟨ot, p1, p2, p3⟩, hz⟩ := I.tuple hq
    obtain ⟨u, hu, ru⟩ := rv.get hx
    have hel : e < s.heap.objs.size := Heap.lt_size he
    have hil : it < s.heap.objs.size := by obtain ⟨_, q, _⟩ := hit; exact Heap.lt_size q
    have nae : a ≠ e := by
      rintro rfl
      have z : s.heap.get? a = _ := he
      rw [p1] at z
      cases z
      exact absurd (show Value.type "enumerate" = Value.type "tuple" from p2) (by decide)
    have nai : a ≠ it := by
      rintro rfl
      obtain ⟨o, q, c, _⟩ := hit
      rw [p1] at q
      cases q
      rw [p2] at c
      exact absurd c (by decide)
    have hlt : i < its.toArray.size := by
      have := (List.getElem?_eq_some_iff.mp hu).1
      simpa using this
    refine wpAny_pyNext_enum_itemD (Draws.tuple (A := X.A.in1) (I.ok.hd hc) it a nai its.toArray) he ⟨hit, ot, p1, p2, p3⟩ hlt hne (by simp [hne, Ne.symm nae]) fun x' h' tk px ho st' hT hsz hk => ?_
    have ex : x' = u := by
      have px' : its.toArray[i]? = some x' := px
      rw [List.getElem?_toArray, hu] at px'
      exact (Option.some.inj px').symm
    subst ex
    refine ⟨_, rfl, wpAny_letOwnedTupleGo_enum (s := { s with heap := h', toks := tk + 1 }) ho fun h'' he' sb => ?_⟩
    have hT2 : h''.get? s.heap.objs.size = some { cls := .type "tuple", data := .seq #[.int i tk, x'] } := (sb.2 _ (Nat.ne_of_gt hel)).trans hT
    have new : ObjOk X.prog X.w (upd H s.heap.objs.size (.tup [.int (i : Nat), x])) h'' s.heap.objs.size (.tup [.int (i : Nat), x]) :=
      ⟨by show 2 ≤ sizeLine; decide, [.int i tk, x'], .cons ⟨_, rfl⟩ (.cons ru .nil), ⟨_, hT2, rfl, _, rfl⟩⟩
    have I1 : L2.Inv X pins σ (upd H s.heap.objs.size (.tup [.int (i : Nat), x])) { s with heap := h'', toks := tk + 1 } :=
      I.turnedNew (ch := [e, it]) (fun b ob hb q => (sb.2 b (fun z => hb (by simp [z]))).trans (hk b ob (fun z => hb (by simp [z])) (fun z => hb (by simp [z])) q)) hf (Nat.le_refl _) new
    refine ⟨.ref s.heap.objs.size, _, I1, rfl, ⟨_, x, rfl, I.hok.fresh (Nat.le_refl _), rfl, fun ys hy => by rw [I.tuple_inj hy hq]; exact hx⟩, ⟨⟨x', ?_⟩, ?_, hne⟩, fun b hb => ?_⟩
    · have e1 : ((i + 1 : Nat) : Int) = (i : Int) + 1 := by omega
      rw [e1]
      exact he'
    · obtain ⟨⟨o, q, c, d⟩, _⟩ := st'
      exact ⟨o, (sb.2 it (Ne.symm hne)).trans q, c, d⟩
    · have hb' : b < s.heap.objs.size := by
        rcases (show b = e ∨ b = it by simpa using hb) with z | z
        · rw [z]; exact hel
        · rw [z]; exact hil
      rw [upd_ne (Nat.ne_of_lt hb')]
      exact (hf b hb).1
  done := by
    intro X hP hw hK hc i pins s σ H E I hf st hg
    subst hP hw hK
    obtain ⟨⟨old, he⟩, hit, hne⟩ := st
    obtain ⟨xs, hq, hx⟩ := hg
    obtain ⟨its, rv, ⟨ot, p1, p2, p3⟩, hz⟩ := I.tuple hq
    obtain ⟨f0, f1, f2, f3, f4, f5⟩ := hf it (by simp)
    have hl := rv.length
    have nai : a ≠ it := by
      rintro rfl
      obtain ⟨o, q, c, _⟩ := hit
      rw [p1] at q
      cases q
      rw [p2] at c
      exact absurd c (by decide)
    have en : i = its.toArray.size := by simp; omega
    refine wpAny_pyNext_enum_endD (Draws.tuple (A := X.A.in1) (I.ok.hd hc) it a nai its.toArray) he ⟨by rw [← en]; exact hit, ot, p1, p2, p3⟩ fun h' eb => ⟨rfl, I.turned (t' := s.toks) (fun b o hb q => eb b o hb q) f0 f1 f3 f4 f5⟩
  self := fun A i s Q E st h => let ⟨⟨_, he⟩, _⟩ := st; wpAny_pyIter_enum he h
def iEnumA (K : PySem.W.Frag) (ta : TA) : TI := fun σ H R => ta σ H fun vs H1 => ∃ a, vs = [.ref a] ∧ ((∃ xs, SqL K H1 a xs ∧ R (Ite K a) H1) ∨ ∃ xs, SqT K H1 a xs ∧ R (IteT K a) H1)
theorem pi_enumA {X : Cx} {e : Expr} {ta : TA} {p pos tpos : Pos} {elts : List Expr} {kk : Nat} (hg : Gl X "enumerate") (hm : X.mg "enumerate" = none) (ha : PA X [e] ta) (hs : starEach [e] X.env = [(false, eval e X.env)] := by rfl) :
    PI X (.Tuple elts kk tpos) (.Call (.Name "enumerate" p) [e] [] pos) (iEnumA X.K ta) := by
  refine ⟨fun pins s σ H R I h => ?_⟩
  refine Call_ (ld_blt I hg hm boot_enumerate (PyProof.Rows.callWith_type1 (thn (ha.run pos pins s σ H _ I h) fun us s1 ⟨vs, H1, I1, r1, q1⟩ => ?_) hs rfl))
  obtain ⟨a, ex, q⟩ := q1
  subst ex
  have fresh : ∀ b ∈ [s1.heap.objs.size + 1, s1.heap.objs.size], s1.heap.objs.size ≤ b := fun b hb => by
    rcases (show b = s1.heap.objs.size + 1 ∨ b = s1.heap.objs.size by simpa using hb) with z | z
    · rw [z]; exact Nat.le_add_right _ _
    · rw [z]; exact Nat.le_refl _
  cases r1 with
  | cons r rr =>
    cases rr
    cases r
    rcases q with ⟨xs, hq, q⟩ | ⟨xs, hq, q⟩
    · obtain ⟨its, rv, p', hz⟩ := I1.list hq
      refine vs_enum_call (PySem.begins_list a its.toArray) p'.isList fun h' he hit hk => wpAny_pyIter_enum he ?_
      have I2 : L2.Inv X pins σ H1 { s1 with heap := h' } := I1.kept (t' := s1.toks) hk
      exact ⟨s1.heap.objs.size + 1, [s1.heap.objs.size + 1, s1.heap.objs.size], _, _, H1, rfl, I2, turn_enum a (s1.heap.objs.size + 1) s1.heap.objs.size, ⟨⟨.none, he⟩, ⟨_, hit, rfl, rfl⟩, Nat.succ_ne_self _⟩, fun b hb => I1.fpOk (fresh b hb) (I1.hok.fresh (fresh b hb)), q⟩
    · obtain ⟨its, rv, p', hz⟩ := I1.tuple hq
      refine vs_enum_call (PySem.begins_tuple a its.toArray) p' fun h' he hit hk => wpAny_pyIter_enum he ?_
      have I2 : L2.Inv X pins σ H1 { s1 with heap := h' } := I1.kept (t' := s1.toks) hk
      exact ⟨s1.heap.objs.size + 1, [s1.heap.objs.size + 1, s1.heap.objs.size], _, _, H1, rfl, I2, turn_enumT a (s1.heap.objs.size + 1) s1.heap.objs.size, ⟨⟨.none, he⟩, ⟨_, hit, rfl, rfl⟩, Nat.succ_ne_self _⟩, fun b hb => I1.fpOk (fresh b hb) (I1.hok.fresh (fresh b hb)), q⟩
end VS

namespace VS
open PySem L2 PySem.Spec PyProof.Rows
def enumD : Nat → List D → List D
  | _, [] => []
  | n, d :: r => .tup [.int n, d] :: enumD (n + 1) r
theorem enumD_len : ∀ (n : Nat) (ds : List D), (enumD n ds).length = ds.length
  | _, [] => rfl
  | n, d :: r => by simp [enumD, enumD_len (n + 1) r]
theorem enumD_at : ∀ {n i : Nat} {ds : List D} {x : D}, (enumD n ds)[i]? = some x → ∃ d, ds[i]? = some d ∧ x = .tup [.int ((n + i : Nat) : Int), d]
  | n, i, [], x, h => by simp [enumD] at h
  | n, 0, d :: r, x, h => by
    simp [enumD] at h
    exact ⟨d, rfl, h.symm⟩
  | n, i + 1, d :: r, x, h => by
    simp only [enumD, List.getElem?_cons_succ] at h
    obtain ⟨y, e1, e2⟩ := enumD_at h
    refine ⟨y, by simpa using e1, ?_⟩
    rw [e2]
    have : n + 1 + i = n + (i + 1) := by omega
    rw [this]
def cItE (m : CExp) : CIt := fun ρ => (m ρ).bind fun s ρ1 => match s.1 with
  | .lst xs => .ok (enumD 0 xs) ρ1
  | .scr ns => .ok (enumD 0 (ns.map D.int)) ρ1
  | .tup xs => .ok (enumD 0 xs) ρ1
  | .ktup xs => .ok (enumD 0 xs) ρ1
  | _ => .stuck
section
variable {Γ : Gm} {W : WX} {Z : Addr → Prop} {σ σ1 : L2.St} {ρ ρ1 ρ' : Sl} {H H1 : Hp} {O : Addr → Prop}
theorem pair_rep {i : Nat} {x : V} {d : D} {T : Addr} (m : ∀ a, O a → Mut (H a)) (hT : H T = none) (r : Rep Γ O H x d) : Ext H (upd H T (.tup [.int (i : Nat), x])) ∧ Rep Γ O (upd H T (.tup [.int (i : Nat), x])) (.ref T) (.tup [.int ((0 + i : Nat) : Int), d]) := by
  have ex : Ext H (upd H T (.tup [.int (i : Nat), x])) := Ext.new hT
  refine ⟨ex, .tup upd_same (.cons ?_ (.cons (r.to (ex.ov m)) .nil))⟩
  rw [Nat.zero_add]
  exact .int _
theorem wk_enumL {a : Addr} {ds : List D} : Wk Γ (Ite Γ.K a) (fun O H => ∃ vs, SqL Γ.K H a vs ∧ Reps Γ O H vs ds ∧ (H a = some (.lst vs) ∧ ¬ O a ∨ ∃ ns, Scr Γ.K H a ns ∧ vs = ns.map V.int)) (enumD 0 ds) where
  pres := fun O O' H H' ⟨vs, h1, h2, h3⟩ ov => by
    rcases h3 with ⟨h3, n⟩ | ⟨ns, h3, rfl⟩
    · exact ⟨vs, SqL.of (ov.keep a _ h3 n), h2.to ov, .inl ⟨ov.keep a _ h3 n, ov.not h3 n⟩⟩
    · exact ⟨_, (ov.scr h3).sq, h2.to ov, .inr ⟨ns, ov.scr h3, rfl⟩⟩
  item := fun O H i d m ⟨vs, h1, h2, _⟩ hd => by
    obtain ⟨y, e0, rfl⟩ := enumD_at hd
    obtain ⟨v, e1, r⟩ := h2.get e0
    refine ⟨⟨vs, v, h1, e1⟩, fun x H' hy => ?_⟩
    obtain ⟨T, x', rfl, hT, rfl, hx⟩ := hy
    have := hx vs h1
    rw [e1] at this
    cases this
    exact pair_rep m hT r
  done := fun O H ⟨vs, h1, h2, _⟩ => ⟨vs, h1, by rw [h2.length, enumD_len]; exact Nat.le_refl _⟩
theorem wk_enumT {a : Addr} {ds : List D} : Wk Γ (IteT Γ.K a) (fun O H => ∃ vs, (H a = some (.tup vs) ∨ KT Γ.K a vs) ∧ Reps Γ O H vs ds) (enumD 0 ds) where
  pres := fun O O' H H' ⟨vs, h1, h2⟩ ov => ⟨vs, h1.imp (fun h => ov.tup h) id, h2.to ov⟩
  item := fun O H i d m ⟨vs, h1, h2⟩ hd => by
    have sq : SqT Γ.K H a vs := h1.elim SqT.of .inr
    obtain ⟨y, e0, rfl⟩ := enumD_at hd
    obtain ⟨v, e1, r⟩ := h2.get e0
    refine ⟨⟨vs, v, sq, e1⟩, fun x H' hy => ?_⟩
    obtain ⟨T, x', rfl, hT, rfl, hx⟩ := hy
    have := hx vs sq
    rw [e1] at this
    cases this
    exact pair_rep m hT r
  done := fun O H ⟨vs, h1, h2⟩ => ⟨vs, h1.elim SqT.of .inr, by rw [h2.length, enumD_len]⟩
theorem SI.enum {tl : TE} {m : CExp} (h : SE Γ W tl m) : SI Γ W (iEnumA Γ.K (tCons tl tNil)) (cItE m) := by
  intro Z σ ρ H R F k
  refine h.val F ?_
  unfold cItE at k
  revert k
  cases m ρ with
  | exc c fs ρ' => exact fun k => k
  | stuck => exact fun k => k
  | ok s ρ1 =>
    obtain ⟨d, b⟩ := s
    cases d with
    | lst xs =>
      intro k v H1 f1 s1 r
      cases r with
      | @lst a vs _ h n r => exact ⟨a, rfl, .inl ⟨vs, SqL.of h, k _ _ H1 f1 s1 wk_enumL ⟨vs, SqL.of h, r, .inl ⟨h, n⟩⟩⟩⟩
    | scr ns =>
      intro k v H1 f1 s1 r
      cases r with
      | @scr a _ h =>
        exact ⟨a, rfl, .inl ⟨_, h.sq, k _ _ H1 f1 s1 wk_enumL ⟨_, h.sq, ints_reps ns, .inr ⟨ns, h, rfl⟩⟩⟩⟩
    | tup xs =>
      intro k v H1 f1 s1 r
      cases r with
      | @tup a vs _ h r => exact ⟨a, rfl, .inr ⟨vs, SqT.of h, k _ _ H1 f1 s1 wk_enumT ⟨vs, .inl h, r⟩⟩⟩
    | ktup xs =>
      intro k v H1 f1 s1 r
      cases r with
      | @ktup a vs _ h r => exact ⟨a, rfl, .inr ⟨vs, .inr h, k _ _ H1 f1 s1 wk_enumT ⟨vs, .inr h, r⟩⟩⟩
    | _ => exact fun k => k.elim
end
theorem ci_enum {X : Cx} {ct : Cn} {W : WX} {e : Expr} {m : CExp} {p pos tpos : Pos} {elts : List Expr} {kk : Nat} (hg : Gl X "enumerate") (hm : X.mg "enumerate" = none) (h : CE X ct W e m) (hs : starEach [e] X.env = [(false, eval e X.env)] := by rfl) :
    CI X ct W (.Tuple elts kk tpos) (.Call (.Name "enumerate" p) [e] [] pos) (cItE m) := by
  obtain ⟨t, p1, q1⟩ := h
  exact ⟨_, pi_enumA hg hm (pa_cons p1 pa_nil hs) hs, SI.enum q1⟩
end VS

namespace VS
open PySem PySem.Spec PySem.W PySem.Calls PyProof.Rows PySem.HandSPX
/-! ### the head's facts of the exceptions -/
/-- the text of an exception's __init__ -/
structure XTxt (st : Stmt) (ps : List Str) : Prop where
  hd : ∃ ar, ((L2.defArgs st).posonlyargs ++ (L2.defArgs st).args).head? = some ar ∧ ar.arg = "self"
  xi : XInit (L2.defBody st) ps
  bi : ∀ (qn : Str) (doc pm : Value) (an : Option Addr) (cd ct : Value) (cc : Addr) (s : Shared) (us : List Value), us.length = ps.length + 1 → BindsTo s (ksFn "__init__" qn (L2.defArgs st) (L2.defBody st) (L2.defScope st) .none .none doc pm an cd ct cc) ⟨us, []⟩ ((("self" : Str) :: ps).zip us)
  ce : ∀ x ∈ (L2.defScope st).names, x.2 ≠ .cell
  co : (L2.defScope st).isCoroutine = false
  ge : (L2.defScope st).isGenerator = false
  ki : (L2.defScope st).kind = .function
  su : (L2.defScope st).names.lookup ("super" : Str) = some .globalImplicit
  cl : (L2.defScope st).names.lookup ("__class__" : Str) = some .free
  lo : ∀ p ∈ ("self" : Str) :: ps, (L2.defScope st).names.lookup p = some .local
  nd : (("self" : Str) :: ps).Nodup
  few : ps.length ≤ 900
theorem xcls_mk {P : Program} {K : Frag} {C fI B N cda cc : Addr} {st : Stmt} {ps : List Str} {nm q qn file : Str} {bs sub : List Value} {sn : List Str} {ab : Bool} {col : Option Bool} {dd od an cdd cld : Option Addr} {k0 k1 k2 k3 k5 : Option Value} {oc doc pm ct ccl cl : Value} {osl ccs csl : Array (Option Value)} {vs : Array Value} {tf : Tok} (S : XTxt st ps)
    (xl : K.lookup C = some (excClassObj nm q C N bs (.ref B :: veTail) true sn sub ab col dd k0 k1 k2 k3 k5 "ValueError.__new__")) (sa : findIn K (.ref C) "__setattr__" = some (some (.builtin "object.__setattr__"))) (iC : findIn K (.ref C) "__init__" = some (some (.ref fI))) (tC : typeIn K (.ref fI) = some (.type "function"))
    (kC : keepIn K (.ref C) = true) (xC : subIn K (.ref C) (.type "BaseException") = some true) (yC : typeIn K (.ref C) = some (.type "type")) (nF : ∀ p ∈ ps, findIn K (.ref C) p = some none) (sp : ks_superIn K C C "__init__" = some (some (.builtin "ValueError.__init__"))) (op : nsIn K cStatics "thirdparty.any" = some none)
    (ow : mroIn K C (.ref C) = some true) (vE : subIn K (.ref C) (.type "ValueError") = some true) (tp : (P.main.scope.names.lookup ("super" : Str)).isSome = false)
    (lI : K.lookup fI = some ⟨oc, od, .func (ksFn "__init__" qn (L2.defArgs st) (L2.defBody st) (L2.defScope st) .none .none doc pm an (.ref cda) ct cc), osl⟩) (cI : codeIn K (.ref cda) qn = true) (dI : K.lookup cda = some ⟨ccl, cdd, .fields vs, ccs⟩) (vI : vs[2]? = some (.str file tf)) (gI : ((P.main.file : Str) == file) = true)
    (eI : K.lookup cc = some ⟨cl, cld, .cell (some (.ref C)), csl⟩) : XCls P K C fI ps := by
  obtain ⟨ar, h1, h2⟩ := S.hd
  exact { cls := ⟨nm, q, N, bs, _, sn, sub, ab, col, dd, k0, k1, k2, k3, k5, xl, rfl⟩, sa := sa, iC := iC, tC := tC, kC := kC, exC := xC, tyC := yC, noF := nF, sup := sp, opq := op, own := ow, vE := vE, top := tp,
          fn := ⟨qn, _, _, _, oc, doc, pm, ct, ccl, cl, od, an, cdd, cld, cda, cc, osl, ccs, csl, vs, file, tf, ar, lI, cI, dI, vI, gI, eI, h1, h2, S.xi, fun s us hu => S.bi _ _ _ _ _ _ _ s us hu, S.ce, S.co, S.ge, S.ki, S.su, S.cl, S.lo⟩, nd := S.nd, few := S.few }
theorem xty_mk {K : Frag} {C N : Addr} {nm q : Str} {bs bm sub : List Value} {sn : List Str} {ab : Bool} {col : Option Bool} {dd : Option Addr} {k0 k1 k2 k3 k5 : Option Value} {nw : String}
    (xl : K.lookup C = some (excClassObj nm q C N bs bm true sn sub ab col dd k0 k1 k2 k3 k5 nw)) (ga : findIn K (.ref C) "__getattribute__" = some (some (.builtin "BaseException.__getattribute__"))) (gg : findIn K (.ref C) "__getattr__" = some none) (xC : subIn K (.ref C) (.type "BaseException") = some true)
    (cc : findIn K (.ref C) "__class__" = some (some (.builtin "object.__class__"))) (gd : specialIn K (.builtin "object.__class__") "__get__" = some (some (.builtin "getset_descriptor.__get__"))) (td : takesIn K (.builtin "object.__class__") = some true) (ob : mroIn K C (.type "object") = some true) (hd : hasDictIn K C = true) : XTy K C := by
  refine ⟨?_, ga, gg, xC, cc, gd, td, ob, hd⟩
  have hcl : clsIn K C = some { name := nm, bases := bs, mro := .ref C :: bm, ns := N, qualname := q, hasDict := true, slotNames := sn, subclasses := sub, abstract := ab, collection := col, hasDel := false } := by unfold clsIn; rw [xl] <;> rfl
  rw [hcl]
  rfl
def ctOf (l : List Addr) (c : Nat) : Addr := l.getD c 0
theorem all_nil {P : Str → Prop} : ∀ p ∈ ([] : List Str), P p := fun _ h => by cases h
theorem all_cons {P : Str → Prop} {x : Str} {l : List Str} (h : P x) (t : ∀ p ∈ l, P p) : ∀ p ∈ x :: l, P p := fun p hp => by
  rcases List.mem_cons.mp hp with e | e
  · rw [e]; exact h
  · exact t p e
theorem star_bind {B : List Value → Sem (List (Str × Value))} {pv : Str} (h0 : B [] = (newTuple [] >>= fun t => pure [(pv, t)])) (h1 : ∀ r rs, B (r :: rs) = (newTuple (r :: rs) >>= fun t => pure [(pv, t)])) : ∀ rest, B rest = (newTuple rest >>= fun t => pure [(pv, t)])
  | [] => h0
  | r :: rs => h1 r rs
end VS

namespace VS
open PySem L2
/-! ### more for simp -/
@[simp] theorem e_part_n (ρ : Sl) : part none ρ = .ok none ρ := rfl
@[simp] theorem e_part_s (m : CExp) (ρ : Sl) : part (some m) ρ = (m ρ).bind fun s ρ' => match s.1 with | .int i => .ok (some i) ρ' | _ => .stuck := rfl
@[simp] theorem e_cSl (o : Opd) (lo hi : Option CExp) (ρ : Sl) : cSl o lo hi ρ = (evO [o] ρ).bind fun xs ρ1 => (part lo ρ1).bind fun l ρ2 => (part hi ρ2).bind fun u ρ3 => match late [o] xs ρ3 with
  | some [d] => (match pSl l u d with
    | some s => .ok s ρ3
    | none => .stuck)
  | _ => .stuck := rfl
@[simp] theorem e_sl_l (lo hi : Option Int) (xs : List D) : pSl lo hi (.lst xs) = some (.lst (cutL xs lo hi), true) := rfl
@[simp] theorem e_sl_t (lo hi : Option Int) (xs : List D) : pSl lo hi (.tup xs) = some (.tup (cutL xs lo hi), false) := rfl
@[simp] theorem e_sl_scr (lo hi : Option Int) (xs : List Int) : pSl lo hi (.scr xs) = some (.lst ((cutL xs lo hi).map D.int), true) := rfl
theorem cutL_to {α : Type} (xs : List α) (n : Nat) : cutL xs none (some (n : Int)) = xs.take n := by
  unfold cutL
  rw [HT.sIx_nat, HT.sIx_none, List.drop_zero, Nat.sub_zero]
  rcases Nat.le_total n xs.length with h | h
  · rw [Nat.min_eq_left h]
  · rw [Nat.min_eq_right h, List.take_of_length_le (Nat.le_refl _), List.take_of_length_le h]
theorem cutL_from {α : Type} (xs : List α) (n : Nat) : cutL xs (some (n : Int)) none = xs.drop n := by
  unfold cutL
  rw [HT.sIx_nat, HT.sIx_none]
  rcases Nat.le_total n xs.length with h | h
  · rw [Nat.min_eq_left h, List.take_of_length_le (by simp)]
  · rw [Nat.min_eq_right h, List.drop_of_length_le (Nat.le_refl _), List.drop_of_length_le h]; simp
theorem cutL_ft {α : Type} (xs : List α) (m n : Nat) : cutL xs (some (m : Int)) (some (n : Int)) = (xs.drop m).take (n - m) := by
  unfold cutL
  rw [HT.sIx_nat, HT.sIx_nat]
  rcases Nat.le_total m xs.length with h | h
  · rw [Nat.min_eq_left h]
    rcases Nat.le_total n xs.length with h2 | h2
    · rw [Nat.min_eq_left h2]
    · rw [Nat.min_eq_right h2, List.take_of_length_le (by simp), List.take_of_length_le (by simp; omega)]
  · rw [Nat.min_eq_right h, List.drop_of_length_le (Nat.le_refl _), List.drop_of_length_le h]; simp
@[simp] theorem e_cItE (m : CExp) (ρ : Sl) : cItE m ρ = (m ρ).bind fun s ρ1 => match s.1 with
  | .lst xs => .ok (enumD 0 xs) ρ1
  | .scr ns => .ok (enumD 0 (ns.map D.int)) ρ1
  | .tup xs => .ok (enumD 0 xs) ρ1
  | .ktup xs => .ok (enumD 0 xs) ρ1
  | _ => .stuck := rfl
@[simp] theorem e_cTry (b : CStm) (cl : List Clz) (ρ : Sl) : cTry b cl ρ = match b ρ with
  | .exc c fs ρ1 => pick c fs cl ρ1
  | r => r := rfl
@[simp] theorem e_pick_nil (c : Nat) (fs : List (Str × D)) (ρ : Sl) : pick c fs [] ρ = .exc c fs ρ := rfl
@[simp] theorem e_pick_cons (c : Nat) (fs : List (Str × D)) (t : Nat → Option Bool) (oi : Option Nat) (m : CStm) (r : List Clz) (ρ : Sl) : pick c fs ((t, oi, m) :: r) ρ = match t c with
    | some true => leaveT oi (m (onR oi (.exc c fs) ρ))
    | some false => pick c fs r ρ
    | none => .stuck := rfl
@[simp] theorem e_leaveT_ok (oi : Option Nat) (o : Out) (ρ : Sl) : leaveT oi (.ok o ρ) = if (noXo o && noXr (offR oi ρ)) = true then .ok o (offR oi ρ) else .stuck := rfl
@[simp] theorem e_offR_n (ρ : Sl) : offR none ρ = ρ := rfl
@[simp] theorem e_offR_s (i : Nat) (ρ : Sl) : offR (some i) ρ = ρ.set i none := rfl
@[simp] theorem e_onR_n (d : D) (ρ : Sl) : onR none d ρ = ρ := rfl
@[simp] theorem e_onR_s (i : Nat) (d : D) (ρ : Sl) : onR (some i) d ρ = ρ.set i (some (d, false)) := rfl
@[simp] theorem e_noXo_rt (s : Slot) : noXo (.rt s) = noX s.1 := rfl
@[simp] theorem e_noXo_nx : noXo .nx = true := rfl
@[simp] theorem e_noXo_bk : noXo .bk = true := rfl
@[simp] theorem e_noXo_ct : noXo .ct = true := rfl
@[simp] theorem e_noXr_nil : noXr [] = true := rfl
@[simp] theorem e_noXr_n (ρ : Sl) : noXr (none :: ρ) = noXr ρ := rfl
@[simp] theorem e_noXr_s (s : Slot) (ρ : Sl) : noXr (some s :: ρ) = (noX s.1 && noXr ρ) := rfl
@[simp] theorem e_noX_non : noX .non = true := rfl
@[simp] theorem e_noX_bl (b : Bool) : noX (.bl b) = true := rfl
@[simp] theorem e_noX_int (b : Int) : noX (.int b) = true := rfl
@[simp] theorem e_noX_str (b : Str) : noX (.str b) = true := rfl
@[simp] theorem e_noX_scr (b : List Int) : noX (.scr b) = true := rfl
@[simp] theorem e_noX_tup (b : List D) : noX (.tup b) = noXs b := rfl
@[simp] theorem e_noX_ktup (b : List D) : noX (.ktup b) = noXs b := rfl
@[simp] theorem e_noX_lst (b : List D) : noX (.lst b) = noXs b := rfl
@[simp] theorem e_noXs_nil : noXs [] = true := rfl
@[simp] theorem e_noXs_cons (d : D) (r : List D) : noXs (d :: r) = (noX d && noXs r) := rfl
theorem noXs_all : ∀ xs : List D, noXs xs = xs.all noX
  | [] => rfl
  | d :: r => by simp [noXs_all r]
theorem dOk_noX : ∀ (n : Nat) (d : D), dOk n d = true → noX d = true
  | _, .non, _ => rfl
  | _, .bl _, _ => rfl
  | _, .int _, _ => rfl
  | _, .str _, _ => rfl
  | _, .ty _, _ => rfl
  | _, .scr _, _ => rfl
  | _, .cls _, _ => rfl
  | n + 1, .tup xs, h => by
    rw [e_noX_tup, noXs_all, List.all_eq_true]
    intro d hd
    exact dOk_noX n d (List.all_eq_true.mp (by simpa [dOk] using h) d hd)
  | n + 1, .ktup xs, h => by
    rw [e_noX_ktup, noXs_all, List.all_eq_true]
    intro d hd
    exact dOk_noX n d (List.all_eq_true.mp (by simpa [dOk] using h) d hd)
  | n + 1, .lst xs, h => by
    rw [e_noX_lst, noXs_all, List.all_eq_true]
    intro d hd
    exact dOk_noX n d (List.all_eq_true.mp (by simpa [dOk] using h) d hd)
  | 0, .tup _, h => by simp [dOk] at h
  | 0, .ktup _, h => by simp [dOk] at h
  | 0, .lst _, h => by simp [dOk] at h
  | 0, .dK _, h => by simp [dOk] at h
  | _ + 1, .dK _, h => by simp [dOk] at h
  | 0, .dT _, h => by simp [dOk] at h
  | _ + 1, .dT _, h => by simp [dOk] at h
  | 0, .obj _ _, h => by simp [dOk] at h
  | _ + 1, .obj _ _, h => by simp [dOk] at h
  | 0, .exc _ _, h => by simp [dOk] at h
  | _ + 1, .exc _ _, h => by simp [dOk] at h
@[simp] theorem e_cRaise (c : Nat) (ps : List Str) (os : List Opd) (ρ : Sl) : cRaise c ps os ρ = (evO os ρ).bind fun xs ρ' => match late os xs ρ' with
  | some ds => .exc c (ps.zip ds).reverse ρ'
  | none => .stuck := rfl
@[simp] theorem e_starF (F : CFun) (args : List Slot) : starF F args = if (args.all fun s => !s.2) = true then (match F [(.tup (args.map (·.1)), false)] with
  | .ok s _ => .ok s (args.map some)
  | .exc c fs _ => .exc c fs (args.map some)
  | .stuck => .stuck) else .stuck := rfl
@[simp] theorem e_cXf (i : Nat) (f : Str) (cs : List Nat) (ρ : Sl) : cXf i f cs ρ = match ρ[i]? with
  | some (some (.exc c fs, _)) => if c ∈ cs then (match fs.lookup f with
    | some d => .ok (d, false) ρ
    | none => .stuck) else .stuck
  | _ => .stuck := rfl
@[simp] theorem e_Xis_c (tb : Nat → D → Option Bool) (c : Nat) (fs : List (Str × D)) (k : Nat) : pXis tb [.exc c fs, .cls k] = (tb c (.cls k)).map fun b => (.bl b, false) := rfl
@[simp] theorem e_Xis_t (tb : Nat → D → Option Bool) (c : Nat) (fs : List (Str × D)) (k : String) : pXis tb [.exc c fs, .ty k] = (tb c (.ty k)).map fun b => (.bl b, false) := rfl
@[simp] theorem e_tblI_c (l1 : List ((Nat × Nat) × Bool)) (l2 : List ((Nat × String) × Bool)) (c k : Nat) : tblI l1 l2 c (.cls k) = l1.lookup (c, k) := rfl
@[simp] theorem e_tblI_t (l1 : List ((Nat × Nat) × Bool)) (l2 : List ((Nat × String) × Bool)) (c : Nat) (k : String) : tblI l1 l2 c (.ty k) = l2.lookup (c, k) := rfl
@[simp] theorem e_tblX (l : List (Nat × Bool)) (c : Nat) : tblX l c = l.lookup c := rfl
@[simp] theorem e_tuple_t (xs : List D) : pTuple [.tup xs] = some (.tup xs, false) := rfl
@[simp] theorem e_tuple_kt (xs : List D) : pTuple [.ktup xs] = some (.ktup xs, false) := rfl
/-! equality -/
theorem e_ne (d e : D) (h1 : dOk 40 d = true) (h2 : dOk 40 e = true) : pNe [d, e] = some (.bl (!eqD d e), false) := by
  show (if (dOk 40 d && dOk 40 e) = true then some (D.bl (!eqD d e), false) else none) = _
  rw [h1, h2]; rfl
theorem e_eq (d e : D) (h1 : dOk 40 d = true) (h2 : dOk 40 e = true) : pEqA [d, e] = some (.bl (eqD d e), false) := by
  have : pEq [d, e] = some (.bl (eqD d e), false) := by
    show (if (dOk 40 d && dOk 40 e) = true then some (D.bl (eqD d e), false) else none) = _
    rw [h1, h2]; rfl
  cases d <;> first | exact this | (cases e <;> first | exact this | (simp [dOk] at h1))
theorem e_in_l (x : D) (xs : List D) (h1 : dOk 40 x = true) (h2 : dOk 40 (.lst xs) = true) : pIn [x, .lst xs] = some (.bl (xs.any fun z => eqD z x), false) := by
  show (inD' x (.lst xs)).map _ = _
  show (if (dOk 40 x && dOk 40 (.lst xs)) = true then some (xs.any fun z => eqD z x) else none).map _ = _
  rw [h1, h2]; rfl
theorem e_ni_l (x : D) (xs : List D) (h1 : dOk 40 x = true) (h2 : dOk 40 (.lst xs) = true) : pNi [x, .lst xs] = some (.bl (!xs.any fun z => eqD z x), false) := by
  show (inD' x (.lst xs)).map _ = _
  show (if (dOk 40 x && dOk 40 (.lst xs)) = true then some (xs.any fun z => eqD z x) else none).map _ = _
  rw [h1, h2]; rfl
theorem e_in_t (x : D) (xs : List D) (h1 : dOk 40 x = true) (h2 : dOk 40 (.tup xs) = true) : pIn [x, .tup xs] = some (.bl (xs.any fun z => eqD z x), false) := by
  show (inD' x (.tup xs)).map _ = _
  show (if (dOk 40 x && dOk 40 (.tup xs)) = true then some (xs.any fun z => eqD z x) else none).map _ = _
  rw [h1, h2]; rfl
theorem e_ni_t (x : D) (xs : List D) (h1 : dOk 40 x = true) (h2 : dOk 40 (.tup xs) = true) : pNi [x, .tup xs] = some (.bl (!xs.any fun z => eqD z x), false) := by
  show (inD' x (.tup xs)).map _ = _
  show (if (dOk 40 x && dOk 40 (.tup xs)) = true then some (xs.any fun z => eqD z x) else none).map _ = _
  rw [h1, h2]; rfl
mutual
theorem eqD_refl : ∀ (n : Nat) (d : D), dOk n d = true → eqD d d = true
  | _, .non, _ => rfl
  | _, .bl b, _ => by simp [eqD]
  | _, .int i, _ => by simp [eqD]
  | _, .str x, _ => by simp [eqD]
  | n + 1, .tup xs, h => by simp only [eqD]; exact eqDs_refl n xs (by simpa [dOk] using h)
  | n + 1, .ktup xs, h => by simp only [eqD]; exact eqDs_refl n xs (by simpa [dOk] using h)
  | n + 1, .lst xs, h => by simp only [eqD]; exact eqDs_refl n xs (by simpa [dOk] using h)
  | n + 1, .scr ns, _ => by
    simp only [eqD]
    induction ns with
    | nil => rfl
    | cons a r ih => simp only [List.map_cons, PyData.eqvAll, ih rfl, Bool.and_true]; simp [PyData.eqv]
  | 0, .tup _, h => by simp [dOk] at h
  | 0, .ktup _, h => by simp [dOk] at h
  | 0, .lst _, h => by simp [dOk] at h
  | 0, .scr _, h => by simp [dOk] at h
  | 0, .dK _, h => by simp [dOk] at h
  | _ + 1, .dK _, h => by simp [dOk] at h
  | 0, .dT _, h => by simp [dOk] at h
  | _ + 1, .dT _, h => by simp [dOk] at h
  | 0, .obj _ _, h => by simp [dOk] at h
  | _ + 1, .obj _ _, h => by simp [dOk] at h
  | 0, .exc _ _, h => by simp [dOk] at h
  | _ + 1, .exc _ _, h => by simp [dOk] at h
  | 0, .ty _, h => by simp [dOk] at h
  | _ + 1, .ty _, h => by simp [dOk] at h
  | 0, .cls _, h => by simp [dOk] at h
  | _ + 1, .cls _, h => by simp [dOk] at h
theorem eqDs_refl : ∀ (n : Nat) (xs : List D), (∀ d ∈ xs, dOk n d = true) → eqDs xs xs = true
  | _, [], _ => by simp [eqDs]
  | n, x :: xs, h => by
    simp only [eqDs]
    rw [eqD_refl n x (h x List.mem_cons_self), eqDs_refl n xs fun d hd => h d (List.mem_cons_of_mem _ hd)]
    rfl
end
end VS

namespace VS
open PySem L2
/-! ### plain lemmas for laws -/
abbrev il (xs : List Int) : D := .lst (xs.map D.int)
abbrev sl (xs : List Str) : D := .lst (xs.map D.str)
theorem atI_in {α : Type} {xs : List α} {v : Int} (h0 : 0 ≤ v) (h1 : v < xs.length) : ∃ x, atI xs v = some x ∧ x ∈ xs := by
  have hv : v.toNat < xs.length := by omega
  refine ⟨xs[v.toNat], ?_, List.getElem_mem hv⟩
  unfold atI ixN
  rw [if_pos h0, if_pos h1]
  simp [hv]
theorem atI_get {α : Type} {xs : List α} {v : Int} (h0 : 0 ≤ v) : atI xs v = xs[v.toNat]? := by
  unfold atI ixN
  rw [if_pos h0]
  by_cases h : v < xs.length
  · rw [if_pos h]; rfl
  · rw [if_neg h]
    rw [List.getElem?_eq_none (by omega)]
    rfl
theorem atI_mapI {α β : Type} (f : α → β) (xs : List α) (i : Int) : atI (xs.map f) i = (atI xs i).map f := by
  unfold atI
  rw [List.length_map]
  cases ixN xs.length i <;> simp
@[simp] theorem e_atI_lit {α : Type} (xs : List α) (n : Nat) : atI xs (no_index (@OfNat.ofNat Int n instOfNat)) = xs[n]? := by
  have h : (0 : Int) ≤ (@OfNat.ofNat Int n instOfNat) := Int.natCast_nonneg n
  rw [atI_get h]
  rfl
theorem slen (x y : Str) : (x ++ y).length = x.length + y.length := by
  show (x.cps ++ y.cps).size = _
  rw [Array.size_append]
  rfl
theorem szl : sizeLine = 16777216 := sizeLine_eq
abbrev letters : Str := Str.ofString "abcdefghijklmnopqrstuvwxyz"
theorem letters_len : letters.length = 26 := by decide +kernel
theorem letters_at : ∀ v : Fin 26, letters.cps.toList[v.1]? = some (97 + v.1) := by decide +kernel
theorem letters_mem : ∀ c : Nat, c ∈ letters.cps.toList ↔ 97 ≤ c ∧ c < 123 := by
  intro c
  have h : letters.cps.toList = (List.range 26).map (97 + ·) := by decide +kernel
  rw [h, List.mem_map]
  constructor
  · rintro ⟨a, ha, rfl⟩
    have := List.mem_range.mp ha
    omega
  · rintro ⟨h1, h2⟩
    exact ⟨c - 97, List.mem_range.mpr (by omega), by omega⟩
/-- one letter -/
def ltr (v : Int) : Str := ⟨#[97 + v.toNat]⟩
theorem ltr_len (v : Int) : (ltr v).length = 1 := rfl
theorem letter_at {v : Int} (h0 : 0 ≤ v) (h1 : v < 26) : dAt (.str letters) (.int v) = some (.str (ltr v)) := by
  rw [e_at_s, if_pos (by rw [letters_len, szl]; decide), atI_get h0, letters_at ⟨v.toNat, by omega⟩]
  rfl
theorem ltr_inj {v w : Int} (h : 0 ≤ v) (h' : 0 ≤ w) (e : ltr v = ltr w) : v = w := by
  have h1 : (ltr v).cps.toList = (ltr w).cps.toList := by rw [e]
  have h2 : [97 + v.toNat] = [97 + w.toNat] := h1
  have h3 := List.head_eq_of_cons_eq h2
  omega
/-- a name of 1 to 8 letters -/
def IsName (s : Str) : Prop := 1 ≤ s.length ∧ s.length ≤ 8 ∧ ∀ c ∈ s.cps.toList, 97 ≤ c ∧ c < 123
theorem ltr_name {v : Int} (h0 : 0 ≤ v) (h1 : v < 26) : IsName (ltr v) := by
  refine ⟨Nat.le_refl _, by rw [ltr_len]; decide, fun c hc => ?_⟩
  have : c ∈ [97 + v.toNat] := hc
  rw [List.mem_singleton] at this
  omega
/-- pigeonhole -/
theorem nodup_sub_len {α : Type} [DecidableEq α] : ∀ {l m : List α}, l.Nodup → (∀ x ∈ l, x ∈ m) → l.length ≤ m.length
  | [], _, _, _ => Nat.zero_le _
  | a :: l, m, hn, hs => by
    rw [List.nodup_cons] at hn
    have ha := hs a List.mem_cons_self
    have := nodup_sub_len (l := l) (m := m.erase a) hn.2 fun x hx => by
      have hne : x ≠ a := by rintro rfl; exact hn.1 hx
      exact (List.mem_erase_of_ne hne).mpr (hs x (List.mem_cons_of_mem _ hx))
    rw [List.length_erase_of_mem ha] at this
    have := List.length_pos_of_mem ha
    simp only [List.length_cons]
    omega
theorem any_str (s : Str) (xs : List Str) : ((xs.map D.str).any fun z => eqD z (.str s)) = decide (s ∈ xs) := by
  induction xs with
  | nil => rfl
  | cons x r ih =>
    simp only [List.map_cons, List.any_cons, ih, eqD]
    by_cases h : s = x
    · subst h; simp
    · have : ¬ x = s := fun e => h e.symm
      simp [this, h]
theorem any_int (s : Int) (xs : List Int) : ((xs.map D.int).any fun z => eqD z (.int s)) = decide (s ∈ xs) := by
  induction xs with
  | nil => rfl
  | cons x r ih =>
    simp only [List.map_cons, List.any_cons, ih, eqD]
    by_cases h : s = x
    · subst h; simp
    · have : ¬ x = s := fun e => h e.symm
      simp [this, h]
theorem dOk_strs (n : Nat) (xs : List Str) : dOk (n + 1) (.lst (xs.map D.str)) = true := by
  simp only [dOk, List.all_map, List.all_eq_true]
  intro s _
  cases n <;> rfl
theorem dOk_ints (n : Nat) (xs : List Int) : dOk (n + 1) (.lst (xs.map D.int)) = true := by
  simp only [dOk, List.all_map, List.all_eq_true]
  intro s _
  cases n <;> rfl
theorem dOk_strsT (n : Nat) (xs : List Str) : dOk (n + 1) (.tup (xs.map D.str)) = true := by
  simp only [dOk, List.all_map, List.all_eq_true]
  intro s _
  cases n <;> rfl
@[simp] theorem e_dOk_str (n : Nat) (s : Str) : dOk n (.str s) = true := by cases n <;> rfl
@[simp] theorem e_dOk_int (n : Nat) (s : Int) : dOk n (.int s) = true := by cases n <;> rfl
@[simp] theorem e_dOk_bl (n : Nat) (s : Bool) : dOk n (.bl s) = true := by cases n <;> rfl
@[simp] theorem e_dOk_non (n : Nat) : dOk n .non = true := by cases n <;> rfl
@[simp] theorem e_in_sl (s : Str) (xs : List Str) : pIn [.str s, .lst (xs.map D.str)] = some (.bl (decide (s ∈ xs)), false) := by
  rw [e_in_l _ _ (e_dOk_str _ _) (dOk_strs _ _), any_str]
@[simp] theorem e_ni_sl (s : Str) (xs : List Str) : pNi [.str s, .lst (xs.map D.str)] = some (.bl (!decide (s ∈ xs)), false) := by
  rw [e_ni_l _ _ (e_dOk_str _ _) (dOk_strs _ _), any_str]
@[simp] theorem e_in_st (s : Str) (xs : List Str) : pIn [.str s, .tup (xs.map D.str)] = some (.bl (decide (s ∈ xs)), false) := by
  rw [e_in_t _ _ (e_dOk_str _ _) (dOk_strsT _ _), any_str]
@[simp] theorem e_ni_st (s : Str) (xs : List Str) : pNi [.str s, .tup (xs.map D.str)] = some (.bl (!decide (s ∈ xs)), false) := by
  rw [e_ni_t _ _ (e_dOk_str _ _) (dOk_strsT _ _), any_str]
@[simp] theorem e_in_il (s : Int) (xs : List Int) : pIn [.int s, .lst (xs.map D.int)] = some (.bl (decide (s ∈ xs)), false) := by
  rw [e_in_l _ _ (e_dOk_int _ _) (dOk_ints _ _), any_int]
@[simp] theorem e_ni_il (s : Int) (xs : List Int) : pNi [.int s, .lst (xs.map D.int)] = some (.bl (!decide (s ∈ xs)), false) := by
  rw [e_ni_l _ _ (e_dOk_int _ _) (dOk_ints _ _), any_int]
theorem eqDs_str : ∀ xs ys : List Str, eqDs (xs.map D.str) (ys.map D.str) = decide (xs = ys)
  | [], [] => rfl
  | [], _ :: _ => rfl
  | _ :: _, [] => rfl
  | x :: xs, y :: ys => by
    have := eqDs_str xs ys
    simp only [List.map_cons, eqDs, eqD, this]
    by_cases h : x = y
    · subst h; simp
    · simp [h]
theorem eqDs_int : ∀ xs ys : List Int, eqDs (xs.map D.int) (ys.map D.int) = decide (xs = ys)
  | [], [] => rfl
  | [], _ :: _ => rfl
  | _ :: _, [] => rfl
  | x :: xs, y :: ys => by
    have := eqDs_int xs ys
    simp only [List.map_cons, eqDs, eqD, this]
    by_cases h : x = y
    · subst h; simp
    · simp [h]
/-- a comprehension whose items are told -/
theorem lc_map {tg : D → Sl → Option Sl} {e : CExp} {vs : List Nat} {ds : List D} {ρ : Sl} (g : Nat → D → D) (hz : ds.length ≤ 16777216)
    (hs : ∀ i d, ds[i]? = some d → ∃ ρ1 b ρ3, tg d ρ = some ρ1 ∧ e ρ1 = .ok (g i d, b) ρ3 ∧ wipeS ρ3 vs = ρ) : lcGo tg cYes e vs ds [] ρ = .ok (ds.mapIdx g) ρ := by
  obtain ⟨acc, ρ', h1, h2, h3⟩ := lc_go (tg := tg) (c := cYes) (e := e) (vs := vs) (ds := ds) (ρ := ρ) (fun i acc ρ' => acc = (ds.take i).mapIdx g ∧ ρ' = ρ) ⟨by simp, rfl⟩ (by
    rintro i d acc ρ' hd ⟨rfl, rfl⟩
    obtain ⟨ρ1, b, ρ3, a1, a2, a3⟩ := hs i d hd
    have hl := lt_of_at hd
    refine ⟨ρ1, a1, .inl ⟨ρ1, _, ρ3, rfl, a2, ?_, ?_, a3⟩⟩
    · rw [szl]; simp; omega
    · rw [List.take_succ, hd]
      simp [List.mapIdx_append]
      rw [Nat.min_eq_left (Nat.le_of_lt hl)])
  rw [h1, h2, h3, List.take_of_length_le (Nat.le_refl _)]
theorem lc_rng {tg : D → Sl → Option Sl} {e : CExp} {vs : List Nat} {lo : Int} {n : Nat} {ρ : Sl} (g : Nat → D) (hz : n ≤ 16777216)
    (hs : ∀ i, i < n → ∃ ρ1 b ρ3, tg (.int (lo + (i : Int))) ρ = some ρ1 ∧ e ρ1 = .ok (g i, b) ρ3 ∧ wipeS ρ3 vs = ρ) : lcGo tg cYes e vs (rngD lo n) [] ρ = .ok ((List.range n).map g) ρ := by
  have h := lc_map (tg := tg) (e := e) (vs := vs) (ds := rngD lo n) (ρ := ρ) (fun i _ => g i) (by rw [rngD_len]; exact hz) (by
    intro i d hd
    obtain ⟨hi, rfl⟩ := rngD_at hd
    exact hs i hi)
  rw [h]
  congr 1
  apply List.ext_getElem?
  intro i
  rw [List.getElem?_mapIdx, List.getElem?_map]
  by_cases hi : i < n
  · rw [List.getElem?_range hi]
    have : (rngD lo n)[i]? = some (.int (lo + (i : Int))) := by
      unfold rngD
      rw [List.getElem?_map, List.getElem?_range hi]; rfl
    rw [this]; rfl
  · rw [List.getElem?_eq_none (by rw [rngD_len]; omega), List.getElem?_eq_none (by simp; omega)]; rfl
theorem range_map_len {α : Type} (n : Nat) (g : Nat → α) : ((List.range n).map g).length = n := by simp
/-- a comprehension that keeps what is asked -/
theorem lc_filter {tg : D → Sl → Option Sl} {c : CTst} {e : CExp} {vs : List Nat} {ds : List D} {ρ : Sl} (p : D → Bool) (g : D → D) (hz : ds.length ≤ 16777216)
    (hs : ∀ d ∈ ds, ∃ ρ1 ρ2, tg d ρ = some ρ1 ∧ c ρ1 = .ok (p d) ρ2 ∧ (p d = true → ∃ b ρ3, e ρ2 = .ok (g d, b) ρ3 ∧ wipeS ρ3 vs = ρ) ∧ (p d = false → wipeS ρ2 vs = ρ)) : lcGo tg c e vs ds [] ρ = .ok ((ds.filter p).map g) ρ := by
  obtain ⟨acc, ρ', h1, h2, h3⟩ := lc_go (tg := tg) (c := c) (e := e) (vs := vs) (ds := ds) (ρ := ρ) (fun i acc ρ' => acc = ((ds.take i).filter p).map g ∧ ρ' = ρ) ⟨by simp, rfl⟩ (by
    rintro i d acc ρ' hd ⟨rfl, rfl⟩
    obtain ⟨ρ1, ρ2, a1, a2, a3, a4⟩ := hs d (List.mem_of_getElem? hd)
    have hl := lt_of_at hd
    refine ⟨ρ1, a1, ?_⟩
    cases q : p d with
    | true =>
      obtain ⟨b, ρ3, b1, b2⟩ := a3 q
      rw [q] at a2
      refine .inl ⟨ρ2, _, ρ3, a2, b1, ?_, ?_, b2⟩
      · have := List.length_filter_le p (ds.take i)
        rw [szl]; simp at this ⊢; omega
      · rw [List.take_succ, hd]; simp [q]
    | false =>
      rw [q] at a2
      refine .inr ⟨ρ2, a2, ?_, a4 q⟩
      rw [List.take_succ, hd]; simp [q])
  rw [h1, h2, h3, List.take_of_length_le (Nat.le_refl _)]
theorem set_none {ρ : Sl} {j : Nat} {x : Option Slot} (h : ρ[j]? = some none) : (ρ.set j x).set j none = ρ := by
  rw [List.set_set]
  apply List.ext_getElem?
  intro i
  rw [List.getElem?_set]
  by_cases e : j = i
  · subst e
    rw [if_pos rfl, if_pos (lt_of_at h), h]
  · rw [if_neg e]
/-- the target a name, the frame kept -/
theorem lc_rngN {j : Nat} {e : CExp} {lo : Int} {n : Nat} {ρ : Sl} (g : Nat → D) (hz : n ≤ 16777216) (hj : ρ[j]? = some none)
    (hs : ∀ i, i < n → ∃ b, e (ρ.set j (some (.int (lo + (i : Int)), false))) = .ok (g i, b) (ρ.set j (some (.int (lo + (i : Int)), false)))) : lcGo (tgN j) cYes e [j] (rngD lo n) [] ρ = .ok ((List.range n).map g) ρ :=
  lc_rng g hz fun i hi => by
    obtain ⟨b, h⟩ := hs i hi
    exact ⟨_, b, _, rfl, h, set_none hj⟩
theorem lc_mapN {j : Nat} {e : CExp} {ds : List D} {ρ : Sl} (g : D → D) (hz : ds.length ≤ 16777216) (hj : ρ[j]? = some none)
    (hs : ∀ d ∈ ds, ∃ b, e (ρ.set j (some (d, false))) = .ok (g d, b) (ρ.set j (some (d, false)))) : lcGo (tgN j) cYes e [j] ds [] ρ = .ok (ds.map g) ρ := by
  have h := lc_map (tg := tgN j) (e := e) (vs := [j]) (ds := ds) (ρ := ρ) (fun _ d => g d) hz (by
    intro i d hd
    obtain ⟨b, h⟩ := hs d (List.mem_of_getElem? hd)
    exact ⟨_, b, _, rfl, h, set_none hj⟩)
  rw [h]
  congr 1
  apply List.ext_getElem?
  intro i
  rw [List.getElem?_mapIdx, List.getElem?_map]
theorem lc_filterN {j : Nat} {c : CTst} {e : CExp} {ds : List D} {ρ : Sl} (p : D → Bool) (g : D → D) (hz : ds.length ≤ 16777216) (hj : ρ[j]? = some none)
    (hs : ∀ d ∈ ds, c (ρ.set j (some (d, false))) = .ok (p d) (ρ.set j (some (d, false))) ∧ (p d = true → ∃ b, e (ρ.set j (some (d, false))) = .ok (g d, b) (ρ.set j (some (d, false))))) : lcGo (tgN j) c e [j] ds [] ρ = .ok ((ds.filter p).map g) ρ :=
  lc_filter p g hz fun d hd => by
    obtain ⟨h1, h2⟩ := hs d hd
    refine ⟨_, _, rfl, h1, fun h => ?_, fun _ => set_none hj⟩
    obtain ⟨b, h3⟩ := h2 h
    exact ⟨b, _, h3, set_none hj⟩
end VS

namespace VS
open PySem L2
/-! ### instances: fields -/
def pFld (f : Str) (cs : List Nat) : List D → Option Slot
  | [.obj c fs] => if c ∈ cs then (fs.lookup f).map fun d => (d, false) else none
  | _ => none
def putD (f : Str) (v : D) : List (Str × D) → List (Str × D)
  | [] => [(f, v)]
  | (g, x) :: r => if g = f then (g, v) :: r else (g, x) :: putD f v r
section
variable {Γ : Gm} {W : WX} {Z : Addr → Prop} {σ σ1 : L2.St} {ρ ρ1 ρ' : Sl} {H H1 H' : Hp} {O : Addr → Prop} {fx : List Nat}
theorem Reps.look : ∀ {fs : List (Str × V)} {ds : List (Str × D)} {f : Str} {d : D}, fs.map (·.1) = ds.map (·.1) → Reps Γ O H (fs.map (·.2)) (ds.map (·.2)) → ds.lookup f = some d → ∃ v, fs.lookup f = some v ∧ Rep Γ O H v d
  | [], [], _, _, _, _, e => by cases e
  | [], _ :: _, _, _, h, _, _ => by cases h
  | _ :: _, [], _, _, h, _, _ => by cases h
  | (k, v) :: fs, (k', d') :: ds, f, d, h, r, e => by
    simp only [List.map_cons, List.cons.injEq] at h
    obtain ⟨hk, ht⟩ := h
    have hk : k = k' := hk
    subst hk
    cases r with
    | cons r1 r2 =>
      rw [List.lookup_cons] at e ⊢
      cases q : (f == k) with
      | true => rw [q] at e; cases e; exact ⟨v, rfl, r1⟩
      | false => rw [q] at e; exact Reps.look ht r2 e
theorem look_none : ∀ {fs : List (Str × V)} {ds : List (Str × D)} {f : Str}, fs.map (·.1) = ds.map (·.1) → ds.lookup f = none → fs.lookup f = none
  | [], _, _, _, _ => rfl
  | _ :: _, [], _, h, _ => by cases h
  | (k, v) :: fs, (k', d') :: ds, f, h, e => by
    simp only [List.map_cons, List.cons.injEq] at h
    obtain ⟨hk, ht⟩ := h
    have hk : k = k' := hk
    subst hk
    rw [List.lookup_cons] at e ⊢
    cases q : (f == k) with
    | true => rw [q] at e; cases e
    | false => rw [q] at e; exact look_none ht e
theorem put_keys {f : Str} {v : V} {d : D} : ∀ {fs : List (Str × V)} {ds : List (Str × D)}, fs.map (·.1) = ds.map (·.1) → (putF f v fs).map (·.1) = (putD f d ds).map (·.1)
  | [], [], _ => rfl
  | [], _ :: _, h => by cases h
  | _ :: _, [], h => by cases h
  | (k, x) :: fs, (k', y) :: ds, h => by
    simp only [List.map_cons, List.cons.injEq] at h
    obtain ⟨hk, ht⟩ := h
    have hk : k = k' := hk
    subst hk
    unfold putF putD
    by_cases e : k = f
    · rw [if_pos e, if_pos e]; simp [ht]
    · rw [if_neg e, if_neg e, List.map_cons, List.map_cons, put_keys (v := v) (d := d) ht]
theorem put_reps {f : Str} {v : V} {d : D} (hr : Rep Γ O H v d) : ∀ {fs : List (Str × V)} {ds : List (Str × D)}, fs.map (·.1) = ds.map (·.1) → Reps Γ O H (fs.map (·.2)) (ds.map (·.2)) → Reps Γ O H ((putF f v fs).map (·.2)) ((putD f d ds).map (·.2))
  | [], [], _, _ => .cons hr .nil
  | [], _ :: _, h, _ => by cases h
  | _ :: _, [], h, _ => by cases h
  | (k, x) :: fs, (k', y) :: ds, h, r => by
    simp only [List.map_cons, List.cons.injEq] at h
    obtain ⟨hk, ht⟩ := h
    have hk : k = k' := hk
    subst hk
    cases r with
    | cons r1 r2 =>
      unfold putF putD
      by_cases e : k = f
      · rw [if_pos e, if_pos e]; exact .cons hr r2
      · rw [if_neg e, if_neg e]; exact .cons r1 (put_reps hr ht r2)
def rFld (K : PySem.W.Frag) (f : Str) : V → Hp → VK → Prop := fun x H Q => ∃ a C dx fs v, x = .ref a ∧ H a = some (.ins C dx fs) ∧ Cls K C ∧ NoAttr K C f ∧ fs.lookup f = some v ∧ Q v H
theorem prFld {f : Str} {cs : List Nat} (hc : ∀ c ∈ cs, Cls Γ.K (Γ.ct c) ∧ NoAttr Γ.K (Γ.ct c) f) : PrimR Γ (r1l (rFld Γ.K f)) (pFld f cs) := by
  intro O H vs ds s Q m b e k
  match ds, e with
  | [.obj c fs], e =>
    obtain ⟨v, rfl, h1⟩ := bors1 b
    have e' : (if c ∈ cs then (fs.lookup f).map fun d => (d, false) else none) = some s := e
    by_cases hcs : c ∈ cs
    · rw [if_pos hcs] at e'
      cases q : fs.lookup f with
      | none => rw [q] at e'; cases e'
      | some d =>
        rw [q] at e'
        cases e'
        obtain ⟨a, dx, gs, rfl, ha, hk, hr⟩ := h1.obj_inv
        obtain ⟨v, hv, r⟩ := hr.look hk q
        exact ⟨a, _, dx, gs, v, rfl, ha, (hc c hcs).1, (hc c hcs).2, hv, k v H (Ext.refl H) r⟩
    · rw [if_neg hcs] at e'; cases e'
/-- self.f = e -/
def cFst (i : Nat) (f : Str) (cs : List Nat) (m : CExp) : CStm := fun ρ => (m ρ).bind fun s ρ1 => match ρ1[i]? with
  | some (some (.obj c fs, true)) => if c ∈ cs ∧ fs.length < 1000 then .ok .nx (ρ1.set i (some (.obj c (putD f s.1 fs), true))) else .stuck
  | _ => .stuck
theorem SS.fst {i : Nat} {f : Str} {cs : List Nat} {te : TE} {m : CExp} (hc : ∀ c ∈ cs, Cls Γ.K (Γ.ct c) ∧ NoAttr Γ.K (Γ.ct c) f) (h : SE Γ W te m) : SS Γ fx W (sFld Γ.K (tVar i) te f) (cFst i f cs m) := by
  intro Z σ ρ H E F k
  refine h.val F ?_
  unfold cFst at k
  revert k
  cases m ρ with
  | exc c fs ρ' => exact fun k => PostX.st k
  | stuck => exact fun k => k
  | ok s ρ1 =>
    intro k v H1 f1 s1 r1
    simp only [Res.bind_ok] at k
    cases q : ρ1[i]? with
    | none => rw [q] at k; exact k.elim
    | some w =>
      cases w with
      | none => rw [q] at k; exact k.elim
      | some t =>
        obtain ⟨d, b⟩ := t
        rw [q] at k
        cases d with
        | obj c fs =>
          cases b with
          | false => exact k.elim
          | true =>
            simp only at k
            by_cases hcs : c ∈ cs ∧ fs.length < 1000
            · rw [if_pos hcs] at k
              obtain ⟨x, hx, ow⟩ := f1.ow i _ q
              cases ow with
              | @obj a dx gs _ _ ha oa hk hr =>
                refine ⟨_, hx, a, _, dx, gs, rfl, ha, (hc c hcs.1).1, (hc c hcs.1).2, ?_, ?_⟩
                · have := congrArg List.length hk
                  simp only [List.length_map] at this
                  omega
                · have ov : Ov (OA Z σ ρ1) (OA Z σ ρ1) H1 (upd H1 a (.ins (Γ.ct c) dx (putF f v gs))) := ⟨fun _ _ _ z => z, f1.mu, fun b u h n => by
                    rw [upd_ne (fun e => n (by rw [e]; exact oa))]; exact h⟩
                  obtain ⟨g1, g2⟩ := f1.write q hx (o := .ins (Γ.ct c) dx (putF f v gs)) (d' := .obj c (putD f s.1 fs)) (.obj upd_same oa (put_keys hk) ((put_reps r1 hk hr).to ov))
                  exact k σ _ g1 (s1.trans g2) Fx.refl
            · rw [if_neg hcs] at k; exact k.elim
        | _ => cases b <;> exact k.elim
/-! ### the core of a call -/
def callR (F : CFun) (os : List Opd) (xs : List (Option D)) (ρ1 : Sl) : Res Slot := match argS os xs ρ1, noDup os ρ1 with
  | some args, true => match F args with
    | .ok s as => .ok s (backF os as 0 ρ1)
    | .exc c fs as => .exc c fs (backF os as 0 ρ1)
    | .stuck => .stuck
  | _, _ => .stuck
theorem cCall_eq {F : CFun} {os : List Opd} {ρ : Sl} : cCall F os ρ = (evO os ρ).bind fun xs ρ1 => callR F os xs ρ1 := rfl
theorem call_core {F : CFun} {np : Nat} {os : List Opd} {xs : List (Option D)} {vs : List V} {Q : VK} (f1 : FR Γ Z σ ρ1 H1) (o : OR Γ Z σ ρ1 H1 os xs vs) (hn : os.length = np) (k : EndV Γ Z σ ρ1 H1 (callR F os xs ρ1) W Q) : spD Γ F np vs H1 Q (WE W σ) := by
  unfold callR at k
  cases q1 : argS os xs ρ1 with
  | none => rw [q1] at k; exact k.elim
  | some args =>
    cases q2 : noDup os ρ1 with
    | false => rw [q1, q2] at k; exact k.elim
    | true =>
      rw [q1, q2] at k
      have h := o.ar q1
      refine ⟨by rw [h.len.1, ← h.len.2]; exact hn, Zc Z os σ ρ1, args, h.fr f1 q2, ?_⟩
      simp only at k
      revert k
      cases F args with
      | stuck => exact fun k => k
      | ok s as =>
        obtain ⟨d, b⟩ := s
        cases b with
        | false =>
          intro k v H' fc st r
          obtain ⟨f2, s2, sub⟩ := h.after f1 (X := fun _ => False) (fc.zdrop fun a z => z.elim id False.elim) st (fun b z => z.elim) (fun b z => z.elim)
          rw [zfalse] at f2
          refine k v H' f2 s2 (r.to ⟨fun b o _ z => ?_, fc.mu, fun _ _ h _ => h⟩)
          have z2 := sub b (z.imp (fun y => .inl y) id)
          exact z2.imp (fun y => y.elim id False.elim) id
        | true =>
          intro k a H' fc st n q r
          obtain ⟨f2, s2, sub⟩ := h.after f1 (X := fun b => b = a) fc st (fun b z => by rw [z]; exact q) (fun b z => by rw [z]; exact n)
          refine k a H' f2 s2 (fun z => ?_) (q.imp id fun z => ?_) (r.to ⟨fun b o _ z => sub b z, fc.mu, fun _ _ h _ => h⟩ (.inl (.inr rfl)) fun _ h => h)
          · refine n ⟨.inl z, ?_⟩
            rintro ⟨j, d, _, q2, q3⟩
            exact f1.dis a z ⟨j, d, q2, q3⟩
          · obtain ⟨j, d, _, q2, q3⟩ := (h.roots a).mp z
            exact ⟨j, d, q2, q3⟩
      | exc c fs as =>
        intro k d H' fc st r
        obtain ⟨f2, s2, sub⟩ := h.after f1 (X := fun _ => False) (fc.zdrop fun a z => z.elim id False.elim) st (fun b z => z.elim) (fun b z => z.elim)
        rw [zfalse] at f2
        refine k d H' f2 s2 ?_
        cases d with
        | none => exact r
        | some dx =>
          obtain ⟨us, h1, h2, h3⟩ := r
          refine ⟨us, h1, h2, h3.to ⟨fun b o _ z => ?_, fc.mu, fun _ _ h _ => h⟩⟩
          have z2 := sub b (z.imp (fun y => .inl y) id)
          exact z2.imp (fun y => y.elim id False.elim) id
/-! ### methods by class -/
abbrev MTbl := List (Nat × CFun)
/-- which promise a class's method has -/
def MsD (Γ : Gm) (tbl : MTbl) (np : Nat) (C : Addr) (sp : Sp) : Prop := ∃ c F, C = Γ.ct c ∧ tbl.lookup c = some F ∧ sp = spD Γ F np
def tMethT (Ms : Addr → Sp → Prop) (m : Str) (E : L2.St → XK) (ta : TE) (t : TA) : TE := fun σ H Q => ta σ H fun x H1 => ∃ a C dx fs sp, x = .ref a ∧ H1 a = some (.ins C dx fs) ∧ fs.lookup m = none ∧ Ms C sp ∧ t σ H1 fun vs H2 => sp (x :: vs) H2 Q (E σ)
/-- the class and the fields of the first -/
def objOf : Option (List D) → Option (Nat × List (Str × D))
  | some (.obj c fs :: _) => some (c, fs)
  | _ => none
theorem objOf_some {o : Option (List D)} {c : Nat} {fs : List (Str × D)} (h : objOf o = some (c, fs)) : ∃ r, o = some (.obj c fs :: r) := by
  unfold objOf at h
  split at h
  · cases h; exact ⟨_, rfl⟩
  · cases h
def cMeth (m : Str) (tbl : MTbl) (o : Opd) (os : List Opd) : CExp := fun ρ => (evO [o] ρ).bind fun xs ρ1 => match objOf (late [o] xs ρ1) with
  | some (c, fs) => if (fs.lookup m).isNone = true then (match tbl.lookup c with
    | some F => (evO os ρ1).bind fun ys ρ2 => callR F (o :: os) (xs ++ ys) ρ2
    | none => .stuck) else .stuck
  | none => .stuck
theorem evO_one {o : Opd} {xs : List (Option D)} (e : evO [o] ρ = .ok xs ρ1) : ∃ y, xs = [y] := by
  cases o with
  | v i =>
    unfold evO at e
    cases q : ρ[i]? with
    | none => rw [q] at e; cases e
    | some w =>
      cases w with
      | none => rw [q] at e; cases e
      | some s => rw [q] at e; simp only [evO, Res.bind_ok] at e; cases e; exact ⟨_, rfl⟩
  | e m =>
    unfold evO at e
    cases q : m ρ with
    | ok s ρ2 => rw [q] at e; simp only [evO, Res.bind_ok] at e; cases e; exact ⟨_, rfl⟩
    | exc c fs ρ2 => rw [q] at e; cases e
    | stuck => rw [q] at e; cases e
theorem OR.app {os os' : List Opd} {xs xs' : List (Option D)} {vs vs' : List V} (h : OR Γ Z σ ρ H os xs vs) (h' : OR Γ Z σ ρ H os' xs' vs') : OR Γ Z σ ρ H (os ++ os') (xs ++ xs') (vs ++ vs') := by
  induction h with
  | nil => exact h'
  | v hv _ ih => exact .v hv ih
  | e hr _ ih => exact .e hr ih
theorem SE.meth {m : Str} {tbl : MTbl} {np : Nat} {te : TE} {ta : TA} {o : Opd} {os : List Opd} (ho : SO Γ W te o) (hA : SA Γ W ta os) (hn : os.length + 1 = np) : SE Γ W (tMethT (MsD Γ tbl np) m (WE W) te ta) (cMeth m tbl o os) := by
  intro Z σ ρ H Q F k
  have run := (SA.cons ho SA.nil).run F (Q := fun vs H1 => ∀ x, vs = [x] → ∃ a C dx fs sp, x = .ref a ∧ H1 a = some (.ins C dx fs) ∧ fs.lookup m = none ∧ MsD Γ tbl np C sp ∧ ta σ H1 fun vs H2 => sp (x :: vs) H2 Q (WE W σ))
  refine (fun z => ?_) (run ?_)
  · exact (show tCons te tNil σ H _ from z) |> fun z => (by
      have : te σ H (fun v H1 => ∀ x, [v] = [x] → ∃ a C dx fs sp, x = .ref a ∧ H1 a = some (.ins C dx fs) ∧ fs.lookup m = none ∧ MsD Γ tbl np C sp ∧ ta σ H1 fun vs H2 => sp (x :: vs) H2 Q (WE W σ)) := z
      have e : (fun v H1 => ∀ x, [v] = [x] → ∃ a C dx fs sp, x = .ref a ∧ H1 a = some (.ins C dx fs) ∧ fs.lookup m = none ∧ MsD Γ tbl np C sp ∧ ta σ H1 fun vs H2 => sp (x :: vs) H2 Q (WE W σ)) = (fun x H1 => ∃ a C dx fs sp, x = V.ref a ∧ H1 a = some (.ins C dx fs) ∧ fs.lookup m = none ∧ MsD Γ tbl np C sp ∧ ta σ H1 fun vs H2 => sp (x :: vs) H2 Q (WE W σ)) := by
        funext v H1
        refine propext ⟨fun h => h v rfl, fun h x e => ?_⟩
        cases e
        exact h
      rw [e] at this
      exact this)
  · unfold cMeth at k
    revert k
    cases q0 : evO [o] ρ with
    | exc c fs ρ' => exact fun k => k
    | stuck => exact fun k => k
    | ok xs ρ1 =>
      intro k vs H1 f1 s1 o1 x ex
      subst ex
      simp only [Res.bind_ok] at k
      cases q1 : objOf (late [o] xs ρ1) with
      | none => rw [q1] at k; exact k.elim
      | some cf =>
        obtain ⟨c, fs⟩ := cf
        obtain ⟨r, q2⟩ := objOf_some q1
        have b := o1.late f1 q2
        rw [q1] at k
        simp only at k
        obtain ⟨a, dx, gs, ex, ha, hk, hr⟩ : ∃ a dx gs, x = V.ref a ∧ H1 a = some (.ins (Γ.ct c) dx gs) ∧ gs.map (·.1) = fs.map (·.1) ∧ Reps Γ (OA Z σ ρ1) H1 (gs.map (·.2)) (fs.map (·.2)) := by
          cases b with
          | cons b1 _ => exact b1.obj_inv
        subst ex
        by_cases hl : (fs.lookup m).isNone = true
        · rw [if_pos hl] at k
          have hl2 : fs.lookup m = none := by simpa using hl
          cases q2 : tbl.lookup c with
          | none => rw [q2] at k; exact k.elim
          | some G =>
            rw [q2] at k
            simp only at k
            refine ⟨a, _, dx, gs, _, rfl, ha, look_none hk hl2, ⟨c, G, rfl, q2, rfl⟩, hA.run f1 ?_⟩
            revert k
            cases evO os ρ1 with
            | exc c fs ρ' => exact fun k => PostX.on s1 k
            | stuck => exact fun k => k
            | ok ys ρ2 =>
              intro k vs2 H2 f2 s2 o2
              simp only [Res.bind_ok] at k
              exact call_core f2 ((o1.step s2 f1).app o2) (by simpa using hn) (EndV.on (s1.trans s2) k)
        · rw [if_neg hl] at k; exact k.elim
end
end VS

namespace VS
open PySem L2 PySem.Spec PyProof.Rows
/-! ### own methods behind the language's words -/
/-- what is known of the method m of the class c -/
structure MOk (P : Program) (w : World) (K : PySem.W.Frag) (mg : Str → Option Value) (base : Heap) (ct : Cn) (k : Nat) (m : Str) (np : Nat) (c : Nat) (F : CFun) : Prop where
  cls : Cls K (ct.ct c)
  sf : PySem.W.selfFirst K (ct.ct c) = true
  ex : ∃ f : Addr, PySem.W.findIn K (.ref (ct.ct c)) m = some (some (.ref f)) ∧ PySem.W.isFn K (.ref f) = true ∧ PySem.W.keepIn K (.ref f) = true ∧ PySem.W.fnIn K f = true ∧ L2.FnR P w K mg base (L2.CX P w) k f (spD ⟨K, ct⟩ F np)
abbrev MtOk (P : Program) (w : World) (K : PySem.W.Frag) (mg : Str → Option Value) (base : Heap) (ct : Cn) (k : Nat) (m : Str) (np : Nat) (tbl : MTbl) : Prop := ∀ c F, tbl.lookup c = some F → MOk P w K mg base ct k m np c F
theorem FnR.mono {P : Program} {w : World} {K : PySem.W.Frag} {mg : Str → Option Value} {base : Heap} {CX : CXT} {k k' : Nat} {f : Addr} {sp : Sp} (h : L2.FnR P w K mg base CX k f sp) (hk : k ≤ k') : L2.FnR P w K mg base CX k' f sp := fun A st s H us vs Q E hr => h A st s H us vs Q E (hr.mono hk)
theorem MOk.mono {P : Program} {w : World} {K : PySem.W.Frag} {mg : Str → Option Value} {base : Heap} {ct : Cn} {k k' : Nat} {m : Str} {np c : Nat} {F : CFun} (h : MOk P w K mg base ct k m np c F) (hk : k ≤ k') : MOk P w K mg base ct k' m np c F := by
  obtain ⟨h1, h2, f, e1, e2, e3, e4, e5⟩ := h
  exact ⟨h1, h2, f, e1, e2, e3, e4, FnR.mono e5 hk⟩
theorem mt_nil {P : Program} {w : World} {K : PySem.W.Frag} {mg : Str → Option Value} {base : Heap} {ct : Cn} {k : Nat} {m : Str} {np : Nat} : MtOk P w K mg base ct k m np [] := fun _ _ e => by cases e
theorem mt_cons {P : Program} {w : World} {K : PySem.W.Frag} {mg : Str → Option Value} {base : Heap} {ct : Cn} {k k' : Nat} {m : Str} {np c : Nat} {F : CFun} {tbl : MTbl} (h : MOk P w K mg base ct k' m np c F) (hk : k' ≤ k) (t : MtOk P w K mg base ct k m np tbl) : MtOk P w K mg base ct k m np ((c, F) :: tbl) := fun c' F' e => by
  rw [List.lookup_cons] at e
  cases q : (c' == c) with
  | true =>
    rw [q] at e
    cases e
    rw [beq_iff_eq.mp q]
    exact h.mono hk
  | false => rw [q] at e; exact t c' F' e
section
variable {X : Cx} {ct : Cn} {k np : Nat} {m : Str} {tbl : MTbl} {E : L2.St → XK}
/-- the call of a def by values, below the running body -/
theorem run_at {f : Addr} {sp : Sp} {E : XK} {A : Around} {pins : List (Addr × Obj)} {σ : L2.St} {H : Hp} {s : Shared} {Q : VK} {us : List Value} {vs : List V} (F : L2.FnR X.prog X.w X.K X.mg X.base (L2.CX X.prog X.w) k f sp) (hr : Room k A) (hfr : A.frames = X.A.frames) (hx : PassesAt (L2.CX X.prog X.w) X σ E)
    (I : L2.Inv X pins σ H s) (r : Vals vs us) (h : sp vs H Q E) : wpAny (model X.prog X.w) A (call (.ref f) us) (EP X pins σ Q) X.xe s := by
  have e := I.env0
  have e0 : Env0 X.prog X.w X.K X.mg X.base A X.stack s H := ⟨by rw [hfr]; exact e.frames, e.mod, e.bs, e.bsz, e.funs, e.frf, e.hok, e.bare⟩
  refine wpAny_call (codeAny_mono (F A X.stack s H us vs Q E hr e0 r h) fun z s' hq => ?_)
  cases z with
  | error e => exact hx pins H s e s' I hq
  | ok fl =>
    cases fl with
    | ret u => exact I.after hq
    | next => exact hq.elim
    | brk => exact hq.elim
    | cont => exact hq.elim
theorem inst_of {pins : List (Addr × Obj)} {σ : L2.St} {H : Hp} {s : Shared} {a C dx : Addr} {fs : List (Str × V)} (I : L2.Inv X pins σ H s) (e : H a = some (.ins C dx fs)) : ∃ ox od, PySem.W.InstAt s.heap a ox C od ∧ ox.data = .plain := by
  obtain ⟨mA, O, _⟩ := ins_get I.hok e
  obtain ⟨od, J, _⟩ := O.look
  exact ⟨_, _, J, rfl⟩
/-- o.m(..) -/
theorem pe_methT {o e : Expr} {es : List Expr} {ta : TE} {t : TA} {apos pos : Pos} {pl : Sem Bool} (he : PE X o ta) (hM : MtOk X.prog X.w X.K X.mg X.base ct k m np tbl) (hr : Room k X.A) (hx : ∀ σ, PassesAt (L2.CX X.prog X.w) X σ (E σ)) (ha : PA X (e :: es) t)
    (hst : starEach (e :: es) X.env = (false, eval e X.env) :: starEach es X.env := by rfl) (hpl : (backTo pos (starEach es X.env)).any (·.1) = false := by rfl)
    (ht : eval (.Call (.Attribute o m apos) (e :: es) [] pos) X.env = (do
      let ov ← eval o X.env
      standAt apos.atName
      let (f, first) ← holding [ov] (getMethod ov m pl)
      callWith pos f first (backTo pos (starEach (e :: es) X.env)) (backToKw pos (keywordEach [] X.env))) := by rfl) :
    PE X (.Call (.Attribute o m apos) (e :: es) [] pos) (tMethT (MsD ⟨X.K, ct⟩ tbl np) m E ta t) := by
  refine ⟨fun pins s σ H Q I h => ?_⟩
  refine PySem.W.methodCall_KW (pl := pl) (thn (he.run pins s σ H _ I h) fun u s1 ⟨x, H1, I1, rx, a, C, dx, fs, sp, ex, ea, l, ⟨c, F, eC, hF, hsp⟩, q⟩ => ?_) ht
  subst ex eC hsp
  obtain rfl : u = Value.ref a := rx
  obtain ⟨h1, h2, f, e1, e2, e3, e4, e5⟩ := hM c F hF
  refine getmeth_ok I1 ea h1 ⟨e1, e2, e3⟩ l ?_
  refine PySem.W.callWith_K (h₀ := X.base) (first := [.ref a]) I1.ok.mod.kin e3 (thn (ha.run pos pins s1 σ H1 _ I1 q) fun us s2 ⟨vs, H2, I2, r, q2⟩ => ⟨I2.kIn, ?_⟩) hst hpl
  exact run_fnRS (us := .ref a :: us) (vs := .ref a :: vs) e5 hr (hx σ) I2 (.cons rfl r) q2
theorem pe_methT0 {o : Expr} {ta : TE} {apos pos : Pos} {pl : Sem Bool} (he : PE X o ta) (hM : MtOk X.prog X.w X.K X.mg X.base ct k m np tbl) (hr : Room k X.A) (hx : ∀ σ, PassesAt (L2.CX X.prog X.w) X σ (E σ))
    (ht : eval (.Call (.Attribute o m apos) [] [] pos) X.env = (do
      let ov ← eval o X.env
      standAt apos.atName
      let (f, first) ← holding [ov] (getMethod ov m pl)
      callWith pos f first (backTo pos (starEach [] X.env)) (backToKw pos (keywordEach [] X.env))) := by rfl) :
    PE X (.Call (.Attribute o m apos) [] [] pos) (tMethT (MsD ⟨X.K, ct⟩ tbl np) m E ta tNil) := by
  refine ⟨fun pins s σ H Q I h => ?_⟩
  refine PySem.W.methodCall_KW (pl := pl) (thn (he.run pins s σ H _ I h) fun u s1 ⟨x, H1, I1, rx, a, C, dx, fs, sp, ex, ea, l, ⟨c, F, eC, hF, hsp⟩, q⟩ => ?_) ht
  subst ex eC hsp
  obtain rfl : u = Value.ref a := rx
  obtain ⟨h1, h2, f, e1, e2, e3, e4, e5⟩ := hM c F hF
  refine getmeth_ok I1 ea h1 ⟨e1, e2, e3⟩ l ?_
  exact PySem.W.callWith_K0 (first := [.ref a]) I1.kIn e3 (run_fnRS (us := [.ref a]) (vs := [.ref a]) e5 hr (hx σ) I1 (.cons rfl .nil) q)
/-! operators whose reading may look at the slots -/
abbrev R2S := L2.St → V → V → Hp → VK → Prop
def OpRS (X : Cx) (f : Value → Value → Sem Value) (r : R2S) : Prop :=
  ∀ (pins : List (Addr × Obj)) (s : Shared) (σ : L2.St) (H : Hp) (x y : V) (v u : Value) (Q : VK), L2.Inv X pins σ H s → RelV x v → RelV y u → r σ x y H Q →
    wpAny (model X.prog X.w) X.A (f v u) (EP X pins σ Q) X.xe s
def CallRS (X : Cx) (f : Value) (r : L2.St → List V → Hp → VK → Prop) : Prop :=
  ∀ (pins : List (Addr × Obj)) (s : Shared) (σ : L2.St) (H : Hp) (xs : List V) (us : List Value) (Q : VK), L2.Inv X pins σ H s → Vals xs us → r σ xs H Q →
    wpAny (model X.prog X.w) X.A (call f us) (EP X pins σ Q) X.xe s
def IxRS (X : Cx) (r : R2S) : Prop :=
  ∀ (value slice : Expr) (pins : List (Addr × Obj)) (s : Shared) (σ : L2.St) (H : Hp) (x y : V) (v u : Value) (Q : VK), L2.Inv X pins σ H s → RelV x v → RelV y u → r σ x y H Q →
    subscripted slice false v u = operate [v, u] (getItem v u) → (∀ o i, subscripted slice true o i = runValue (.builtin "lifetime.subscript" ⟨[o, i], []⟩)) → wpAny (model X.prog X.w) X.A (subscriptTail value slice v u) (EP X pins σ Q) X.xe s
def tOpS (r : R2S) (ta tb : TE) : TE := fun σ H Q => ta σ H fun x H1 => tb σ H1 fun y H2 => r σ x y H2 Q
def tCBS (r : L2.St → List V → Hp → VK → Prop) (t : TA) : TE := fun σ H Q => t σ H fun vs H1 => r σ vs H1 Q
theorem OpRS.or {f : Value → Value → Sem Value} {r : R2} {r' : R2S} (h : OpR X f r) (h' : OpRS X f r') : OpRS X f (fun σ x y H Q => r x y H Q ∨ r' σ x y H Q) := by
  intro pins s σ H x y v u Q I rx ry q
  rcases q with q | q
  · exact h pins s σ H x y v u Q I rx ry q
  · exact h' pins s σ H x y v u Q I rx ry q
theorem CallRS.or {f : Value} {r : List V → Hp → VK → Prop} {r' : L2.St → List V → Hp → VK → Prop} (h : CallR X f r) (h' : CallRS X f r') : CallRS X f (fun σ x H Q => r x H Q ∨ r' σ x H Q) := by
  intro pins s σ H xs us Q I rs q
  rcases q with q | q
  · exact h pins s σ H xs us Q I rs q
  · exact h' pins s σ H xs us Q I rs q
theorem IxRS.or {r : R2} {r' : R2S} (h : IxR X r) (h' : IxRS X r') : IxRS X (fun σ x y H Q => r x y H Q ∨ r' σ x y H Q) := by
  intro a b pins s σ H x y v u Q I rx ry q hs hs2
  rcases q with q | q
  · exact h a b pins s σ H x y v u Q I rx ry q hs
  · exact h' a b pins s σ H x y v u Q I rx ry q hs hs2
theorem pe_opS {a b : Expr} {ta tb : TE} {pos : Pos} {op : Operator} {r : R2S} (ho : OpRS X (binaryOp op) r) (ha : PE X a ta) (hb : PE X b tb) : PE X (.BinOp a op b pos) (tOpS r ta tb) :=
  ⟨fun pins s σ H Q I h => wpAny_BinOp (binT ha hb I h fun v u s2 x y H2 I2 rx ry q => ho pins s2 σ H2 x y v u Q I2 rx ry q)⟩
theorem pe_cmpS {a b : Expr} {ta tb : TE} {pos : Pos} {op : CmpOp} {r : R2S} (ho : OpRS X (compareOp op) r) (ha : PE X a ta) (hb : PE X b tb) (hm : behindInMarks op b = false) : PE X (.Compare a [op] [b] pos) (tOpS r ta tb) :=
  ⟨fun pins s σ H Q I h => wpAny_Compare1 (binT ha hb I h fun v u s2 x y H2 I2 rx ry q => ho pins s2 σ H2 x y v u Q I2 rx ry q) hm⟩
theorem pt_cmpS {a b : Expr} {ta tb : TE} {pos : Pos} {op : CmpOp} {r : R2S} (ho : OpRS X (compareOp op) r) (ha : PE X a ta) (hb : PE X b tb) (hm : behindInMarks op b = false) : PT X (.Compare a [op] [b] pos) (tTest (tOpS r ta tb)) := by
  refine ⟨fun pins s σ H Q I h => ?_⟩
  refine wpAny_isTrue_Compare1 (thn (ha.run pins s σ H _ I h) fun v s1 ⟨x, H1, I1, r1, q1⟩ => thn (hb.run pins s1 σ H1 _ I1 q1) fun u s2 ⟨y, H2, I2, r2, q2⟩ =>
    thn (ho pins s2 σ H2 x y v u _ I2 r1 r2 q2) fun c s3 ⟨z, H3, I3, r3, k, e, q3⟩ => ?_) hm
  subst e
  cases r3
  exact wpAny_truthy_bool ⟨H3, I3, q3⟩
theorem pe_callBS {id : String} {r : L2.St → List V → Hp → VK → Prop} {x : Str} {p pos : Pos} {e : Expr} {es : List Expr} {t : TA} (hc : CallRS X (.builtin id) r) (hg : Gl X x) (hm : X.mg x = none) (hv : bootBuiltins x = some (.builtin id)) (ha : PA X (e :: es) t) (hn : x ≠ "__name__" := by decide) (hdb : (x == ("__debug__" : Str)) = false := by decide)
    (he : starEach (e :: es) X.env = (false, eval e X.env) :: starEach es X.env := by rfl) (hpl : (backTo pos (starEach es X.env)).any (·.1) = false := by rfl) : PE X (.Call (.Name x p) (e :: es) [] pos) (tCBS r t) := by
  refine ⟨fun pins s σ H Q I h => ?_⟩
  refine wpAny_Call_Name_kw (ld_blt I hg hm hv ?_ hn hdb)
  exact PyProof.Rows.callWith_builtin1 (thn (ha.run pos pins s σ H _ I h) fun us s1 ⟨vs, H1, I1, r1, q1⟩ => hc pins s1 σ H1 vs us Q I1 r1 q1) he hpl
theorem pe_ixS {a b : Expr} {ta tb : TE} {pos : Pos} {r : R2S} (hr : IxRS X r) (ha : PE X a ta) (hb : PE X b tb) (hs : PlainIx b) (hs2 : ∀ o i, subscripted b true o i = runValue (.builtin "lifetime.subscript" ⟨[o, i], []⟩)) : PE X (.Subscript a b pos) (tOpS r ta tb) :=
  ⟨fun pins s σ H Q I h => Subscript_ (binT ha hb I h fun v u s2 x y H2 I2 rx ry q => hr a b pins s2 σ H2 x y v u Q I2 rx ry q (hs _ _) hs2)⟩
/-! by values: the first is the object -/
def rDun (Ms : Addr → Sp → Prop) (E : XK) (vs : List V) (H : Hp) (Q : VK) : Prop := ∃ a C dx fs sp r, vs = V.ref a :: r ∧ H a = some (.ins C dx fs) ∧ Ms C sp ∧ sp vs H Q E
def rBinC (Ms : Addr → Sp → Prop) (E : L2.St → XK) : R2S := fun σ x y H Q => (∃ a b C dx dy fs gs, x = V.ref a ∧ y = V.ref b ∧ H a = some (.ins C dx fs) ∧ H b = some (.ins C dy gs)) ∧ rDun Ms (E σ) [x, y] H Q
def rInC (neg : Bool) (Ms : Addr → Sp → Prop) (E : L2.St → XK) : R2S := fun σ x y H Q => rDun Ms (E σ) [y, x] H fun v H' => ∃ b, v = .bl b ∧ Q (.bl (b != neg)) H'
def rLenC (Ms : Addr → Sp → Prop) (E : L2.St → XK) : L2.St → List V → Hp → VK → Prop := fun σ vs H Q => vs.length = 1 ∧ rDun Ms (E σ) vs H fun v H' => ∃ n : Int, v = .int n ∧ (0 ≤ n ∧ n < 2 ^ 63) ∧ Q (.int n) H'
def rIxC (Ms : Addr → Sp → Prop) (E : L2.St → XK) : R2S := fun σ x y H Q => rDun Ms (E σ) [x, y] H Q
theorem op_binC {op : Operator} (hM : MtOk X.prog X.w X.K X.mg X.base ct k (PySem.dunder op.info.2) np tbl) (hr : Room k X.A) (hx : ∀ σ, PassesAt (L2.CX X.prog X.w) X σ (E σ)) : OpRS X (binaryOp op) (rBinC (MsD ⟨X.K, ct⟩ tbl np) E) := by
  intro pins s σ H x y v u Q I rx ry h
  obtain ⟨⟨a, b, C, dx, dy, fs, gs, rfl, rfl, ha, hb⟩, a', C', dx', fs', sp, r, e, ha', ⟨c, F, rfl, hF, rfl⟩, q⟩ := h
  cases e
  rw [ha] at ha'
  cases ha'
  cases rx
  cases ry
  obtain ⟨h1, h2, f, e1, e2, e3, e4, e5⟩ := hM c F hF
  obtain ⟨ox, od, J, _⟩ := inst_of I ha
  obtain ⟨oy, od2, J2, _⟩ := inst_of I hb
  obtain ⟨m, hFr⟩ := I.fr
  refine PySem.W.binop_K hFr I.ok.mod.kin J J2.type h2 e1 e2 ?_
  refine wpAny_mono (run_fnRS (us := [.ref a, .ref b]) (vs := [.ref a, .ref b]) e5 hr (hx σ) I (.cons rfl (.cons rfl .nil)) q) (fun v s' z => ?_) fun _ _ z => z
  obtain ⟨w, H', I', rw', q'⟩ := z
  cases w with
  | non => cases rw'; exact ⟨.non, H', I', rfl, q'⟩
  | bl b => cases rw'; exact ⟨.bl b, H', I', rfl, q'⟩
  | int i => obtain ⟨t, rfl⟩ := rw'; exact ⟨.int i, H', I', ⟨t, rfl⟩, q'⟩
  | str i => obtain ⟨t, rfl⟩ := rw'; exact ⟨.str i, H', I', ⟨t, rfl⟩, q'⟩
  | byt i => obtain ⟨t, rfl⟩ := rw'; exact ⟨.byt i, H', I', ⟨t, rfl⟩, q'⟩
  | flt i => obtain ⟨t, rfl⟩ := rw'; exact ⟨.flt i, H', I', ⟨t, rfl⟩, q'⟩
  | ref a => cases rw'; exact ⟨.ref a, H', I', rfl, q'⟩
  | ty n => cases rw'; exact ⟨.ty n, H', I', rfl, q'⟩
theorem op_inC (hM : MtOk X.prog X.w X.K X.mg X.base ct k "__contains__" np tbl) (hr : Room k X.A) (hx : ∀ σ, PassesAt (L2.CX X.prog X.w) X σ (E σ)) : OpRS X (compareOp .In) (rInC false (MsD ⟨X.K, ct⟩ tbl np) E) := by
  intro pins s σ H x y v u Q I rx ry h
  obtain ⟨a, C, dx, fs, sp, r, e, ha, ⟨c, F, rfl, hF, rfl⟩, q⟩ := h
  cases e
  cases ry
  obtain ⟨h1, h2, f, e1, e2, e3, e4, e5⟩ := hM c F hF
  obtain ⟨ox, od, J, _⟩ := inst_of I ha
  obtain ⟨m, hFr⟩ := I.fr
  refine PySem.W.in_K hFr I.ok.mod.kin J e1 e2 ?_
  refine wpAny_mono (run_fnRS (us := [.ref a, v]) (vs := [.ref a, x]) e5 hr (hx σ) I (.cons rfl (.cons rx .nil)) q) (fun v s' z => ?_) fun _ _ z => z
  obtain ⟨w, H', I', rw', b, rfl, q'⟩ := z
  cases rw'
  refine wpAny_truthy_bool ⟨.bl b, H', I', rfl, ?_⟩
  simpa using q'
theorem op_niC (hM : MtOk X.prog X.w X.K X.mg X.base ct k "__contains__" np tbl) (hr : Room k X.A) (hx : ∀ σ, PassesAt (L2.CX X.prog X.w) X σ (E σ)) : OpRS X (compareOp .NotIn) (rInC true (MsD ⟨X.K, ct⟩ tbl np) E) := by
  intro pins s σ H x y v u Q I rx ry h
  obtain ⟨a, C, dx, fs, sp, r, e, ha, ⟨c, F, rfl, hF, rfl⟩, q⟩ := h
  cases e
  cases ry
  obtain ⟨h1, h2, f, e1, e2, e3, e4, e5⟩ := hM c F hF
  obtain ⟨ox, od, J, _⟩ := inst_of I ha
  obtain ⟨m, hFr⟩ := I.fr
  refine PySem.W.notIn_K hFr I.ok.mod.kin J e1 e2 ?_
  refine wpAny_mono (run_fnRS (us := [.ref a, v]) (vs := [.ref a, x]) e5 hr (hx σ) I (.cons rfl (.cons rx .nil)) q) (fun v s' z => ?_) fun _ _ z => z
  obtain ⟨w, H', I', rw', b, rfl, q'⟩ := z
  cases rw'
  refine wpAny_truthy_bool ⟨.bl (!b), H', I', rfl, ?_⟩
  simpa using q'
theorem call_lenC (hM : MtOk X.prog X.w X.K X.mg X.base ct k "__len__" np tbl) (hr : Room (k + 1) X.A) (hx : ∀ σ, PassesAt (L2.CX X.prog X.w) X σ (E σ)) : CallRS X (.builtin "len") (rLenC (MsD ⟨X.K, ct⟩ tbl np) E) := by
  intro pins s σ H xs us Q I rs h
  obtain ⟨hl, a, C, dx, fs, sp, r, rfl, ha, ⟨c, F, rfl, hF, rfl⟩, q⟩ := h
  cases r with
  | cons _ _ => simp at hl
  | nil =>
    cases rs with
    | cons r1 r2 =>
      cases r2
      cases r1
      obtain ⟨h1, h2, f, e1, e2, e3, e4, e5⟩ := hM c F hF
      obtain ⟨ox, od, J, _⟩ := inst_of I ha
      obtain ⟨m, hFr⟩ := I.fr
      refine PySem.W.len_K hFr I.ok.mod.kin J e1 e2 ?_
      refine wpAny_mono (run_at (us := [.ref a]) (vs := [.ref a]) e5 hr.in1 rfl (hx σ) I (.cons rfl .nil) q) (fun v s' z => ?_) fun _ _ z => z
      obtain ⟨w, H', I', rw', n, rfl, hn, q'⟩ := z
      obtain ⟨t, rfl⟩ := rw'
      exact ⟨hn, .int n, H', I'.tok _, ⟨_, rfl⟩, q'⟩
theorem ix_C (hM : MtOk X.prog X.w X.K X.mg X.base ct k "__getitem__" np tbl) (hr : Room (k + 1) X.A) (hx : ∀ σ, PassesAt (L2.CX X.prog X.w) X σ (E σ)) : IxRS X (rIxC (MsD ⟨X.K, ct⟩ tbl np) E) := by
  intro value slice pins s σ H x y v u Q I rx ry h hs hs2
  obtain ⟨a, C, dx, fs, sp, r, e, ha, ⟨c, F, rfl, hF, rfl⟩, q⟩ := h
  cases e
  cases rx
  obtain ⟨h1, h2, f, e1, e2, e3, e4, e5⟩ := hM c F hF
  obtain ⟨ox, od, J, _⟩ := inst_of I ha
  obtain ⟨m, hFr⟩ := I.fr
  exact PySem.W.sub_K hFr I.ok.mod.kin J e1 e4 e2 (run_at (us := [.ref a, u]) (vs := [.ref a, y]) e5 hr.in1 rfl (hx σ) I (.cons rfl (.cons ry .nil)) q) (hs2 _ _)
/-- f(e, ..), f an expression that gives an instance -/
def tCallT (Ms : Addr → Sp → Prop) (E : L2.St → XK) (tf : TE) (t : TA) : TE := fun σ H Q => tf σ H fun y H1 => (∃ a, y = V.ref a) ∧ t σ H1 fun vs H2 => rDun Ms (E σ) (y :: vs) H2 Q
theorem pe_callT {fe e : Expr} {es : List Expr} {tf : TE} {t : TA} {pos : Pos} (hf : PE X fe tf) (hM : MtOk X.prog X.w X.K X.mg X.base ct k "__call__" np tbl) (hr : Room k X.A) (hx : ∀ σ, PassesAt (L2.CX X.prog X.w) X σ (E σ)) (ha : PA X (e :: es) t)
    (ht : eval (.Call fe (e :: es) [] pos) X.env = (do callWith pos (← eval fe X.env) [] (backTo pos (starEach (e :: es) X.env)) (backToKw pos (keywordEach [] X.env))) := by rfl)
    (he : starEach (e :: es) X.env = (false, eval e X.env) :: starEach es X.env := by rfl) (hpl : (backTo pos (starEach es X.env)).any (·.1) = false := by rfl) : PE X (.Call fe (e :: es) [] pos) (tCallT (MsD ⟨X.K, ct⟩ tbl np) E tf t) := by
  refine ⟨fun pins s σ H Q I h => ?_⟩
  refine Call_ (thn (hf.run pins s σ H _ I h) fun u s1 ⟨y, H1, I1, ry, ⟨a, ey⟩, q⟩ => ?_) ht
  subst ey
  obtain rfl : u = Value.ref a := ry
  refine StX.callO_with (thn (ha.run pos pins s1 σ H1 _ I1 q) fun us s2 ⟨vs, H2, I2, r, a', C, dx, fs, sp, rr, e, ha', ⟨c, F, eC, hF, hsp⟩, q2⟩ => ?_) he hpl
  cases e
  subst eC hsp
  obtain ⟨h1, h2, f, e1, e2, e3, e4, e5⟩ := hM c F hF
  obtain ⟨ox, od, J, hd⟩ := inst_of I2 ha'
  refine ⟨⟨_, ox, od, J, hd⟩, ?_⟩
  refine wpAny_call (PySem.W.kco_code I2.kIn J hd e1 e2 e4 (codeAny_mono (e5 X.A X.stack s2 H2 (.ref a :: us) (.ref a :: vs) Q (E σ) hr I2.env0 (.cons rfl r) q2) fun z s' hq => ?_))
  cases z with
  | error e => exact hx σ pins H2 s2 e s' I2 hq
  | ok fl =>
    cases fl with
    | ret u => exact I2.after hq
    | next => exact hq.elim
    | brk => exact hq.elim
    | cont => exact hq.elim
end
end VS

namespace VS
open PySem L2
/-! ### the meaning of own methods behind the language's words -/
def dunR (tbl : MTbl) (os : List Opd) (xs : List (Option D)) (ρ1 : Sl) : Res Slot := match objOf (late os xs ρ1) with
  | some (c, _) => (match tbl.lookup c with
    | some F => callR F os xs ρ1
    | none => .stuck)
  | none => .stuck
def boolOut (neg : Bool) : Slot → Sl → Res Slot := fun s ρ => match s.1 with
  | .bl b => .ok (.bl (b != neg), false) ρ
  | _ => .stuck
def lenOut : Slot → Sl → Res Slot := fun s ρ => match s.1 with
  | .int n => if 0 ≤ n ∧ n.natAbs < 9223372036854775808 then .ok (.int n, false) ρ else .stuck
  | _ => .stuck
/-- the second's class and fields -/
def objOf2 (o : Option (List D)) : Option (Nat × List (Str × D)) := objOf (o.map List.tail)
def binR (f : List D → Option Slot) (tbl : MTbl) (o1 o2 : Opd) (xs : List (Option D)) (ρ1 : Sl) : Res Slot := match objOf (late [o1, o2] xs ρ1) with
  | some (c, _) => (match objOf2 (late [o1, o2] xs ρ1) with
    | some (c2, _) => if c2 = c then dunR tbl [o1, o2] xs ρ1 else .stuck
    | none => .stuck)
  | none => fin f [o1, o2] xs ρ1
def cOpC (f : List D → Option Slot) (tbl : MTbl) (o1 o2 : Opd) : CExp := fun ρ => (evO [o1, o2] ρ).bind fun xs ρ1 => binR f tbl o1 o2 xs ρ1
def inR (f : List D → Option Slot) (neg : Bool) (tbl : MTbl) (o1 o2 : Opd) (xs : List (Option D)) (ρ1 : Sl) : Res Slot := match objOf2 (late [o1, o2] xs ρ1) with
  | some _ => (dunR tbl [o2, o1] xs.reverse ρ1).bind (boolOut neg)
  | none => fin f [o1, o2] xs ρ1
def cInC (f : List D → Option Slot) (neg : Bool) (tbl : MTbl) (o1 o2 : Opd) : CExp := fun ρ => (evO [o1, o2] ρ).bind fun xs ρ1 => inR f neg tbl o1 o2 xs ρ1
def lenR (tbl : MTbl) (o : Opd) (xs : List (Option D)) (ρ1 : Sl) : Res Slot := match objOf (late [o] xs ρ1) with
  | some _ => (dunR tbl [o] xs ρ1).bind lenOut
  | none => fin pLen [o] xs ρ1
def cLenC (tbl : MTbl) (o : Opd) : CExp := fun ρ => (evO [o] ρ).bind fun xs ρ1 => lenR tbl o xs ρ1
def ixR (tbl : MTbl) (o1 o2 : Opd) (xs : List (Option D)) (ρ1 : Sl) : Res Slot := match objOf (late [o1, o2] xs ρ1) with
  | some _ => dunR tbl [o1, o2] xs ρ1
  | none => fin pIdx [o1, o2] xs ρ1
def cIxC (tbl : MTbl) (o1 o2 : Opd) : CExp := fun ρ => (evO [o1, o2] ρ).bind fun xs ρ1 => ixR tbl o1 o2 xs ρ1
def cCallO (tbl : MTbl) (o : Opd) (os : List Opd) : CExp := fun ρ => (evO [o] ρ).bind fun xs ρ1 => match objOf (late [o] xs ρ1) with
  | some _ => (evO os ρ1).bind fun ys ρ2 => dunR tbl (o :: os) (xs ++ ys) ρ2
  | none => .stuck
section
variable {Γ : Gm} {W : WX} {Z : Addr → Prop} {σ σ1 : L2.St} {ρ ρ1 ρ' : Sl} {H H1 H' : Hp} {O : Addr → Prop} {fx : List Nat} {np : Nat} {tbl : MTbl}
theorem dun_core {os : List Opd} {xs : List (Option D)} {vs : List V} {Q : VK} (f1 : FR Γ Z σ ρ1 H1) (o : OR Γ Z σ ρ1 H1 os xs vs) (hn : os.length = np) (k : EndV Γ Z σ ρ1 H1 (dunR tbl os xs ρ1) W Q) : rDun (MsD Γ tbl np) (WE W σ) vs H1 Q := by
  unfold dunR at k
  cases q1 : objOf (late os xs ρ1) with
  | none => rw [q1] at k; exact k.elim
  | some cf =>
    obtain ⟨c, fs⟩ := cf
    obtain ⟨r, q2⟩ := objOf_some q1
    have b := o.late f1 q2
    rw [q1] at k
    simp only at k
    cases b with
    | @cons v vs' _ _ b1 _ =>
      obtain ⟨a, dx, gs, rfl, ha, hk, hr⟩ := b1.obj_inv
      cases q3 : tbl.lookup c with
      | none => rw [q3] at k; exact k.elim
      | some F =>
        rw [q3] at k
        exact ⟨a, _, dx, gs, _, vs', rfl, ha, ⟨c, F, rfl, q3, rfl⟩, call_core f1 o hn k⟩
theorem end_bool {neg : Bool} {r : Res Slot} {Q : VK} (k : EndV Γ Z σ ρ H (r.bind (boolOut neg)) W Q) : EndV Γ Z σ ρ H r W (fun v H' => ∃ b, v = .bl b ∧ Q (.bl (b != neg)) H') := by
  cases r with
  | exc c fs ρ1 => exact k
  | stuck => exact k
  | ok s ρ1 =>
    obtain ⟨d, b⟩ := s
    simp only [Res.bind_ok, boolOut] at k
    cases d with
    | bl x =>
      cases b with
      | false =>
        intro v H' f s r
        cases r
        exact ⟨x, rfl, k _ H' f s (.bl _)⟩
      | true =>
        intro a H' f s n q r
        cases r
    | _ => exact k.elim
theorem end_len {r : Res Slot} {Q : VK} (k : EndV Γ Z σ ρ H (r.bind lenOut) W Q) : EndV Γ Z σ ρ H r W (fun v H' => ∃ n : Int, v = .int n ∧ (0 ≤ n ∧ n < 2 ^ 63) ∧ Q (.int n) H') := by
  cases r with
  | exc c fs ρ1 => exact k
  | stuck => exact k
  | ok s ρ1 =>
    obtain ⟨d, b⟩ := s
    simp only [Res.bind_ok, lenOut] at k
    cases d with
    | int x =>
      simp only at k
      by_cases hx : 0 ≤ x ∧ x.natAbs < 9223372036854775808
      · rw [if_pos hx] at k
        cases b with
        | false =>
          intro v H' f s r
          cases r
          exact ⟨x, rfl, ⟨hx.1, by have := hx.2; omega⟩, k _ H' f s (.int _)⟩
        | true =>
          intro a H' f s n q r
          cases r
      · rw [if_neg hx] at k; exact k.elim
    | _ => exact k.elim
theorem OR.two {o1 o2 : Opd} {xs : List (Option D)} {vs : List V} (h : OR Γ Z σ ρ H [o1, o2] xs vs) : ∃ x1 x2 v1 v2, xs = [x1, x2] ∧ vs = [v1, v2] ∧ OR Γ Z σ ρ H [o1] [x1] [v1] ∧ OR Γ Z σ ρ H [o2] [x2] [v2] := by
  cases h with
  | v h1 h2 =>
    cases h2 with
    | v h3 h4 => cases h4; exact ⟨_, _, _, _, rfl, rfl, .v h1 .nil, .v h3 .nil⟩
    | e h3 h4 => cases h4; exact ⟨_, _, _, _, rfl, rfl, .v h1 .nil, .e h3 .nil⟩
  | e h1 h2 =>
    cases h2 with
    | v h3 h4 => cases h4; exact ⟨_, _, _, _, rfl, rfl, .e h1 .nil, .v h3 .nil⟩
    | e h3 h4 => cases h4; exact ⟨_, _, _, _, rfl, rfl, .e h1 .nil, .e h3 .nil⟩
/-- all operands, then what is asked of their values -/
theorem SE.all {r : L2.St → List V → Hp → VK → Prop} {g : List (Option D) → Sl → Res Slot} {ta : TA} {os : List Opd} (ha : SA Γ W ta os) (hg : ∀ Z σ ρ1 H1 xs vs Q, FR Γ Z σ ρ1 H1 → OR Γ Z σ ρ1 H1 os xs vs → EndV Γ Z σ ρ1 H1 (g xs ρ1) W Q → r σ vs H1 Q) : SE Γ W (tCBS r ta) (fun ρ => (evO os ρ).bind g) := by
  intro Z σ ρ H Q F k
  refine ha.run F ?_
  change EndV Γ Z σ ρ H ((evO os ρ).bind g) W Q at k
  revert k
  cases evO os ρ with
  | ok xs ρ' => exact fun k vs H' f' s o => hg _ _ _ _ _ _ _ f' o (EndV.on s k)
  | exc c fs ρ' => exact fun k => k
  | stuck => exact fun k => k
def r2s (r : R2S) : L2.St → List V → Hp → VK → Prop := fun σ vs H Q => match vs with
  | [x, y] => r σ x y H Q
  | _ => False
theorem SE.binC {r : R2} {f : List D → Option Slot} {ta tb : TE} {o1 o2 : Opd} (hr : PrimR Γ (r2l r) f) (h1 : SO Γ W ta o1) (h2 : SO Γ W tb o2) : SE Γ W (tOpS (fun σ x y H Q => r x y H Q ∨ rBinC (MsD Γ tbl 2) (WE W) σ x y H Q) ta tb) (cOpC f tbl o1 o2) := by
  refine SE.all (r := r2s (fun σ x y H Q => r x y H Q ∨ rBinC (MsD Γ tbl 2) (WE W) σ x y H Q)) (.cons h1 (.cons h2 .nil)) fun Z σ ρ1 H1 xs vs Q f1 o k => ?_
  obtain ⟨x1, x2, v1, v2, rfl, rfl, p1, p2⟩ := o.two
  show r v1 v2 H1 Q ∨ rBinC (MsD Γ tbl 2) (WE W) σ v1 v2 H1 Q
  unfold binR at k
  cases q1 : objOf (late [o1, o2] [x1, x2] ρ1) with
  | none =>
    rw [q1] at k
    exact .inl (prim_end hr f1 o k)
  | some cf =>
    obtain ⟨c, fs⟩ := cf
    rw [q1] at k
    simp only at k
    cases q2 : objOf2 (late [o1, o2] [x1, x2] ρ1) with
    | none => rw [q2] at k; exact k.elim
    | some cf2 =>
      obtain ⟨c2, fs2⟩ := cf2
      rw [q2] at k
      simp only at k
      by_cases hc : c2 = c
      · rw [if_pos hc] at k
        subst hc
        obtain ⟨r1, q3⟩ := objOf_some q1
        have b := o.late f1 q3
        have q4 : ∃ r2, r1 = .obj c2 fs2 :: r2 := by
          unfold objOf2 at q2
          rw [q3] at q2
          obtain ⟨r2, q5⟩ := objOf_some q2
          exact ⟨r2, by simpa using q5⟩
        obtain ⟨r2, rfl⟩ := q4
        refine .inr ⟨?_, dun_core f1 o rfl k⟩
        cases b with
        | cons b1 b2 =>
          cases b2 with
          | cons b2 _ =>
            obtain ⟨a, dx, gs, rfl, ha, _, _⟩ := b1.obj_inv
            obtain ⟨a2, dx2, gs2, rfl, ha2, _, _⟩ := b2.obj_inv
            exact ⟨a, a2, _, dx, dx2, gs, gs2, rfl, rfl, ha, ha2⟩
      · rw [if_neg hc] at k; exact k.elim
theorem SE.inC {r : R2} {f : List D → Option Slot} {neg : Bool} {ta tb : TE} {o1 o2 : Opd} (hr : PrimR Γ (r2l r) f) (h1 : SO Γ W ta o1) (h2 : SO Γ W tb o2) : SE Γ W (tOpS (fun σ x y H Q => r x y H Q ∨ rInC neg (MsD Γ tbl 2) (WE W) σ x y H Q) ta tb) (cInC f neg tbl o1 o2) := by
  refine SE.all (r := r2s (fun σ x y H Q => r x y H Q ∨ rInC neg (MsD Γ tbl 2) (WE W) σ x y H Q)) (.cons h1 (.cons h2 .nil)) fun Z σ ρ1 H1 xs vs Q f1 o k => ?_
  obtain ⟨x1, x2, v1, v2, rfl, rfl, p1, p2⟩ := o.two
  show r v1 v2 H1 Q ∨ rInC neg (MsD Γ tbl 2) (WE W) σ v1 v2 H1 Q
  unfold inR at k
  cases q1 : objOf2 (late [o1, o2] [x1, x2] ρ1) with
  | none =>
    rw [q1] at k
    exact .inl (prim_end hr f1 o k)
  | some cf =>
    rw [q1] at k
    simp only at k
    exact .inr (dun_core (os := [o2, o1]) (xs := [x2, x1]) (vs := [v2, v1]) f1 (p2.app p1) rfl (end_bool k))
theorem SE.lenC {ta : TA} {o1 : Opd} (h1 : SA Γ W ta [o1]) : SE Γ W (tCBS (fun σ vs H Q => rLen1 Γ.K vs H Q ∨ rLenC (MsD Γ tbl 1) (WE W) σ vs H Q) ta) (cLenC tbl o1) := by
  refine SE.all h1 fun Z σ ρ1 H1 xs vs Q f1 o k => ?_
  unfold lenR at k
  cases q1 : objOf (late [o1] xs ρ1) with
  | none =>
    rw [q1] at k
    exact .inl (prim_end prLen f1 o k)
  | some cf =>
    rw [q1] at k
    simp only at k
    refine .inr ⟨?_, dun_core f1 o rfl (end_len k)⟩
    cases o with
    | v _ h => cases h; rfl
    | e _ h => cases h; rfl
theorem SE.ixC {ta tb : TE} {o1 o2 : Opd} (h1 : SO Γ W ta o1) (h2 : SO Γ W tb o2) : SE Γ W (tOpS (fun σ x y H Q => rIdx Γ.K x y H Q ∨ rIxC (MsD Γ tbl 2) (WE W) σ x y H Q) ta tb) (cIxC tbl o1 o2) := by
  refine SE.all (r := r2s (fun σ x y H Q => rIdx Γ.K x y H Q ∨ rIxC (MsD Γ tbl 2) (WE W) σ x y H Q)) (.cons h1 (.cons h2 .nil)) fun Z σ ρ1 H1 xs vs Q f1 o k => ?_
  obtain ⟨x1, x2, v1, v2, rfl, rfl, p1, p2⟩ := o.two
  show rIdx Γ.K v1 v2 H1 Q ∨ rIxC (MsD Γ tbl 2) (WE W) σ v1 v2 H1 Q
  unfold ixR at k
  cases q1 : objOf (late [o1, o2] [x1, x2] ρ1) with
  | none =>
    rw [q1] at k
    exact .inl (prim_end prIdx f1 o k)
  | some cf =>
    rw [q1] at k
    simp only at k
    exact .inr (dun_core f1 o rfl k)
theorem SE.callO {te : TE} {ta : TA} {o : Opd} {os : List Opd} (ho : SO Γ W te o) (hA : SA Γ W ta os) (hn : os.length + 1 = np) : SE Γ W (tCallT (MsD Γ tbl np) (WE W) te ta) (cCallO tbl o os) := by
  intro Z σ ρ H Q F k
  have run := (SA.cons ho SA.nil).run F (Q := fun vs H1 => ∀ x, vs = [x] → (∃ a, x = V.ref a) ∧ ta σ H1 fun vs H2 => rDun (MsD Γ tbl np) (WE W σ) (x :: vs) H2 Q)
  refine (fun z => ?_) (run ?_)
  · have z1 : te σ H (fun v H1 => ∀ x, [v] = [x] → (∃ a, x = V.ref a) ∧ ta σ H1 fun vs H2 => rDun (MsD Γ tbl np) (WE W σ) (x :: vs) H2 Q) := z
    have e : (fun (v : V) (H1 : Hp) => ∀ x, [v] = [x] → (∃ a, x = V.ref a) ∧ ta σ H1 fun vs H2 => rDun (MsD Γ tbl np) (WE W σ) (x :: vs) H2 Q) = (fun x H1 => (∃ a, x = V.ref a) ∧ ta σ H1 fun vs H2 => rDun (MsD Γ tbl np) (WE W σ) (x :: vs) H2 Q) := by
      funext v H1
      refine propext ⟨fun h => h v rfl, fun h x e => ?_⟩
      cases e
      exact h
    rw [e] at z1
    exact z1
  · unfold cCallO at k
    revert k
    cases q0 : evO [o] ρ with
    | exc c fs ρ' => exact fun k => k
    | stuck => exact fun k => k
    | ok xs ρ1 =>
      intro k vs H1 f1 s1 o1 x ex
      subst ex
      simp only [Res.bind_ok] at k
      cases q1 : objOf (late [o] xs ρ1) with
      | none => rw [q1] at k; exact k.elim
      | some cf =>
        obtain ⟨c, fs⟩ := cf
        obtain ⟨r, q2⟩ := objOf_some q1
        have b := o1.late f1 q2
        rw [q1] at k
        simp only at k
        refine ⟨?_, hA.run f1 ?_⟩
        · cases b with
          | cons b1 _ =>
            obtain ⟨a, dx, gs, rfl, ha, _, _⟩ := b1.obj_inv
            exact ⟨a, rfl⟩
        · revert k
          cases evO os ρ1 with
          | exc c fs ρ' => exact fun k => PostX.on s1 k
          | stuck => exact fun k => k
          | ok ys ρ2 =>
            intro k vs2 H2 f2 s2 o2
            simp only [Res.bind_ok] at k
            exact dun_core f2 ((o1.step s2 f1).app o2) (by simpa using hn) (EndV.on (s1.trans s2) k)
end
end VS

namespace VS
open PySem L2 PySem.Spec PyProof.Rows
/-! ### C(..): a new instance by its __init__ -/
def tMakeS (C : Addr) (sp : Sp) (E : L2.St → XK) (t : TA) : TE := fun σ H Q => t σ H fun vs H1 => ∀ x dx, H1 x = Option.none → H1 dx = Option.none → dx ≠ x →
  sp (V.ref x :: vs) (upd (upd H1 dx (.own x)) x (.ins C dx [])) (fun v H2 => v = .non ∧ Q (.ref x) H2) (E σ)
section
variable {X : Cx} {k : Nat} {f C : Addr} {sp : Sp} {E : L2.St → XK} {x : Str} {e : Expr} {es : List Expr} {t : TA} {p pos : Pos}
theorem run_makeS {E : XK} {pins : List (Addr × Obj)} {σ : L2.St} {H : Hp} {s : Shared} {Q : VK} {us : List Value} {vs : List V} (M : Mk X.K C f) (F : L2.FnR X.prog X.w X.K X.mg X.base (L2.CX X.prog X.w) k f sp) (hr : Room (k + 1) X.A) (hx : PassesAt (L2.CX X.prog X.w) X σ E) (I : L2.Inv X pins σ H s) (r : Vals vs us)
    (h : ∀ x dx, H x = Option.none → H dx = Option.none → dx ≠ x → sp (V.ref x :: vs) (upd (upd H dx (.own x)) x (.ins C dx [])) (fun v H2 => v = .non ∧ Q (.ref x) H2) E) :
    wpAny (model X.prog X.w) X.A (call (.ref C) us) (EP X pins σ Q) X.xe s := by
  have hq := h (s.heap.objs.size + 1) s.heap.objs.size (I.hok.fresh (Nat.le_succ _)) (I.hok.fresh (Nat.le_refl _)) (Nat.ne_of_lt (Nat.lt_succ_self _))
  have I2 := Inv.made (C := C) I
  have r2 : Vals (V.ref (s.heap.objs.size + 1) :: vs) (Value.ref (s.heap.objs.size + 1) :: us) := .cons rfl r
  refine wpAny_call (make_map (f := f) I.kIn M.makes M.init (beq_iff_eq.mp M.fn) (codeAny_mono (F _ X.stack _ _ (Value.ref (s.heap.objs.size + 1) :: us) _ _ E (hr.make C us []) (I2.env0.make C us []) r2 hq) fun r s' hq' => ?_))
  cases r with
  | error e => exact hx pins _ _ e s' I2 hq'
  | ok fl =>
    cases fl with
    | ret u =>
      obtain ⟨v, H', I3, rv, ev, q3⟩ := I2.after hq'
      subst ev
      exact ⟨rv, ⟨V.ref (s.heap.objs.size + 1), H', I3, rfl, q3⟩⟩
    | next => exact False.elim hq'
    | brk => exact False.elim hq'
    | cont => exact False.elim hq'
theorem pe_makeS (M : Mk X.K C f) (F : L2.FnR X.prog X.w X.K X.mg X.base (L2.CX X.prog X.w) k f sp) (hr : Room (k + 1) X.A) (hg : Gl X x) (hm : X.mg x = some (.ref C)) (hx : ∀ σ, PassesAt (L2.CX X.prog X.w) X σ (E σ)) (ha : PA X (e :: es) t) (hdb : (x == ("__debug__" : Str)) = false := by decide)
    (he : starEach (e :: es) X.env = (false, eval e X.env) :: starEach es X.env := by rfl) (hpl : (backTo pos (starEach es X.env)).any (·.1) = false := by rfl) : PE X (.Call (.Name x p) (e :: es) [] pos) (tMakeS C sp E t) := by
  refine ⟨fun pins s σ H Q I h => ?_⟩
  refine wpAny_Call_Name_kw (ld_glob I hg hm ?_ hdb)
  refine PySem.W.callWith_K (h₀ := X.base) I.ok.mod.kin M.kp (thn (ha.run pos pins s σ H _ I h) fun us s1 ⟨vs, H1, I1, r, q⟩ => ⟨I1.kIn, ?_⟩) he hpl
  exact run_makeS M F hr (hx σ) I1 r q
theorem pe_makeS0 (M : Mk X.K C f) (F : L2.FnR X.prog X.w X.K X.mg X.base (L2.CX X.prog X.w) k f sp) (hr : Room (k + 1) X.A) (hg : Gl X x) (hm : X.mg x = some (.ref C)) (hx : ∀ σ, PassesAt (L2.CX X.prog X.w) X σ (E σ)) (hdb : (x == ("__debug__" : Str)) = false := by decide) : PE X (.Call (.Name x p) [] [] pos) (tMakeS C sp E tNil) := by
  refine ⟨fun pins s σ H Q I h => ?_⟩
  refine wpAny_Call_Name_kw (ld_glob I hg hm ?_ hdb)
  exact PySem.W.callWith_K0 I.kIn M.kp (run_makeS (us := []) M F hr (hx σ) I .nil h)
end
/-- what comes of __init__ -/
def makeR (c : Nat) (F : CFun) (os : List Opd) (xs : List (Option D)) (ρ1 : Sl) : Res Slot := match argS os xs ρ1, noDup os ρ1 with
  | some args, true => match F ((.obj c [], true) :: args) with
    | .ok (.non, false) (some s :: as) => .ok s (backF os as 0 ρ1)
    | .exc c' fs (_ :: as) => .exc c' fs (backF os as 0 ρ1)
    | _ => .stuck
  | _, _ => .stuck
def cMake (c : Nat) (F : CFun) (os : List Opd) : CExp := fun ρ => (evO os ρ).bind fun xs ρ1 => makeR c F os xs ρ1
section
variable {Γ : Gm} {W : WX} {Z : Addr → Prop} {σ σ1 : L2.St} {ρ ρ1 ρ' : Sl} {H H1 H' : Hp} {O : Addr → Prop} {fx : List Nat} {np : Nat}
theorem snoc_at {α : Type} {l : List α} {x y : α} {i : Nat} (h : (l ++ [x])[i]? = some y) : (i < l.length ∧ l[i]? = some y) ∨ (i = l.length ∧ y = x) := by
  rw [List.getElem?_append] at h
  split at h
  · rename_i hl; exact .inl ⟨hl, h⟩
  · rename_i hl
    have : i - l.length = 0 := by
      cases q : i - l.length with
      | zero => rfl
      | succ n => rw [q] at h; simp at h
    rw [this] at h
    simp at h
    exact .inr ⟨by omega, h.symm⟩
theorem snoc_lt {α : Type} {l : List α} {x : α} {i : Nat} (h : i < l.length) : (l ++ [x])[i]? = l[i]? := List.getElem?_append_left h
theorem snoc_last {α : Type} {l : List α} {x : α} : (l ++ [x])[l.length]? = some x := by simp
theorem roots_snoc {p a : Addr} {d : D} (hl : σ.length = ρ.length) : roots (σ ++ [some (V.ref p)]) (ρ ++ [some (d, true)]) a ↔ roots σ ρ a ∨ a = p := by
  constructor
  · rintro ⟨i, d', e1, e2⟩
    rcases snoc_at e1 with ⟨h1, h2⟩ | ⟨h1, h2⟩
    · rw [snoc_lt (by omega)] at e2
      exact .inl ⟨i, d', h2, e2⟩
    · subst h1
      rw [← hl, snoc_last] at e2
      cases e2
      exact .inr rfl
  · rintro (⟨i, d', e1, e2⟩ | rfl)
    · have hi := lt_of_at e1
      exact ⟨i, d', by rw [snoc_lt hi]; exact e1, by rw [snoc_lt (by omega)]; exact e2⟩
    · exact ⟨ρ.length, d, snoc_last, by rw [← hl]; exact snoc_last⟩
/-- one more slot, with a root of its own -/
theorem FR.snoc {p : Addr} {d : D} (f : FR Γ Z σ ρ H) (e : Ext H H') (hp : H p = none) (ow : ∀ O, (∀ a, O a → Mut (H' a)) → O p → Own Γ O H' (.ref p) d) (mp : Mut (H' p)) : FR Γ Z (σ ++ [some (V.ref p)]) (ρ ++ [some (d, true)]) H' := by
  have f' := f.ext e
  have hoa : ∀ a, OA Z (σ ++ [some (V.ref p)]) (ρ ++ [some (d, true)]) a ↔ OA Z σ ρ a ∨ a = p := fun a => by
    unfold OA
    rw [roots_snoc f.len]
    constructor
    · rintro (h | h | h)
      · exact .inl (.inl h)
      · exact .inl (.inr h)
      · exact .inr h
    · rintro ((h | h) | h)
      · exact .inl h
      · exact .inr (.inl h)
      · exact .inr (.inr h)
  have ov : Ov (OA Z σ ρ) (OA Z (σ ++ [some (V.ref p)]) (ρ ++ [some (d, true)])) H H' := ⟨fun a o h z => by
    rcases (hoa a).mp z with z | z
    · exact z
    · rw [z, hp] at h; exact (nomatch h), f.mu, fun a o h _ => e.ex a o h⟩
  have mu : ∀ a, OA Z (σ ++ [some (V.ref p)]) (ρ ++ [some (d, true)]) a → Mut (H' a) := fun a z => by
    rcases (hoa a).mp z with z | z
    · exact f'.mu a z
    · rw [z]; exact mp
  have npr : ¬ roots σ ρ p := fun r => f.nfresh hp (.inr r)
  refine ⟨by simp [f.len], mu, fun i d' h => ?_, fun i d' h => ?_, fun i j d1 d2 a h1 h2 h3 h4 => ?_, fun a z r => ?_⟩
  · rcases snoc_at h with ⟨h1, h2⟩ | ⟨h1, h2⟩
    · obtain ⟨v, e1, r⟩ := f.sh i d' h2
      exact ⟨v, by rw [snoc_lt (by rw [f.len]; exact h1)]; exact e1, r.to ov⟩
    · cases h2
  · rcases snoc_at h with ⟨h1, h2⟩ | ⟨h1, h2⟩
    · obtain ⟨v, e1, r⟩ := f.ow i d' h2
      obtain ⟨a, rfl, oa, _⟩ := r.ref
      exact ⟨_, by rw [snoc_lt (by rw [f.len]; exact h1)]; exact e1, r.to ov ((hoa a).mpr (.inl oa)) fun u q => e.ex a u q⟩
    · cases h2
      subst h1
      exact ⟨_, by rw [← f.len]; exact snoc_last, ow _ mu ((hoa p).mpr (.inr rfl))⟩
  · rcases snoc_at h1 with ⟨p1, p2⟩ | ⟨p1, p2⟩
    · rw [snoc_lt (by rw [f.len]; exact p1)] at h3
      rcases snoc_at h2 with ⟨q1, q2⟩ | ⟨q1, q2⟩
      · rw [snoc_lt (by rw [f.len]; exact q1)] at h4
        exact f.inj i j d1 d2 a p2 q2 h3 h4
      · subst q1
        rw [← f.len, snoc_last] at h4
        cases h4
        exact absurd ⟨i, d1, p2, h3⟩ npr
    · subst p1
      rw [← f.len, snoc_last] at h3
      cases h3
      rcases snoc_at h2 with ⟨q1, q2⟩ | ⟨q1, q2⟩
      · rw [snoc_lt (by rw [f.len]; exact q1)] at h4
        exact absurd ⟨j, d2, q2, h4⟩ npr
      · exact q1.symm
  · rcases (roots_snoc f.len).mp r with r | r
    · exact f.dis a z r
    · rw [r] at z; exact f.nfresh hp (.inl z)
theorem AR.lt {os : List Opd} {vs : List V} {args : List Slot} (h : AR Γ Z σ ρ H os vs args) : ∀ j, hasV os j = true → j < ρ.length := by
  induction h with
  | nil => intro j q; cases q
  | @v i v s os vs r h1 h2 _ ih =>
    intro j q
    unfold hasV at q
    rcases Bool.or_eq_true_iff.mp q with q | q
    · rw [← of_decide_eq_true q]; exact lt_of_at h2
    · exact ih j q
  | e _ _ ih => intro j q; exact ih j q
theorem AR.snoc {os : List Opd} {vs : List V} {args : List Slot} {sv : Option V} {s : Option Slot} (h : AR Γ Z σ ρ H os vs args) (hl : σ.length = ρ.length) (ov : Ov (OA Z σ ρ) (OA Z (σ ++ [sv]) (ρ ++ [s])) H H') : AR Γ Z (σ ++ [sv]) (ρ ++ [s]) H' os vs args := by
  induction h with
  | nil => exact .nil
  | @v i v t os vs r h1 h2 _ ih => exact .v (by rw [snoc_lt (lt_of_at h1)]; exact h1) (by rw [snoc_lt (lt_of_at h2)]; exact h2) ih
  | e hr _ ih => exact .e (hr.to ov) ih
theorem noDup_snoc {os : List Opd} {s : Option Slot} : ∀ (_ : ∀ j, hasV os j = true → j < ρ.length), noDup os ρ = true → noDup os (ρ ++ [s]) = true := by
  induction os with
  | nil => intro _ _; rfl
  | cons o os ih =>
    intro hl hn
    cases o with
    | e m => exact ih (fun j hj => hl j hj) hn
    | v i =>
      unfold noDup at hn ⊢
      obtain ⟨a, b⟩ := Bool.and_eq_true_iff.mp hn
      rw [snoc_lt (hl i (by unfold hasV; simp)), a, ih (fun j hj => hl j (by unfold hasV; simp [hj])) b]
      rfl
theorem backF_snoc {os : List Opd} {as : List (Option Slot)} {a s : Option Slot} : ∀ (k : Nat) (l : Sl), backF (.v (k + l.length) :: os) (a :: as) k (l ++ [s]) = backF os as k l ++ [updA (.v (k + l.length) :: os) (a :: as) (k + l.length) s]
  | k, [] => rfl
  | k, x :: r => by
    have h := backF_snoc (os := os) (as := as) (a := a) (s := s) (k + 1) r
    have e : k + 1 + r.length = k + (x :: r).length := by simp; omega
    rw [e] at h
    show updA (.v (k + (x :: r).length) :: os) (a :: as) k x :: backF (.v (k + (x :: r).length) :: os) (a :: as) (k + 1) (r ++ [s]) = _
    rw [h, e_updA_cv _ _ _ _ _ _ (by simp)]
    rfl
/-- the last slot taken off -/
theorem FR.unsnoc {p : Addr} {s : Option Slot} (f : FR Γ Z (σ ++ [some (V.ref p)]) (ρ ++ [s]) H) : (match s with
    | some (d, false) => FR Γ Z σ ρ H ∧ Rep Γ (OA Z σ ρ) H (.ref p) d
    | some (d, true) => FR Γ (Zadd Z p) σ ρ H ∧ Own Γ (OA (Zadd Z p) σ ρ) H (.ref p) d ∧ ¬ Z p ∧ ¬ roots σ ρ p
    | none => FR Γ Z σ ρ H) := by
  have hl : σ.length = ρ.length := by have := f.len; simpa using this
  have rts : ∀ a, roots σ ρ a → roots (σ ++ [some (V.ref p)]) (ρ ++ [s]) a := fun a ⟨i, d, e1, e2⟩ => ⟨i, d, by rw [snoc_lt (lt_of_at e1)]; exact e1, by rw [snoc_lt (lt_of_at e2)]; exact e2⟩
  have low : ∀ {Z' : Addr → Prop}, (∀ a, OA Z' σ ρ a → OA Z (σ ++ [some (V.ref p)]) (ρ ++ [s]) a) → (∀ a, Z' a → ¬ roots σ ρ a) → FR Γ Z' σ ρ H := fun {Z'} hs hd => by
    have ov : Ov (OA Z (σ ++ [some (V.ref p)]) (ρ ++ [s])) (OA Z' σ ρ) H H := ⟨fun a o _ z => hs a z, f.mu, fun _ _ h _ => h⟩
    refine ⟨hl, fun a z => f.mu a (hs a z), fun i d h => ?_, fun i d h => ?_, fun i j d1 d2 a h1 h2 h3 h4 => ?_, hd⟩
    · obtain ⟨v, e1, r⟩ := f.sh i d (by rw [snoc_lt (lt_of_at h)]; exact h)
      rw [snoc_lt (by rw [hl]; exact lt_of_at h)] at e1
      exact ⟨v, e1, r.to ov⟩
    · obtain ⟨v, e1, r⟩ := f.ow i d (by rw [snoc_lt (lt_of_at h)]; exact h)
      rw [snoc_lt (by rw [hl]; exact lt_of_at h)] at e1
      obtain ⟨a, rfl, oa, _⟩ := r.ref
      exact ⟨_, e1, r.to ov (.inr ⟨i, d, h, e1⟩) fun _ q => q⟩
    · exact f.inj i j d1 d2 a (by rw [snoc_lt (lt_of_at h1)]; exact h1) (by rw [snoc_lt (lt_of_at h2)]; exact h2) (by rw [snoc_lt (lt_of_at h3)]; exact h3) (by rw [snoc_lt (lt_of_at h4)]; exact h4)
  have plain : FR Γ Z σ ρ H := low (fun a z => z.imp id (rts a)) fun a z r => f.dis a z (rts a r)
  cases s with
  | none => exact plain
  | some s =>
    obtain ⟨d, b⟩ := s
    cases b with
    | false =>
      refine ⟨plain, ?_⟩
      obtain ⟨v, e1, r⟩ := f.sh ρ.length d snoc_last
      rw [← hl, snoc_last] at e1
      cases e1
      exact r.to ⟨fun a o _ z => z.imp id (rts a), f.mu, fun _ _ h _ => h⟩
    | true =>
      obtain ⟨v, e1, r⟩ := f.ow ρ.length d snoc_last
      rw [← hl, snoc_last] at e1
      cases e1
      have rp : roots (σ ++ [some (V.ref p)]) (ρ ++ [some (d, true)]) p := ⟨ρ.length, d, snoc_last, by rw [← hl]; exact snoc_last⟩
      have nz : ¬ Z p := fun z => f.dis p z rp
      have nr : ¬ roots σ ρ p := fun ⟨i, d', h1, h2⟩ => by
        have hi := lt_of_at h1
        have := f.inj i ρ.length d' d p (by rw [snoc_lt hi]; exact h1) snoc_last (by rw [snoc_lt (lt_of_at h2)]; exact h2) (by rw [← hl]; exact snoc_last)
        omega
      have hs : ∀ a, OA (Zadd Z p) σ ρ a → OA Z (σ ++ [some (V.ref p)]) (ρ ++ [some (d, true)]) a := fun a z => by
        rcases z with (z | z) | z
        · exact .inl z
        · rw [z]; exact .inr rp
        · exact .inr (rts a z)
      refine ⟨low hs fun a z r => ?_, r.to ⟨fun a o _ z => hs a z, f.mu, fun _ _ h _ => h⟩ (.inl (.inr rfl)) fun _ q => q, nz, nr⟩
      rcases z with z | z
      · exact f.dis a z (rts a r)
      · rw [z] at r; exact nr r
theorem oa_snoc {p a : Addr} {d : D} (hl : σ.length = ρ.length) : OA Z (σ ++ [some (V.ref p)]) (ρ ++ [some (d, true)]) a ↔ OA Z σ ρ a ∨ a = p := by
  unfold OA
  rw [roots_snoc hl]
  constructor
  · rintro (h | h | h)
    · exact .inl (.inl h)
    · exact .inl (.inr h)
    · exact .inr h
  · rintro ((h | h) | h)
    · exact .inl h
    · exact .inr (.inl h)
    · exact .inr (.inr h)
theorem FR.unsnoc0 {p : Addr} {s : Option Slot} (f : FR Γ Z (σ ++ [some (V.ref p)]) (ρ ++ [s]) H) : FR Γ Z σ ρ H := by
  have h := f.unsnoc
  cases s with
  | none => exact h
  | some s =>
    obtain ⟨d, b⟩ := s
    cases b with
    | false => exact h.1
    | true => exact h.1.zdrop fun a z => .inl z
theorem SE.make {c : Nat} {F : CFun} {ta : TA} {os : List Opd} (ha : SA Γ W ta os) (hn : os.length + 1 = np) : SE Γ W (tMakeS (Γ.ct c) (spD Γ F np) (WE W) ta) (cMake c F os) := by
  intro Z σ ρ H Q f k
  refine ha.run f ?_
  unfold cMake at k
  revert k
  cases evO os ρ with
  | exc c fs ρ' => exact fun k => k
  | stuck => exact fun k => k
  | ok xs ρ1 =>
    intro k vs H1 f1 s1 o x dx hx hdx hne
    simp only [Res.bind_ok] at k
    unfold makeR at k
    cases q1 : argS os xs ρ1 with
    | none => rw [q1] at k; exact k.elim
    | some args =>
      cases q2 : noDup os ρ1 with
      | false => rw [q1, q2] at k; exact k.elim
      | true =>
        rw [q1, q2] at k
        simp only at k
        have h := o.ar q1
        generalize hH2 : upd (upd H1 dx (.own x)) x (.ins (Γ.ct c) dx []) = H2
        have ext : Ext H1 H2 := by
          rw [← hH2]
          refine (Ext.new hdx).trans (Ext.new ?_)
          rw [upd_ne (Ne.symm hne)]
          exact hx
        have h2x : H2 x = some (.ins (Γ.ct c) dx []) := by rw [← hH2]; exact upd_same
        have f2 := f1.snoc (d := .obj c []) ext hx (fun O _ hO => .obj h2x hO rfl .nil) (by rw [h2x]; exact True.intro)
        have ov : Ov (OA Z σ ρ1) (OA Z (σ ++ [some (V.ref x)]) (ρ1 ++ [some (D.obj c [], true)])) H1 H2 := ⟨fun a o h z => by
          rcases (oa_snoc f1.len).mp z with z | z
          · exact z
          · rw [z, hx] at h; exact (nomatch h), f1.mu, fun a o h _ => ext.ex a o h⟩
        have A2 : AR Γ Z (σ ++ [some (V.ref x)]) (ρ1 ++ [some (D.obj c [], true)]) H2 (.v ρ1.length :: os) (.ref x :: vs) ((.obj c [], true) :: args) := .v (by rw [← f1.len]; exact snoc_last) snoc_last (h.snoc f1.len ov)
        have nd : noDup (.v ρ1.length :: os) (ρ1 ++ [some (D.obj c [], true)]) = true := by
          unfold noDup
          rw [snoc_last, noDup_snoc h.lt q2]
          have : hasV os ρ1.length = false := by
            cases q : hasV os ρ1.length with
            | false => rfl
            | true => exact absurd (h.lt _ q) (Nat.lt_irrefl _)
          rw [this]
          rfl
        refine ⟨by rw [List.length_cons, h.len.1, ← h.len.2]; exact hn, Zc Z (.v ρ1.length :: os) (σ ++ [some (V.ref x)]) (ρ1 ++ [some (D.obj c [], true)]), (.obj c [], true) :: args, A2.fr f2 nd, ?_⟩
        -- behind __init__
        have key : ∀ (t : Option Slot) (as : List (Option Slot)) (H' : Hp), FR Γ (Zc Z (.v ρ1.length :: os) (σ ++ [some (V.ref x)]) (ρ1 ++ [some (D.obj c [], true)])) ((V.ref x :: vs).map some) (t :: as) H' → Step ((V.ref x :: vs).map some) (((D.obj c [], true) :: args).map some) H2 ((V.ref x :: vs).map some) (t :: as) H' →
            FR Γ Z (σ ++ [some (V.ref x)]) (backF os as 0 ρ1 ++ [t]) H' ∧ Step σ ρ1 H1 σ (backF os as 0 ρ1) H' ∧ ∀ b, OA Z σ (backF os as 0 ρ1) b → OA (Zc Z (.v ρ1.length :: os) (σ ++ [some (V.ref x)]) (ρ1 ++ [some (D.obj c [], true)])) ((V.ref x :: vs).map some) (t :: as) b := by
          intro t as H' fc st
          obtain ⟨f3, s3, sub⟩ := A2.after f2 (X := fun _ => False) (fc.zdrop fun a z => z.elim id False.elim) st (fun b z => z.elim) (fun b z => z.elim)
          rw [zfalse] at f3
          have e0 := backF_snoc (os := os) (as := as) (a := t) (s := some (D.obj c [], true)) 0 ρ1
          have e1 : updA (.v (0 + ρ1.length) :: os) (t :: as) (0 + ρ1.length) (some (D.obj c [], true)) = t := by
            rw [e_updA_t, e_findA_v, if_pos rfl]
          rw [Nat.zero_add] at e0 e1
          rw [e1] at e0
          rw [e0] at f3 s3 sub
          have rts : ∀ a, roots σ (backF os as 0 ρ1) a → roots (σ ++ [some (V.ref x)]) (backF os as 0 ρ1 ++ [t]) a := fun a ⟨i, d, e1, e2⟩ => ⟨i, d, by rw [snoc_lt (lt_of_at e1)]; exact e1, by rw [snoc_lt (lt_of_at e2)]; exact e2⟩
          refine ⟨f3, ⟨fun a o' h n => s3.keep a o' (ext.ex a o' h) fun z => ?_, fun a o' h => s3.dom a o' (ext.ex a o' h), fun a r => ?_⟩, fun b z => ?_⟩
          · rcases (roots_snoc f1.len).mp z with z | z
            · exact n z
            · rw [z, hx] at h; cases h
          · rcases s3.new a (rts a r) with z | z
            · rcases (roots_snoc f1.len).mp z with z | z
              · exact .inl z
              · rw [z]; exact .inr hx
            · refine .inr ?_
              cases q : H1 a with
              | none => rfl
              | some o' => rw [ext.ex a o' q] at z; cases z
          · have z2 := sub b (show OA (fun b => Z b ∨ False) _ _ b by rw [zfalse]; exact z.imp id (rts b))
            exact z2.imp (fun y => y.elim id False.elim) id
        revert k
        cases F ((.obj c [], true) :: args) with
        | stuck => exact fun k => k
        | ok s as =>
          obtain ⟨d, b⟩ := s
          match d, b, as with
          | .non, false, some t :: as =>
            intro k v H' fc st r
            cases r
            refine ⟨rfl, ?_⟩
            obtain ⟨f3, s3, _⟩ := key (some t) as H' fc st
            have u := f3.unsnoc
            obtain ⟨d, b⟩ := t
            cases b with
            | false => exact k (.ref x) H' u.1 (s1.trans s3) u.2
            | true => exact k x H' u.1 (s1.trans s3) u.2.2.1 (s1.root (.inl hx)) u.2.1
          | .non, false, none :: as => exact fun k => k.elim
          | .non, false, [] => exact fun k => k.elim
          | .non, true, _ => exact fun k => k.elim
          | .bl _, _, _ => exact fun k => k.elim
          | .int _, _, _ => exact fun k => k.elim
          | .str _, _, _ => exact fun k => k.elim
          | .tup _, _, _ => exact fun k => k.elim
          | .ktup _, _, _ => exact fun k => k.elim
          | .lst _, _, _ => exact fun k => k.elim
          | .dK _, _, _ => exact fun k => k.elim
          | .dT _, _, _ => exact fun k => k.elim
          | .obj _ _, _, _ => exact fun k => k.elim
          | .ty _, _, _ => exact fun k => k.elim
          | .scr _, _, _ => exact fun k => k.elim
          | .exc _ _, _, _ => exact fun k => k.elim
          | .cls _, _, _ => exact fun k => k.elim
        | exc c' fs as =>
          match as with
          | [] => exact fun k => k.elim
          | t :: as =>
            intro k d H' fc st r
            obtain ⟨f3, s3, sub⟩ := key t as H' fc st
            refine k d H' f3.unsnoc0 (s1.trans s3) ?_
            cases d with
            | none => exact r
            | some dx =>
              obtain ⟨us, h1, h2, h3⟩ := r
              exact ⟨us, h1, h2, h3.to ⟨fun b o _ z => sub b z, fc.mu, fun _ _ h _ => h⟩⟩
end
end VS

namespace VS
open PySem L2 PySem.Spec PyProof.Rows
/-! ### defs called while an exception is handled -/
structure RoomW (k : Nat) (A : Around) : Prop where
  dp : A.depth + 3 * k + 5 < recursionLimit
  un : A.units + 16 * k + 200 < cLine
theorem RoomW.mono {j k : Nat} {A : Around} (r : RoomW k A) (h : j ≤ k) : RoomW j A := ⟨by have := r.dp; omega, by have := r.un; omega⟩
theorem RoomW.deeper {k : Nat} {A : Around} (r : RoomW (k + 1) A) (env : Env) : RoomW k (A.deeper env) :=
  ⟨by have := r.dp; show A.depth + 1 + 3 * k + 5 < _; omega, by have := r.un; show A.units + 3 + 16 * k + 200 < _; omega⟩
theorem RoomW.depth {k : Nat} {A : Around} (r : RoomW k A) : A.depth < recursionLimit := by have := r.dp; omega
theorem roomW_of {k : Nat} {A : Around} (r : Room k A) : RoomW k A := ⟨r.dp, r.un⟩
def FnW (P : Program) (w : World) (K : PySem.W.Frag) (mg : Str → Option Value) (base : Heap) (CX : CXT) (k : Nat) (f : Addr) (sp : Sp) : Prop :=
  ∀ (A : Around) (outer : List Env) (s : Shared) (H : Hp) (us : List Value) (vs : List V) (Q : VK) (E : XK), RoomW k A → Env0 P w K mg base A outer s H → Vals vs us → sp vs H Q E →
    codeAny (model P w) A (.call (.ref f) ⟨us, []⟩) (CR CX outer P w H s Q E) s
/-- the context of such a def's body -/
def cxW (CX : CXT) (P : Program) (w : World) (K : PySem.W.Frag) (mg : Str → Option Value) (base : Heap) (N : List Str) (qual : Str) (scope : Scope) (f : Addr) (cd : Value) (A : Around) (outer : List Env) (s : Shared) (H : Hp) (E : XK) : Cx :=
  { cxOf CX P w K mg base N qual scope f cd A outer s H E with calm := false }
theorem inv_startW {CX : CXT} {P : Program} {w : World} {K : PySem.W.Frag} {mg : Str → Option Value} {base : Heap} {N ps : List Str} {qual : Str} {scope : Scope} {f : Addr} {cd : Value} {A : Around} {outer : List Env} {s s1 : Shared} {H : Hp} {E : XK} {us : List Value} {vs : List V}
    (S : FnScope N ps scope) (e0 : Env0 P w K mg base A outer s H) (hl : vs.length = ps.length) (r : Vals vs us)
    (x : InCallC s s.heap.objs.size (bindL (envOfC qual scope s.heap.objs.size f cd).kindOf (ps.zip us) fun _ => none) (cellsFrom (s.heap.objs.size + 1) scope.names []) (bindC (envOfC qual scope s.heap.objs.size f cd).kindOf (ps.zip us) fun _ => none) s1) :
    L2.Inv (cxW CX P w K mg base N qual scope f cd A outer s H E) [] (L2.start N vs) H s1 := by
  have hpl : ps.length ≤ N.length := by have := congrArg List.length S.pre; rw [List.length_take] at this; omega
  obtain ⟨h1, tk, rfl, hk⟩ := x.done
  have noA : ∀ b : Addr, b ∉ (cxW CX P w K mg base N qual scope f cd A outer s H E).ex := fun b z => absurd (show b ∈ ([] : List Addr) from z) (by simp)
  refine ⟨⟨e0.mod, S.kind, rfl, rfl, Nat.le_refl _, fun y z c h1 h2 => ?_, fun y hy => ?_, fun y c _ h => ?_, (fun z => Bool.noConfusion (show false = true from z)), Around.frames_deeper e0.frames, .inr ⟨rfl, rfl⟩, fun b z => absurd z (noA b), e0.bs, e0.bsz, fun b _ _ => noA b, fun b z => absurd z (noA b), e0.funs, e0.frf⟩,
    rfl, e0.bare, Un.kept hk, ⟨_, x.toInCall.ns, fun i y v h1 h2 h3 => ?_⟩, fun y c h => ⟨_, x.cell y c h⟩, e0.hok.fresh (Nat.le_refl _), fun y c h => ?_, fun p hp => absurd (show p ∈ ([] : List (Addr × Obj)) from hp) (by simp), e0.hok.kept hk, ?_⟩
  · exact name_of_addr x.apart (PySem.mem_of_lookup h1) (PySem.mem_of_lookup h2)
  · have hy : scope.names.lookup y = some .cell ∨ scope.names.lookup y = some .free := hy
    rcases hy with hy | hy
    · exact cell_has hy
    · exact absurd rfl (S.nofree _ (PySem.mem_of_lookup hy))
  · exact Nat.le_of_lt (x.above y c (PySem.mem_of_lookup h))
  · have hi : i < vs.length := by
      unfold L2.start at h2
      by_cases hi : i < vs.length
      · exact hi
      · rw [List.getElem?_append_right (by simpa using hi)] at h2
        rw [List.getElem?_replicate] at h2
        split at h2 <;> cases h2
    have ha : vs[i]? = some v := by
      unfold L2.start at h2
      rw [List.getElem?_append_left (by simpa using hi), List.getElem?_map] at h2
      cases e : vs[i]? with
      | none => rw [e] at h2; cases h2
      | some a => rw [e] at h2; cases h2; rfl
    obtain ⟨u, hu, rv⟩ := r.get ha
    have hp : ps[i]? = some y := by
      rw [← S.pre, List.getElem?_take_of_lt (by omega)]; exact h1
    have ndP : ps.Nodup := by rw [← S.pre]; exact S.nd.sublist (List.take_sublist _ _)
    refine ⟨u, rv, ?_⟩
    rcases S.par y (List.mem_of_getElem? hp) with k | k
    · exact .inl ⟨k, bindL_get ndP hp hu k⟩
    · obtain ⟨c, e⟩ := cell_has (n := s.heap.objs.size + 1) k
      refine .inr ⟨.inl k, c, e, ?_⟩
      have q := x.cell y c e
      rw [bindC_get ndP hp hu (by show scope.names.lookup y ≠ _; rw [k]; decide)] at q
      exact q
  · exact e0.hok.fresh (Nat.le_of_lt (x.above y c (PySem.mem_of_lookup h)))
  · unfold L2.start
    show _ = N.length
    rw [List.length_append, List.length_map, List.length_replicate]
    omega
theorem fn_ofW {CX : CXT} {P : Program} {w : World} {K : PySem.W.Frag} {mg : Str → Option Value} {base : Heap} {k : Nat} {f : Addr} {name qual : Str} {params : Arguments} {body : List Stmt} {scope : Scope} {dV kV doc pm cdv ct oc : Value} {an od : Option Addr}
    {osl : Array (Option Value)} {N ps : List Str} {sp : Sp} (lk : K.lookup f = some ⟨oc, od, .func (PySem.W.fnOf name qual params body scope dV kV doc pm an cdv ct), osl⟩) (hcd : PySem.W.codeIn K cdv qual = true) (S : FnScope N ps scope)
    (len : ∀ vs H Q E, sp vs H Q E → vs.length = ps.length) (hb : Binds K (PySem.W.fnOf name qual params body scope dV kV doc pm an cdv ct) ps [])
    (hbody : ∀ (A : Around) (outer : List Env) (s : Shared) (H : Hp) (vs : List V) (Q : VK) (E : XK), RoomW k (A.deeper (envOfC qual scope s.heap.objs.size f cdv)) → sp vs H Q E →
      ∃ t, PSs (cxW CX P w K mg base N qual scope f cdv A outer s H E) body t ∧ t { nx := fun _ H' => Q .non H', rt := Q } (L2.start N vs) H) :
    FnW P w K mg base CX (k + 1) f sp := by
  intro A outer s H us vs Q E hr e0 r hsp
  have hl := len _ _ _ _ hsp
  have KX : K.In s.heap := e0.mod.kin.keeps fun b o e => (e0.bs b o e).1
  have lim : s.heap.NoLimit := e0.mod.nolimit.keeps fun b o e => (e0.bs b o e).1
  have hkind : ∀ y ∈ ps.zip us, scope.names.lookup y.1 = some .local ∨ (scope.names.lookup y.1 = some .cell ∧ ((cellsFrom (s.heap.objs.size + 1) scope.names []).lookup y.1).isSome = true) := fun ⟨n, v⟩ hy => by
    rcases S.par n (List.of_mem_zip hy).1 with q | q
    · exact .inl q
    · exact .inr ⟨q, PySem.W.cellsFrom_some _ _ _ (.inl q)⟩
  have hlu : us.length = ps.length := by rw [← r.length]; exact hl
  have b := hb s us KX (by rw [List.append_nil]; exact hlu)
  rw [List.append_nil] at b
  refine codeAny_call_function hr.depth (KX _ _ lk) rfl S.co S.gen rfl (PySem.W.codeRec_of KX hcd) (b _ _ _ _ ?_)
  refine wpAny_newFunctionEnv_cells S.kind hkind fun env he s1 x => ?_
  subst he
  refine ⟨lim.keeps x.toInCall.keep, codeAny_func ?_⟩
  obtain ⟨t, ht, hq⟩ := hbody A outer s H vs Q E (hr.deeper _) hsp
  have I : L2.Inv (cxW CX P w K mg base N qual scope f cdv A outer s H E) [] (L2.start N vs) H s1 := inv_startW S e0 hl r x
  refine wpAny_mono (ht.run [] s1 (L2.start N vs) H _ I hq) (fun fl s' hs => ?_) fun e s' hs => hs
  have fin : ∀ {σ' : L2.St} {H' : Hp} {v : V} {u : Value}, L2.Inv (cxW CX P w K mg base N qual scope f cdv A outer s H E) [] σ' H' s' → RelV v u → Q v H' → L2.CE outer P w H s Q u s' :=
    fun {σ' H' v u} J rv q => ⟨v, H', J.os, J.bare, J.base, J.hok, rv, q⟩
  cases fl with
  | ret u =>
    obtain ⟨v, σ', H', J, rv, q⟩ := hs
    exact fin J rv q
  | next =>
    obtain ⟨σ', H', J, q⟩ := hs
    exact fin (v := V.non) (u := Value.none) J rfl q
  | brk =>
    obtain ⟨_, _, _, q⟩ := hs
    exact False.elim q
  | cont =>
    obtain ⟨_, _, _, q⟩ := hs
    exact False.elim q
/-- a def by name, callable while an exception is handled -/
structure FnHot (P : Program) (w : World) (K : PySem.W.Frag) (mg : Str → Option Value) (base : Heap) (ct : Cn) (k : Nat) (x : Str) (np : Nat) (F : CFun) : Prop where
  ex : ∃ f : Addr, FnW P w K mg base (L2.CX P w) k f (spD ⟨K, ct⟩ F np) ∧ mg x = some (.ref f) ∧ PySem.W.keepIn K (.ref f) = true
theorem run_fnW {X : Cx} {k : Nat} {f : Addr} {sp : Sp} {E : XK} {pins : List (Addr × Obj)} {σ : L2.St} {H : Hp} {s : Shared} {Q : VK} {us : List Value} {vs : List V} (F : FnW X.prog X.w X.K X.mg X.base (L2.CX X.prog X.w) k f sp) (hr : RoomW k X.A) (hx : PassesAt (L2.CX X.prog X.w) X σ E)
    (I : L2.Inv X pins σ H s) (r : Vals vs us) (h : sp vs H Q E) : wpAny (model X.prog X.w) X.A (call (.ref f) us) (EP X pins σ Q) X.xe s := by
  refine wpAny_call (codeAny_mono (F X.A X.stack s H us vs Q E hr I.env0 r h) fun z s' hq => ?_)
  cases z with
  | error e => exact hx pins H s e s' I hq
  | ok fl =>
    cases fl with
    | ret u => exact I.after hq
    | next => exact hq.elim
    | brk => exact hq.elim
    | cont => exact hq.elim
theorem pe_callW {X : Cx} {k : Nat} {f : Addr} {sp : Sp} {E : L2.St → XK} {x : Str} {p pos : Pos} {e : Expr} {es : List Expr} {t : TA} (F : FnW X.prog X.w X.K X.mg X.base (L2.CX X.prog X.w) k f sp) (hr : RoomW k X.A) (hg : Gl X x) (hm : X.mg x = some (.ref f)) (hk : PySem.W.keepIn X.K (.ref f) = true) (hx : ∀ σ, PassesAt (L2.CX X.prog X.w) X σ (E σ))
    (ha : PA X (e :: es) t) (hdb : (x == ("__debug__" : Str)) = false := by decide) (he : starEach (e :: es) X.env = (false, eval e X.env) :: starEach es X.env := by rfl) (hpl : (backTo pos (starEach es X.env)).any (·.1) = false := by rfl) :
    PE X (.Call (.Name x p) (e :: es) [] pos) (tCallS sp E t) := ⟨fun pins s σ H Q I h =>
  wpAny_Call_Name_kw (ld_glob I hg hm (PySem.W.callWith_K (h₀ := X.base) I.ok.mod.kin hk (thn (ha.run pos pins s σ H _ I h) fun us s1 ⟨vs, H1, I1, r, q⟩ => ⟨I1.kIn, run_fnW F hr (hx σ) I1 r q⟩) he hpl) hdb)⟩
theorem ce_callW {X : Cx} {ct : Cn} {W : WX} {e : Expr} {es : List Expr} {pos p : Pos} {os : List Opd} {k k' np : Nat} {x : Str} {F : CFun} (h : FnHot X.prog X.w X.K X.mg X.base ct k x np F) (hr : RoomW k' X.A) (hk : k ≤ k') (hg : Gl X x) (tk : Takes X W) (ha : CA X ct W (e :: es) os) (hn : os.length = np)
    (hdb : (x == ("__debug__" : Str)) = false := by decide) (he : starEach (e :: es) X.env = (false, eval e X.env) :: starEach es X.env := by rfl) (hpl : (backTo pos (starEach es X.env)).any (·.1) = false := by rfl) : CE X ct W (.Call (.Name x p) (e :: es) [] pos) (cCall F os) := by
  obtain ⟨f, G, hm, kp⟩ := h.ex
  obtain ⟨t, p1, q1⟩ := ha
  exact ⟨_, pe_callW G (hr.mono hk) hg hm kp (fun σ => passAt tk σ) p1 hdb he hpl, SE.call q1 hn⟩
theorem fn_mkW {P : Program} {w : World} {K : PySem.W.Frag} {mg : Str → Option Value} {base : Heap} {ct : Cn} {x : Str} {st : Stmt} {f : Addr} {fd : FuncData} {N ps : List Str} {k : Nat} (fx : List Nat) {m : CStm} (F : L2.Fun K x x st f fd) (S : FnScope N ps (defScope st)) (hm : mg x = some (.ref f)) (hb : Binds K fd ps [])
    (body : ∀ (cdv : Value) (A : Around) (outer : List Env) (s : Shared) (H : Hp) (E : XK), RoomW k (A.deeper (envOfC x (defScope st) s.heap.objs.size f cdv)) →
      Takes (cxW (L2.CX P w) P w K mg base N x (defScope st) f cdv A outer s H E) (fun cls d _ H => E cls d H) →
      PassesOwn (model P w) (cxW (L2.CX P w) P w K mg base N x (defScope st) f cdv A outer s H E).A (cxW (L2.CX P w) P w K mg base N x (defScope st) f cdv A outer s H E).env (cxW (L2.CX P w) P w K mg base N x (defScope st) f cdv A outer s H E).xe →
      (cxW (L2.CX P w) P w K mg base N x (defScope st) f cdv A outer s H E).A.units + 65 < cLine →
      CSs (cxW (L2.CX P w) P w K mg base N x (defScope st) f cdv A outer s H E) ct fx (fun cls d _ H => E cls d H) (defBody st) m) : FnHot P w K mg base ct (k + 1) x ps.length (bodyF fx N.length m) := by
  refine ⟨f, ?_, hm, F.kp⟩
  obtain ⟨oc, od, kV, doc, pm, an, cdv, ct', osl, rfl, lk, hcd⟩ := F.ex
  refine fn_ofW lk hcd S (fun vs H Q E h => h.1) hb fun A outer s H vs Q E hr h => ?_
  obtain ⟨t, p, q⟩ := body cdv A outer s H E hr (takes_of rfl rfl rfl rfl) (passes_of rfl) (by have := hr.un; show (A.deeper _).units + 65 < cLine; omega)
  exact ⟨t, p, def_ok q h⟩
/-! what is not gone through -/
def cStuck : CStm := fun _ => .stuck
def cStuckE : CExp := fun _ => .stuck
theorem cs_stuck {X : Cx} {ct : Cn} {fx : List Nat} {W : WX} {st : Stmt} : CS X ct fx W st cStuck := ⟨fun _ _ _ => False, ⟨fun _ _ _ _ _ _ h => h.elim⟩, fun _ _ _ _ _ _ k => k.elim⟩
theorem ce_stuck {X : Cx} {ct : Cn} {W : WX} {e : Expr} : CE X ct W e cStuckE := ⟨fun _ _ _ => False, ⟨fun _ _ _ _ _ _ h => h.elim⟩, fun _ _ _ _ _ _ k => k.elim⟩
@[simp] theorem e_cStuck (ρ : Sl) : cStuck ρ = .stuck := rfl
@[simp] theorem e_cStuckE (ρ : Sl) : cStuckE ρ = .stuck := rfl
end VS

namespace VS
open PySem L2 PySem.Spec PyProof.Rows
section
variable {Γ : Gm} {W : WX} {Z : Addr → Prop} {σ : L2.St} {ρ : Sl} {O : Addr → Prop} {H : Hp} {v : V} {fx : List Nat}
/-! ### sum -/
def intsOf : List D → Option (List Int)
  | [] => some []
  | .int i :: r => (intsOf r).map fun ns => i :: ns
  | _ => none
theorem intsOf_map : ∀ ns : List Int, intsOf (ns.map D.int) = some ns
  | [] => rfl
  | n :: r => by simp [intsOf, intsOf_map r]
theorem Reps.ints : ∀ {vs : List V} {ds : List D} {ns : List Int}, Reps Γ O H vs ds → intsOf ds = some ns → vs = ns.map V.int
  | _, _, _, .nil, e => by cases e; rfl
  | _, _, ns, .cons h r, e => by
    rename_i v vs d ds
    cases d with
    | int i =>
      unfold intsOf at e
      cases q : intsOf ds with
      | none => rw [q] at e; cases e
      | some ms =>
        rw [q] at e
        cases e
        rw [Reps.ints r q, Bor.int_inv (.rep h)]
        rfl
    | _ => cases e
def pSum : List D → Option Slot
  | [.lst xs] => (intsOf xs).map fun ns => (.int ns.sum, false)
  | _ => none
theorem prSum : PrimR Γ (rSum Γ.K) pSum := by
  intro O H vs ds s Q m b e k
  match ds, e with
  | [.lst xs], e =>
    obtain ⟨v, rfl, h1⟩ := bors1 b
    obtain ⟨a, us, rfl, ha, ra⟩ := h1.lst_inv
    have e' : (intsOf xs).map (fun ns => (D.int ns.sum, false)) = some s := e
    cases q : intsOf xs with
    | none => rw [q] at e'; cases e'
    | some ns =>
      rw [q] at e'
      cases e'
      have := ra.ints q
      subst this
      exact ⟨a, ns, rfl, SqL.of ha, k _ H (Ext.refl H) (.int _)⟩
/-! ### int(text) too -/
def pIntA : List D → Option Slot
  | [.str a] => if a.length ≤ 640 then (PySem.intText? a).map fun n => (.int n, false) else none
  | ds => pInt ds
def rIntA : List V → Hp → VK → Prop := fun xs H Q => ((∃ i, xs = [.int i] ∧ Q (.int i) H) ∨ ∃ k, xs = [.bl k] ∧ Q (.int (if k then 1 else 0)) H) ∨ (∃ a n, xs = [.str a] ∧ PySem.intText? a = some n ∧ a.length ≤ 640 ∧ Q (.int n) H)
theorem prIntA : PrimR Γ rIntA pIntA := by
  intro O H vs ds s Q m b e k
  by_cases hs : ∃ a, ds = [.str a]
  · obtain ⟨a, rfl⟩ := hs
    obtain ⟨v, rfl, h1⟩ := bors1 b
    have e' : (if a.length ≤ 640 then (PySem.intText? a).map fun n => (D.int n, false) else none) = some s := e
    by_cases hl : a.length ≤ 640
    · rw [if_pos hl] at e'
      cases q : PySem.intText? a with
      | none => rw [q] at e'; cases e'
      | some n =>
        rw [q] at e'
        cases e'
        rw [h1.str_inv.1]
        exact .inr ⟨a, n, rfl, q, hl, k _ H (Ext.refl H) (.int _)⟩
    · rw [if_neg hl] at e'; cases e'
  · have e' : pInt ds = some s := by
      rw [← e]
      unfold pIntA
      split
      · exact absurd ⟨_, rfl⟩ hs
      · rfl
    exact .inl (prInt O H vs ds s Q m b e' k)
/-! ### x.pop(i), x.reverse(), x.insert(i, y), x.extend(y) -/
def fPopAt : D → List D → Option (D × D)
  | .lst xs, [.int i] => if i.natAbs < 9223372036854775808 then (match seqIndex? i xs.length with
    | some k => (match xs[k]? with
      | some d => some (.lst (xs.eraseIdx k), d)
      | none => none)
    | none => none) else none
  | _, _ => none
theorem Reps.eraseIdx : ∀ {vs : List V} {ds : List D} (k : Nat), Reps Γ O H vs ds → Reps Γ O H (vs.eraseIdx k) (ds.eraseIdx k)
  | _, _, _, .nil => .nil
  | _, _, 0, .cons _ t => t
  | _, _, k + 1, .cons r t => .cons r (Reps.eraseIdx k t)
theorem mrPopAt : MutR Γ rPopAt fPopAt := by
  intro O H a vs d ds d' z Q m ow r e k
  unfold fPopAt at e
  split at e
  · rename_i xs i
    split at e
    · rename_i hi
      split at e
      · rename_i j hj
        split at e
        · rename_i y hy
          cases e
          cases r with
          | cons r1 r2 =>
            cases r2
            cases r1
            cases ow with
            | @lst _ us _ h o r =>
              obtain ⟨v, h1, h2⟩ := r.get hy
              exact ⟨a, us, i, j, v, rfl, rfl, h, by omega, by omega, by rw [r.length]; exact hj, h1, k _ _ (.lst upd_same o ((r.eraseIdx j).to (ov_upd m o))) (h2.to (ov_upd m o))⟩
        · cases e
      · cases e
    · cases e
  · cases e
def fRevI : D → List D → Option (D × D)
  | .lst xs, [] => some (.lst xs.reverse, .non)
  | _, _ => none
theorem mrRevI : MutR Γ rReverse fRevI := by
  intro O H a vs d ds d' z Q m ow r e k
  unfold fRevI at e
  split at e
  · cases e
    cases r
    cases ow with
    | @lst _ us _ h o r => exact ⟨a, us, rfl, rfl, h, k _ _ (.lst upd_same o (r.rev.to (ov_upd m o))) .non⟩
  · cases e
def fIns : D → List D → Option (D × D)
  | .lst xs, [.int i, y] => if xs.length < sizeLine ∧ 0 ≤ i ∧ i.natAbs < 9223372036854775808 then some (.lst (xs.take i.toNat ++ [y] ++ xs.drop i.toNat), .non) else none
  | _, _ => none
def rInsert : V → List V → Hp → VK → Prop := fun x vs H Q => ∃ (l : Addr) (xs : List V) (i : Int) (y : V), x = .ref l ∧ vs = [.int i, y] ∧ H l = some (.lst xs) ∧ xs.length < sizeLine ∧ 0 ≤ i ∧ i < 2 ^ 63 ∧ Q .non (upd H l (.lst (xs.take i.toNat ++ [y] ++ xs.drop i.toNat)))
theorem mrIns : MutR Γ rInsert fIns := by
  intro O H a vs d ds d' z Q m ow r e k
  unfold fIns at e
  split at e
  · rename_i xs i y
    split at e
    · rename_i hi
      cases e
      cases r with
      | cons r1 r2 =>
        cases r2 with
        | cons r2 r3 =>
          cases r3
          cases r1
          cases ow with
          | @lst _ us _ h o r =>
            exact ⟨a, us, i, _, rfl, rfl, h, by rw [r.length]; exact hi.1, hi.2.1, by have := hi.2.2; omega, k _ _ (.lst upd_same o ((((r.take _).append (.cons r2 .nil)).append (r.drop _)).to (ov_upd m o))) .non⟩
    · cases e
  · cases e
def cPopAt (i : Nat) (m : CExp) : CExp := cMut i isLst fPopAt [.e m]
def cRevI (i : Nat) : CExp := cMut i isLst fRevI []
def cIns (i : Nat) (m1 m2 : CExp) : CExp := cMut i isLst fIns [.e m1, .e m2]
theorem SE.popAt {i : Nat} {te : TE} {m : CExp} (h : SE Γ W te m) : SE Γ W (tBM Γ.K "list" rPopAt (tVar i) (tCons te tNil)) (cPopAt i m) :=
  SE.mut (P := fun x H => tyV Γ.K "list" x H) (G := fun σ Q x H1 => tyV Γ.K "list" x H1 ∧ tCons te tNil σ H1 fun xs H2 => rPopAt x xs H2 Q) (fun _ _ _ _ b e => b.tyL e) mrPopAt (.cons h .nil) rfl (fun σ Q x H1 p h => ⟨p, h⟩)
theorem SE.ins {i : Nat} {te te2 : TE} {m m2 : CExp} (h : SE Γ W te m) (h2 : SE Γ W te2 m2) : SE Γ W (tBM Γ.K "list" rInsert (tVar i) (tCons te (tCons te2 tNil))) (cIns i m m2) :=
  SE.mut (P := fun x H => tyV Γ.K "list" x H) (G := fun σ Q x H1 => tyV Γ.K "list" x H1 ∧ tCons te (tCons te2 tNil) σ H1 fun xs H2 => rInsert x xs H2 Q) (fun _ _ _ _ b e => b.tyL e) mrIns (.cons h (.cons h2 .nil)) rfl (fun σ Q x H1 p h => ⟨p, h⟩)
theorem SE.revI {i : Nat} : SE Γ W (tBM0 Γ.K "list" rReverse (tVar i)) (cRevI i) :=
  SE.mut (P := fun x H => tyV Γ.K "list" x H) (G := fun σ Q x H1 => tyV Γ.K "list" x H1 ∧ rReverse x [] H1 Q) (fun _ _ _ _ b e => b.tyL e) mrRevI .nil rfl (fun σ Q x H1 p h => ⟨p, h⟩)
/-! ### list(range(..)), tuple(range(..)) -/
def rgD (a b : Int) : List D := rngD a (b - a).toNat
theorem reps_rg {a b : Int} : Reps Γ O H (rgV a b) (rgD a b) := by
  unfold rgV rgD rngD
  generalize (b - a).toNat = n
  induction n with
  | zero => exact .nil
  | succ n ih =>
    rw [List.range_succ, List.map_append, List.map_append]
    exact ih.append (.cons (.int _) .nil)
def rgOkB (a b : Int) : Bool := decide (a.natAbs < 4611686018427387904) && decide (b.natAbs < 4611686018427387904) && decide ((b - a).toNat ≤ 16777216)
theorem rgOk_of {a b : Int} (h : rgOkB a b = true) : RgOk a b := by
  unfold rgOkB at h
  simp only [Bool.and_eq_true, decide_eq_true_eq] at h
  obtain ⟨⟨h1, h2⟩, h3⟩ := h
  exact ⟨by omega, by omega, by omega, by omega, by omega⟩
def pRgL : List D → Option Slot
  | [.int n] => if rgOkB 0 n = true then some (.lst (rgD 0 n), true) else none
  | [.int a, .int b] => if rgOkB a b = true then some (.lst (rgD a b), true) else none
  | _ => none
def pRgT : List D → Option Slot
  | [.int n] => if rgOkB 0 n = true then some (.tup (rgD 0 n), false) else none
  | [.int a, .int b] => if rgOkB a b = true then some (.tup (rgD a b), false) else none
  | _ => none
def rRgL : List V → Hp → VK → Prop := fun vs H Q => ∃ a b, (vs = [.int b] ∧ a = 0 ∨ vs = [.int a, .int b]) ∧ RgOk a b ∧ ∀ q, H q = none → Q (.ref q) (upd H q (.lst (rgV a b)))
def rRgT : List V → Hp → VK → Prop := fun vs H Q => ∃ a b, (vs = [.int b] ∧ a = 0 ∨ vs = [.int a, .int b]) ∧ RgOk a b ∧ ∀ q, H q = none → Q (.ref q) (upd H q (.tup (rgV a b)))
theorem prRgL : PrimR Γ rRgL pRgL := by
  intro O H vs ds s Q m b e k
  have go : ∀ {a b : Int}, rgOkB a b = true → s = (.lst (rgD a b), true) → ∀ q, H q = none → Q (.ref q) (upd H q (.lst (rgV a b))) := by
    intro a b h es q hq
    subst es
    exact k q _ hq (Ext.new hq) (.lst upd_same (.inr rfl) reps_rg)
  match ds, e with
  | [.int n], e =>
    obtain ⟨v, rfl, h1⟩ := bors1 b
    have e' : (if rgOkB 0 n = true then some (D.lst (rgD 0 n), true) else none) = some s := e
    by_cases h : rgOkB 0 n = true
    · rw [if_pos h] at e'; cases e'
      rw [h1.int_inv]
      exact ⟨0, n, .inl ⟨rfl, rfl⟩, rgOk_of h, go h rfl⟩
    · rw [if_neg h] at e'; cases e'
  | [.int a, .int n], e =>
    obtain ⟨v, w, rfl, h1, h2⟩ := bors2 b
    have e' : (if rgOkB a n = true then some (D.lst (rgD a n), true) else none) = some s := e
    by_cases h : rgOkB a n = true
    · rw [if_pos h] at e'; cases e'
      rw [h1.int_inv, h2.int_inv]
      exact ⟨a, n, .inr rfl, rgOk_of h, go h rfl⟩
    · rw [if_neg h] at e'; cases e'
theorem prRgT : PrimR Γ rRgT pRgT := by
  intro O H vs ds s Q m b e k
  have go : ∀ {a b : Int}, s = (.tup (rgD a b), false) → ∀ q, H q = none → Q (.ref q) (upd H q (.tup (rgV a b))) := by
    intro a b es q hq
    subst es
    exact k _ _ (Ext.new hq) (.tup upd_same reps_rg)
  match ds, e with
  | [.int n], e =>
    obtain ⟨v, rfl, h1⟩ := bors1 b
    have e' : (if rgOkB 0 n = true then some (D.tup (rgD 0 n), false) else none) = some s := e
    by_cases h : rgOkB 0 n = true
    · rw [if_pos h] at e'; cases e'
      rw [h1.int_inv]
      exact ⟨0, n, .inl ⟨rfl, rfl⟩, rgOk_of h, go rfl⟩
    · rw [if_neg h] at e'; cases e'
  | [.int a, .int n], e =>
    obtain ⟨v, w, rfl, h1, h2⟩ := bors2 b
    have e' : (if rgOkB a n = true then some (D.tup (rgD a n), false) else none) = some s := e
    by_cases h : rgOkB a n = true
    · rw [if_pos h] at e'; cases e'
      rw [h1.int_inv, h2.int_inv]
      exact ⟨a, n, .inr rfl, rgOk_of h, go rfl⟩
    · rw [if_neg h] at e'; cases e'
end
section
variable {X : Cx} {ct : Cn} {W : WX} {a b e : Expr} {pos p p2 pos2 : Pos} {o1 o2 : Opd} {m m1 m2 : CExp}
theorem cr_intA : CallR X (.type "int") rIntA := callOr call_int1 call_int_str
theorem ce_listR1 (hc : X.calm = true) (hg : Gl X "list") (hm : X.mg "list" = none) (hg2 : Gl X "range") (hm2 : X.mg "range" = none) (h : CO X ct W a o1) (na : starEach [a] X.env = (false, eval a X.env) :: starEach [] X.env := by rfl) (nb : starEach [.Call (.Name "range" p2) [a] [] pos2] X.env = (false, eval (.Call (.Name "range" p2) [a] [] pos2) X.env) :: starEach [] X.env := by rfl) :
    CE X ct W (.Call (.Name "list" p) [.Call (.Name "range" p2) [a] [] pos2] [] pos) (cPrim pRgL [o1]) := by
  obtain ⟨t, p1, q1⟩ := h
  refine ⟨_, pe_listRg hc hg hm (prg_1 hg2 hm2 p1 na) nb, ?_⟩
  intro Z σ ρ H Q F k
  refine (fun z => ?_) ((SE.prim prRgL (.cons q1 .nil)) Z σ ρ H Q F k)
  have z1 : t σ H (fun v H1 => rRgL [v] H1 Q) := z
  have e : (fun v H1 => rRgL [v] H1 Q) = (fun x H1 => ∃ n, x = V.int n ∧ RgOk 0 n ∧ ∀ q, H1 q = none → Q (.ref q) (upd H1 q (.lst (rgV 0 n)))) := by
    funext v H1
    refine propext ⟨?_, ?_⟩
    · rintro ⟨a, b, (⟨e, rfl⟩ | e), h1, h2⟩
      · cases e; exact ⟨b, rfl, h1, h2⟩
      · cases e
    · rintro ⟨n, rfl, h1, h2⟩
      exact ⟨0, n, .inl ⟨rfl, rfl⟩, h1, h2⟩
  rw [e] at z1
  exact z1
theorem ce_tupR1 (hc : X.calm = true) (hg : Gl X "tuple") (hm : X.mg "tuple" = none) (hg2 : Gl X "range") (hm2 : X.mg "range" = none) (h : CO X ct W a o1) (na : starEach [a] X.env = (false, eval a X.env) :: starEach [] X.env := by rfl) (nb : starEach [.Call (.Name "range" p2) [a] [] pos2] X.env = (false, eval (.Call (.Name "range" p2) [a] [] pos2) X.env) :: starEach [] X.env := by rfl) :
    CE X ct W (.Call (.Name "tuple" p) [.Call (.Name "range" p2) [a] [] pos2] [] pos) (cPrim pRgT [o1]) := by
  obtain ⟨t, p1, q1⟩ := h
  refine ⟨_, pe_tupRg hc hg hm (prg_1 hg2 hm2 p1 na) nb, ?_⟩
  intro Z σ ρ H Q F k
  refine (fun z => ?_) ((SE.prim prRgT (.cons q1 .nil)) Z σ ρ H Q F k)
  have z1 : t σ H (fun v H1 => rRgT [v] H1 Q) := z
  have e : (fun v H1 => rRgT [v] H1 Q) = (fun x H1 => ∃ n, x = V.int n ∧ RgOk 0 n ∧ ∀ q, H1 q = none → Q (.ref q) (upd H1 q (.tup (rgV 0 n)))) := by
    funext v H1
    refine propext ⟨?_, ?_⟩
    · rintro ⟨a, b, (⟨e, rfl⟩ | e), h1, h2⟩
      · cases e; exact ⟨b, rfl, h1, h2⟩
      · cases e
    · rintro ⟨n, rfl, h1, h2⟩
      exact ⟨0, n, .inl ⟨rfl, rfl⟩, h1, h2⟩
  rw [e] at z1
  exact z1
theorem ce_listR2 (hc : X.calm = true) (hg : Gl X "list") (hm : X.mg "list" = none) (hg2 : Gl X "range") (hm2 : X.mg "range" = none) (h : CO X ct W a o1) (h2 : CO X ct W b o2) (na : starEach [a, b] X.env = (false, eval a X.env) :: starEach [b] X.env := by rfl) (na2 : starEach [b] X.env = (false, eval b X.env) :: starEach [] X.env := by rfl) (hp : ((backTo pos2 (starEach [b] X.env)).any fun x => x.1) = false := by rfl) (nb : starEach [.Call (.Name "range" p2) [a, b] [] pos2] X.env = (false, eval (.Call (.Name "range" p2) [a, b] [] pos2) X.env) :: starEach [] X.env := by rfl) :
    CE X ct W (.Call (.Name "list" p) [.Call (.Name "range" p2) [a, b] [] pos2] [] pos) (cPrim pRgL [o1, o2]) := by
  obtain ⟨t, p1, q1⟩ := h
  obtain ⟨u, p3, q2⟩ := h2
  refine ⟨_, pe_listRg hc hg hm (prg_2 hg2 hm2 p1 p3 na na2 hp) nb, ?_⟩
  intro Z σ ρ H Q F k
  refine (fun z => ?_) ((SE.prim prRgL (.cons q1 (.cons q2 .nil))) Z σ ρ H Q F k)
  have z1 : t σ H (fun v H1 => u σ H1 fun w H2 => rRgL [v, w] H2 Q) := z
  have e : (fun (v w : V) (H2 : Hp) => rRgL [v, w] H2 Q) = (fun x y H2 => ∃ i j, x = V.int i ∧ y = V.int j ∧ RgOk i j ∧ ∀ q, H2 q = none → Q (.ref q) (upd H2 q (.lst (rgV i j)))) := by
    funext v w H1
    refine propext ⟨?_, ?_⟩
    · rintro ⟨a, b, (⟨e, rfl⟩ | e), h1, h2⟩
      · cases e
      · cases e; exact ⟨a, b, rfl, rfl, h1, h2⟩
    · rintro ⟨n, m, rfl, rfl, h1, h2⟩
      exact ⟨n, m, .inr rfl, h1, h2⟩
  have z2 : t σ H (fun v H1 => u σ H1 ((fun (v w : V) (H2 : Hp) => rRgL [v, w] H2 Q) v)) := z1
  rw [e] at z2
  exact z2
theorem ce_popAt (i : Nat) {x : Str} {pos' apos cpos : Pos} (h : CE X ct W e m) (hN : X.N[i]? = some x := by rfl) (hv : Vis X.env.scope x := by first | exact Or.inl rfl | exact Or.inr (Or.inl rfl) | exact Or.inr (Or.inr rfl)) (hd : (x == ("__debug__" : Str)) = false := by decide) (hcd : (x == ("__classdict__" : Str)) = false := by decide)
    (hbase : attributeBase (.Name x pos') "pop" X.env (eval (.Name x pos') X.env) = eval (.Name x pos') X.env := by rfl)
    (hfew : ((backTo cpos (starEach [e] X.env)).all (fun x => !x.1) && (backToKw cpos (keywordEach [] X.env)).all (fun x => x.1.isSome) && decide (([e] : List Expr).length + ([] : List Keyword).length + (if ([] : List Keyword).isEmpty then 0 else 1) < 30)) = true := by rfl)
    (hline : (apos.endLine == cpos.line) = true := by rfl) (hs : starEach [e] X.env = (false, eval e X.env) :: starEach [] X.env := by rfl) :
    CE X ct W (.Call (.Attribute (.Name x pos') "pop" apos) [e] [] cpos) (cPopAt i m) := by
  obtain ⟨t, p1, q1⟩ := h
  exact ⟨_, pe_bm PySem.F.plainAttrs_list PySem.F.slot_list_pop PySem.F.type_list_pop mt_popAt (pe_var hN hv hd hcd) (pa_cons p1 pa_nil hs) hbase hfew hline hs, SE.popAt q1⟩
theorem ce_revI (i : Nat) {x : Str} {pos' apos cpos : Pos} (hN : X.N[i]? = some x := by rfl) (hv : Vis X.env.scope x := by first | exact Or.inl rfl | exact Or.inr (Or.inl rfl) | exact Or.inr (Or.inr rfl)) (hd : (x == ("__debug__" : Str)) = false := by decide) (hcd : (x == ("__classdict__" : Str)) = false := by decide)
    (hbase : attributeBase (.Name x pos') "reverse" X.env (eval (.Name x pos') X.env) = eval (.Name x pos') X.env := by rfl) (hline : (apos.endLine == cpos.line) = true := by rfl) :
    CE X ct W (.Call (.Attribute (.Name x pos') "reverse" apos) [] [] cpos) (cRevI i) := ⟨_, pe_bm0 PySem.F.plainAttrs_list PySem.F.slot_list_reverse PySem.F.type_list_reverse mt_reverse (pe_var hN hv hd hcd) hbase hline, SE.revI⟩
end
/-! simp -/
@[simp] theorem e_sum (xs : List D) : pSum [.lst xs] = (intsOf xs).map fun ns => (.int ns.sum, false) := rfl
@[simp] theorem e_intA_s (a : Str) : pIntA [.str a] = if a.length ≤ 640 then (PySem.intText? a).map fun n => (.int n, false) else none := rfl
@[simp] theorem e_intA_i (i : Int) : pIntA [.int i] = some (.int i, false) := rfl
@[simp] theorem e_intA_b (b : Bool) : pIntA [.bl b] = some (.int (if b then 1 else 0), false) := rfl
@[simp] theorem e_cPopAt (i : Nat) (m : CExp) : cPopAt i m = cMut i isLst fPopAt [.e m] := rfl
@[simp] theorem e_cRevI (i : Nat) : cRevI i = cMut i isLst fRevI [] := rfl
@[simp] theorem e_cIns (i : Nat) (m1 m2 : CExp) : cIns i m1 m2 = cMut i isLst fIns [.e m1, .e m2] := rfl
@[simp] theorem e_fRevI (xs : List D) : fRevI (.lst xs) [] = some (.lst xs.reverse, .non) := rfl
@[simp] theorem e_fIns (xs : List D) (i : Int) (y : D) : fIns (.lst xs) [.int i, y] = if xs.length < sizeLine ∧ 0 ≤ i ∧ i.natAbs < 9223372036854775808 then some (.lst (xs.take i.toNat ++ [y] ++ xs.drop i.toNat), .non) else none := rfl
theorem e_fPopAt {xs : List D} {i : Int} (h0 : 0 ≤ i) (h1 : i < xs.length) (h2 : xs.length ≤ 16777216) {d : D} (hd : xs[i.toNat]? = some d) : fPopAt (.lst xs) [.int i] = some (.lst (xs.eraseIdx i.toNat), d) := by
  have hs : seqIndex? i xs.length = some i.toNat := by
    unfold seqIndex?
    have h3 : ¬ i < 0 := by omega
    simp only [h3, if_false]
    rw [if_pos (by simp [h0, h1])]
  show (if i.natAbs < 9223372036854775808 then (match seqIndex? i xs.length with
    | some k => (match xs[k]? with
      | some d => some (D.lst (xs.eraseIdx k), d)
      | none => none)
    | none => none) else none) = _
  rw [if_pos (by omega), hs]
  simp only [hd]
@[simp] theorem e_RgL1 (n : Int) : pRgL [.int n] = if rgOkB 0 n = true then some (.lst (rgD 0 n), true) else none := Eq.trans rfl rfl
@[simp] theorem e_RgL2 (a n : Int) : pRgL [.int a, .int n] = if rgOkB a n = true then some (.lst (rgD a n), true) else none := Eq.trans rfl rfl
@[simp] theorem e_RgT1 (n : Int) : pRgT [.int n] = if rgOkB 0 n = true then some (.tup (rgD 0 n), false) else none := Eq.trans rfl rfl
@[simp] theorem e_RgT2 (a n : Int) : pRgT [.int a, .int n] = if rgOkB a n = true then some (.tup (rgD a n), false) else none := Eq.trans rfl rfl
end VS

namespace VS
open PySem L2 PySem.Spec PyProof.Rows
open L2H (PinOk cxH inv_startH)
/-! ### defs that are handed the exception -/
section
variable {Y : Cx} {a C : Addr} {oe : Obj} {d : Option Addr}
theorem pe_xfP {e : Expr} {te : TE} {f : Str} {pos : Pos} (hp : (a, oe) ∈ Y.pn) (hz : L2.Zc (.ref C) d oe) (hf : ∃ vs, oe.data = .fields vs) (he : PE (Y) e te) (hb : attributeBase e f Y.env (eval e Y.env) = eval e Y.env := by rfl) :
    PE (Y) (.Attribute e f pos) (tXf Y.K a C d f te) := by
  refine ⟨fun pins s σ H Q I h => ?_⟩
  refine attr_of hb (thn (he.run pins s σ H _ I h) fun u s1 hh => ?_)
  obtain ⟨x, H1, I1, rx, ex, T, nf, dd, vs, v, ed, ea, l, q⟩ := hh
  subst ex
  cases (show u = Value.ref a from rx)
  subst ed
  obtain ⟨ha, _⟩ := I1.pin (a, oe) (List.mem_append_left _ hp)
  obtain ⟨ws, hd⟩ := hf
  have hx : ObjOk Y.prog Y.w H1 s1.heap dd (.xd vs) := I1.hok dd _ ea
  obtain ⟨mA, hns, hr⟩ := hx
  obtain ⟨od, ho, hl⟩ := lookIn_ns hns
  obtain ⟨u, hu, ru⟩ := RelO.some_of (v := v) (o := mA f) (by rw [← l]; exact hr f)
  have J : PySem.W.InstAt s1.heap a oe C (some od) := ⟨ha, hz.1, by unfold PySem.W.notCls; rw [hd] <;> rfl, by rw [hz.2]; exact ho⟩
  exact HandSPX.exc_get I1.kIn J T.ga T.gg T.sb (PySem.W.findObj_own T.hd nf rfl (by rw [hl, hu])) (handed_of ru) ⟨v, H1, I1.tok _, ru, q⟩
theorem call_isXP (hp : (a, oe) ∈ Y.pn) (hz : L2.Zc (.ref C) d oe) (hf : ∃ vs, oe.data = .fields vs) : CallR (Y) (.builtin "isinstance") (rXis Y.K a C d) := by
  intro pins s σ H xs us Q I r h
  obtain ⟨T, hdd, h⟩ := h
  obtain ⟨ha, _⟩ := I.pin (a, oe) (List.mem_append_left _ hp)
  obtain ⟨ws, hd⟩ := hf
  obtain ⟨od, J⟩ : ∃ od, PySem.W.InstAt s.heap a oe C od := by
    cases d with
    | none => exact ⟨none, ha, hz.1, by unfold PySem.W.notCls; rw [hd] <;> rfl, by rw [hz.2]; trivial⟩
    | some dd =>
      obtain ⟨vs, ea⟩ := hdd dd rfl
      have hx : ObjOk Y.prog Y.w H s.heap dd (.xd vs) := I.hok dd _ ea
      obtain ⟨mA, hns, hr⟩ := hx
      obtain ⟨od, ho, hl⟩ := lookIn_ns hns
      exact ⟨some od, ha, hz.1, by unfold PySem.W.notCls; rw [hd] <;> rfl, by rw [hz.2]; exact ho⟩
  have Z := PySem.W.kitx_exc (x := a) (ox := oe) (od := od) T.cl T.ga T.gg T.sb T.cc T.gd T.td T.ob
  rcases h with ⟨c, u, b, rfl, k, e, q⟩ | ⟨tp, cs, ws, b, rfl, hT, k, e, q⟩
  · obtain ⟨u1, u2, rfl, r1, r2⟩ := vals2 r
    cases (show u1 = Value.ref a from r1)
    have e2 := k.eq r2
    subst e2
    exact PySem.W.kia_one Z I.kIn J e (fun z => nomatch z) fun tk => ⟨.bl b, H, I.tok tk, rfl, q⟩
  · obtain ⟨u1, u2, rfl, r1, r2⟩ := vals2 r
    cases (show u1 = Value.ref a from r1)
    cases (show u2 = Value.ref tp from r2)
    obtain ⟨_, its, rv, o, h1, h2, n, h3⟩ := (show ObjOk Y.prog Y.w H s.heap tp (.tup cs) from I.hok tp _ hT)
    have e3 := ClsV.all k rv
    subst e3
    obtain ⟨oc, od', dt, sl⟩ := o
    simp only at h2 h3
    subst h2 h3
    exact PySem.W.kia_tup Z I.kIn J h1 e (fun z => nomatch z) fun tk => ⟨.bl b, H, I.tok tk, rfl, q⟩
end
section
variable {Y : Cx} {ctf : Nat → Addr} {W : WX} {fx : List Nat} {e : Expr} {es : List Expr} {pos : Pos} {os : List Opd} {a : Addr} {oe : Obj} {c : Nat} {d : Option Addr}
theorem ce_xfP (i : Nat) {x f : Str} {pos1 : Pos} (cs : List Nat) (hp : (a, oe) ∈ Y.pn) (hz : L2.Zc (.ref (ctf c)) d oe) (hf : ∃ vs, oe.data = .fields vs) (hc : ∀ c ∈ cs, XTy Y.K (ctf c) ∧ PySem.W.findIn Y.K (.ref (ctf c)) f = some none) (hN : Y.N[i]? = some x := by rfl)
    (hv : Vis Y.env.scope x := by first | exact Or.inl rfl | exact Or.inr (Or.inl rfl) | exact Or.inr (Or.inr rfl)) (hd : (x == ("__debug__" : Str)) = false := by decide) (hcd : (x == ("__classdict__" : Str)) = false := by decide) (hb : attributeBase (.Name x pos1) f Y.env (eval (.Name x pos1) Y.env) = eval (.Name x pos1) Y.env := by rfl) :
    CE Y ⟨ctf, some (a, c, d)⟩ W (.Attribute (.Name x pos1) f pos) (cXf i f cs) :=
  ⟨_, pe_xfP hp hz hf (pe_var hN hv hd hcd) hb, SE.xf (Γ := ⟨Y.K, ⟨ctf, some (a, c, d)⟩⟩) rfl hc⟩
theorem ce_isxP {p : Pos} (tb : Nat → D → Option Bool) (hp : (a, oe) ∈ Y.pn) (hz : L2.Zc (.ref (ctf c)) d oe) (hf : ∃ vs, oe.data = .fields vs) (ht : ∀ c k b, tb c k = some b → XTy Y.K (ctf c) ∧ ∃ u, ClsD ctf k u ∧ PySem.W.kitOne Y.K (.ref (ctf c)) u = some b) (hg : Gl Y "isinstance") (hm : Y.mg "isinstance" = none)
    (ha : CA Y ⟨ctf, some (a, c, d)⟩ W (e :: es) os) (he : starEach (e :: es) Y.env = (false, eval e Y.env) :: starEach es Y.env := by rfl) (hpl : (backTo pos (starEach es Y.env)).any (·.1) = false := by rfl) :
    CE Y ⟨ctf, some (a, c, d)⟩ W (.Call (.Name "isinstance" p) (e :: es) [] pos) (cPrim (pXis tb) os) :=
  ce_b (X := Y) (ct := ⟨ctf, some (a, c, d)⟩) (call_isXP hp hz hf) (prXis (Γ := ⟨Y.K, ⟨ctf, some (a, c, d)⟩⟩) rfl ht) hg hm (by decide +kernel) ha (by decide) (by decide) he hpl
end
def FnP (P : Program) (w : World) (K : PySem.W.Frag) (mg : Str → Option Value) (base : Heap) (CX : CXT) (k : Nat) (f : Addr) (p : Addr × Obj) (sp : Sp) : Prop :=
  ∀ (A : Around) (outer : List Env) (s : Shared) (H : Hp) (us : List Value) (vs : List V) (Q : VK) (E : XK), RoomW k A → PinOk outer H s p → Env0 P w K mg base A outer s H → Vals vs us → sp vs H Q E →
    codeAny (model P w) A (.call (.ref f) ⟨us, []⟩) (CR CX outer P w H s Q E) s
theorem fn_ofP {CX : CXT} {P : Program} {w : World} {K : PySem.W.Frag} {mg : Str → Option Value} {base : Heap} {k : Nat} {f : Addr} {name qual : Str} {params : Arguments} {body : List Stmt} {scope : Scope} {dV kV doc pm cdv ct oc : Value} {an od : Option Addr}
    {osl : Array (Option Value)} {N ps : List Str} {sp : Sp} {p : Addr × Obj} (lk : K.lookup f = some ⟨oc, od, .func (PySem.W.fnOf name qual params body scope dV kV doc pm an cdv ct), osl⟩) (hcd : PySem.W.codeIn K cdv qual = true) (S : FnScope N ps scope)
    (len : ∀ vs H Q E, sp vs H Q E → vs.length = ps.length) (hb : Binds K (PySem.W.fnOf name qual params body scope dV kV doc pm an cdv ct) ps [])
    (hbody : ∀ (A : Around) (outer : List Env) (s : Shared) (H : Hp) (vs : List V) (Q : VK) (E : XK), RoomW k (A.deeper (envOfC qual scope s.heap.objs.size f cdv)) → sp vs H Q E →
      ∃ t, PSs (cxH CX P w K mg base N qual scope f cdv A outer s H E p) body t ∧ t { nx := fun _ H' => Q .non H', rt := Q } (L2.start N vs) H) :
    FnP P w K mg base CX (k + 1) f p sp := by
  intro A outer s H us vs Q E hr hpin e0 r hsp
  have hl := len _ _ _ _ hsp
  have KX : K.In s.heap := e0.mod.kin.keeps fun b o e => (e0.bs b o e).1
  have lim : s.heap.NoLimit := e0.mod.nolimit.keeps fun b o e => (e0.bs b o e).1
  have hkind : ∀ y ∈ ps.zip us, scope.names.lookup y.1 = some .local ∨ (scope.names.lookup y.1 = some .cell ∧ ((cellsFrom (s.heap.objs.size + 1) scope.names []).lookup y.1).isSome = true) := fun ⟨n, v⟩ hy => by
    rcases S.par n (List.of_mem_zip hy).1 with q | q
    · exact .inl q
    · exact .inr ⟨q, PySem.W.cellsFrom_some _ _ _ (.inl q)⟩
  have hlu : us.length = ps.length := by rw [← r.length]; exact hl
  have b := hb s us KX (by rw [List.append_nil]; exact hlu)
  rw [List.append_nil] at b
  refine codeAny_call_function hr.depth (KX _ _ lk) rfl S.co S.gen rfl (PySem.W.codeRec_of KX hcd) (b _ _ _ _ ?_)
  refine wpAny_newFunctionEnv_cells S.kind hkind fun env he s1 x => ?_
  subst he
  refine ⟨lim.keeps x.toInCall.keep, codeAny_func ?_⟩
  obtain ⟨t, ht, hq⟩ := hbody A outer s H vs Q E (hr.deeper _) hsp
  have I : L2.Inv (cxH CX P w K mg base N qual scope f cdv A outer s H E p) [] (L2.start N vs) H s1 := inv_startH S hpin e0 hl r x
  refine wpAny_mono (ht.run [] s1 (L2.start N vs) H _ I hq) (fun fl s' hs => ?_) fun e s' hs => hs
  have fin : ∀ {σ' : L2.St} {H' : Hp} {v : V} {u : Value}, L2.Inv (cxH CX P w K mg base N qual scope f cdv A outer s H E p) [] σ' H' s' → RelV v u → Q v H' → L2.CE outer P w H s Q u s' :=
    fun {σ' H' v u} J rv q => ⟨v, H', J.os, J.bare, J.base, J.hok, rv, q⟩
  cases fl with
  | ret u =>
    obtain ⟨v, σ', H', J, rv, q⟩ := hs
    exact fin J rv q
  | next =>
    obtain ⟨σ', H', J, q⟩ := hs
    exact fin (v := V.non) (u := Value.none) J rfl q
  | brk =>
    obtain ⟨_, _, _, q⟩ := hs
    exact False.elim q
  | cont =>
    obtain ⟨_, _, _, q⟩ := hs
    exact False.elim q
/-- a def by name, handed the exception -/
structure FnPin (P : Program) (w : World) (K : PySem.W.Frag) (mg : Str → Option Value) (base : Heap) (ctf : Nat → Addr) (k : Nat) (x : Str) (np : Nat) (F : CFun) : Prop where
  ex : ∃ f : Addr, (∀ (a : Addr) (oe : Obj) (c : Nat) (d : Option Addr), L2.Zc (.ref (ctf c)) d oe → (∃ vs, oe.data = .fields vs) → FnP P w K mg base (L2.CX P w) k f (a, oe) (spD ⟨K, ⟨ctf, some (a, c, d)⟩⟩ F np)) ∧ mg x = some (.ref f) ∧ PySem.W.keepIn K (.ref f) = true
theorem run_fnP {X : Cx} {k : Nat} {f : Addr} {p : Addr × Obj} {sp : Sp} {E : XK} {pins : List (Addr × Obj)} {σ : L2.St} {H : Hp} {s : Shared} {Q : VK} {us : List Value} {vs : List V} (hp : p ∈ X.pn) (F : FnP X.prog X.w X.K X.mg X.base (L2.CX X.prog X.w) k f p sp) (hr : RoomW k X.A) (hx : PassesAt (L2.CX X.prog X.w) X σ E)
    (I : L2.Inv X pins σ H s) (r : Vals vs us) (h : sp vs H Q E) : wpAny (model X.prog X.w) X.A (call (.ref f) us) (EP X pins σ Q) X.xe s := by
  have P1 := I.pin p (List.mem_append_left _ hp)
  have hpin : PinOk X.stack H s p := ⟨P1.1, P1.2.1, fun hm => (List.mem_cons.mp (I.stkSub p.1 hm)).elim P1.2.2.1 P1.2.2.2.1, P1.2.2.2.2⟩
  refine wpAny_call (codeAny_mono (F X.A X.stack s H us vs Q E hr hpin I.env0 r h) fun z s' hq => ?_)
  cases z with
  | error e => exact hx pins H s e s' I hq
  | ok fl =>
    cases fl with
    | ret u => exact I.after hq
    | next => exact hq.elim
    | brk => exact hq.elim
    | cont => exact hq.elim
theorem pe_callP {X : Cx} {k : Nat} {f : Addr} {pp : Addr × Obj} {sp : Sp} {E : L2.St → XK} {x : Str} {p pos : Pos} {e : Expr} {es : List Expr} {t : TA} (hp : pp ∈ X.pn) (F : FnP X.prog X.w X.K X.mg X.base (L2.CX X.prog X.w) k f pp sp) (hr : RoomW k X.A) (hg : Gl X x) (hm : X.mg x = some (.ref f)) (hk : PySem.W.keepIn X.K (.ref f) = true) (hx : ∀ σ, PassesAt (L2.CX X.prog X.w) X σ (E σ))
    (ha : PA X (e :: es) t) (hdb : (x == ("__debug__" : Str)) = false := by decide) (he : starEach (e :: es) X.env = (false, eval e X.env) :: starEach es X.env := by rfl) (hpl : (backTo pos (starEach es X.env)).any (·.1) = false := by rfl) :
    PE X (.Call (.Name x p) (e :: es) [] pos) (tCallS sp E t) := ⟨fun pins s σ H Q I h =>
  wpAny_Call_Name_kw (ld_glob I hg hm (PySem.W.callWith_K (h₀ := X.base) I.ok.mod.kin hk (thn (ha.run pos pins s σ H _ I h) fun us s1 ⟨vs, H1, I1, r, q⟩ => ⟨I1.kIn, run_fnP hp F hr (hx σ) I1 r q⟩) he hpl) hdb)⟩
theorem ce_callP {X : Cx} {ctf : Nat → Addr} {a : Addr} {oe : Obj} {c : Nat} {d : Option Addr} {W : WX} {e : Expr} {es : List Expr} {pos p : Pos} {os : List Opd} {k k' np : Nat} {x : Str} {F : CFun} (h : FnPin X.prog X.w X.K X.mg X.base ctf k x np F) (hp : (a, oe) ∈ X.pn) (hz : L2.Zc (.ref (ctf c)) d oe) (hf : ∃ vs, oe.data = .fields vs) (hr : RoomW k' X.A) (hk : k ≤ k') (hg : Gl X x) (tk : Takes X W) (ha : CA X ⟨ctf, some (a, c, d)⟩ W (e :: es) os) (hn : os.length = np)
    (hdb : (x == ("__debug__" : Str)) = false := by decide) (he : starEach (e :: es) X.env = (false, eval e X.env) :: starEach es X.env := by rfl) (hpl : (backTo pos (starEach es X.env)).any (·.1) = false := by rfl) : CE X ⟨ctf, some (a, c, d)⟩ W (.Call (.Name x p) (e :: es) [] pos) (cCall F os) := by
  obtain ⟨f, G, hm, kp⟩ := h.ex
  obtain ⟨t, p1, q1⟩ := ha
  exact ⟨_, pe_callP hp (G a oe c d hz hf) (hr.mono hk) hg hm kp (fun σ => passAt tk σ) p1 hdb he hpl, SE.call q1 hn⟩
theorem fn_mkP {P : Program} {w : World} {K : PySem.W.Frag} {mg : Str → Option Value} {base : Heap} {ctf : Nat → Addr} {x : Str} {st : Stmt} {f : Addr} {fd : FuncData} {N ps : List Str} {k : Nat} (fx : List Nat) {m : CStm} (F : L2.Fun K x x st f fd) (S : FnScope N ps (defScope st)) (hm : mg x = some (.ref f)) (hb : Binds K fd ps [])
    (body : ∀ (a : Addr) (oe : Obj) (c : Nat) (d : Option Addr), L2.Zc (.ref (ctf c)) d oe → (∃ vs, oe.data = .fields vs) → ∀ (cdv : Value) (A : Around) (outer : List Env) (s : Shared) (H : Hp) (E : XK), RoomW k (A.deeper (envOfC x (defScope st) s.heap.objs.size f cdv)) →
      Takes (cxH (L2.CX P w) P w K mg base N x (defScope st) f cdv A outer s H E (a, oe)) (fun cls d _ H => E cls d H) →
      PassesOwn (model P w) (cxH (L2.CX P w) P w K mg base N x (defScope st) f cdv A outer s H E (a, oe)).A (cxH (L2.CX P w) P w K mg base N x (defScope st) f cdv A outer s H E (a, oe)).env (cxH (L2.CX P w) P w K mg base N x (defScope st) f cdv A outer s H E (a, oe)).xe →
      (cxH (L2.CX P w) P w K mg base N x (defScope st) f cdv A outer s H E (a, oe)).A.units + 65 < cLine →
      CSs (cxH (L2.CX P w) P w K mg base N x (defScope st) f cdv A outer s H E (a, oe)) ⟨ctf, some (a, c, d)⟩ fx (fun cls d _ H => E cls d H) (defBody st) m) : FnPin P w K mg base ctf (k + 1) x ps.length (bodyF fx N.length m) := by
  refine ⟨f, fun a oe c d hz hf => ?_, hm, F.kp⟩
  obtain ⟨oc, od, kV, doc, pm, an, cdv, ct', osl, rfl, lk, hcd⟩ := F.ex
  refine fn_ofP lk hcd S (fun vs H Q E h => h.1) hb fun A outer s H vs Q E hr h => ?_
  obtain ⟨t, p, q⟩ := body a oe c d hz hf cdv A outer s H E hr (takes_of rfl rfl rfl rfl) (passes_of rfl) (by have := hr.un; show (A.deeper _).units + 65 < cLine; omega)
  exact ⟨t, p, def_ok q h⟩
theorem css_stuck {X : Cx} {ct : Cn} {fx : List Nat} {W : WX} {ss : List Stmt} : CSs X ct fx W ss cStuck := ⟨fun _ _ _ => False, ⟨fun _ _ _ _ _ _ h => h.elim⟩, fun _ _ _ _ _ _ k => k.elim⟩
/-! list.insert -/
section
variable {X : Cx} {ct : Cn} {W : WX} {e e2 : Expr} {m m2 : CExp}
theorem ce_ins (i : Nat) {x : Str} {pos' apos cpos : Pos} (h : CE X ct W e m) (h2 : CE X ct W e2 m2) (hN : X.N[i]? = some x := by rfl) (hv : Vis X.env.scope x := by first | exact Or.inl rfl | exact Or.inr (Or.inl rfl) | exact Or.inr (Or.inr rfl)) (hd : (x == ("__debug__" : Str)) = false := by decide) (hcd : (x == ("__classdict__" : Str)) = false := by decide)
    (hbase : attributeBase (.Name x pos') "insert" X.env (eval (.Name x pos') X.env) = eval (.Name x pos') X.env := by rfl)
    (hfew : ((backTo cpos (starEach [e, e2] X.env)).all (fun x => !x.1) && (backToKw cpos (keywordEach [] X.env)).all (fun x => x.1.isSome) && decide (([e, e2] : List Expr).length + ([] : List Keyword).length + (if ([] : List Keyword).isEmpty then 0 else 1) < 30)) = true := by rfl)
    (hline : (apos.endLine == cpos.line) = true := by rfl) (hs : starEach [e, e2] X.env = (false, eval e X.env) :: starEach [e2] X.env := by rfl) (hs2 : starEach [e2] X.env = (false, eval e2 X.env) :: starEach [] X.env := by rfl) (hpl : (backTo cpos (starEach [e2] X.env)).any (·.1) = false := by rfl) :
    CE X ct W (.Call (.Attribute (.Name x pos') "insert" apos) [e, e2] [] cpos) (cIns i m m2) := by
  obtain ⟨t, p1, q1⟩ := h
  obtain ⟨t2, p2, q2⟩ := h2
  exact ⟨_, pe_bm PySem.F.plainAttrs_list PySem.F.slot_list_insert PySem.F.type_list_insert mt_insert (pe_var hN hv hd hcd) (pa_cons p1 (pa_cons p2 pa_nil hs2) hs) hbase hfew hline hs (hplain := hpl), SE.ins q1 q2⟩
end
end VS

namespace VS
open PySem L2 PySem.Spec PyProof.Rows
/-! ### classes: the syntax rules -/
/-- what is known of the field f of the class c -/
structure FOk (K : PySem.W.Frag) (ct : Cn) (f : Str) (c : Nat) : Prop where
  cls : Cls K (ct.ct c)
  no : NoAttr K (ct.ct c) f
def FsOk (K : PySem.W.Frag) (ct : Cn) (f : Str) (cs : List Nat) : Prop := ∀ c ∈ cs, FOk K ct f c
theorem fs_nil {K : PySem.W.Frag} {ct : Cn} {f : Str} : FsOk K ct f [] := fun _ h => by cases h
theorem fs_cons {K : PySem.W.Frag} {ct : Cn} {f : Str} {c : Nat} {cs : List Nat} (h : FOk K ct f c) (t : FsOk K ct f cs) : FsOk K ct f (c :: cs) := fun c' hc => by
  rcases List.mem_cons.mp hc with e | e
  · rw [e]; exact h
  · exact t c' e
/-- what is known of the making of the class c by its name x -/
structure MkOk (P : Program) (w : World) (K : PySem.W.Frag) (mg : Str → Option Value) (base : Heap) (ct : Cn) (k : Nat) (x : Str) (np : Nat) (c : Nat) (F : CFun) : Prop where
  ex : ∃ f : Addr, Mk K (ct.ct c) f ∧ mg x = some (.ref (ct.ct c)) ∧ L2.FnR P w K mg base (L2.CX P w) k f (spD ⟨K, ct⟩ F np)
/-- a static method -/
structure SOk (P : Program) (w : World) (K : PySem.W.Frag) (mg : Str → Option Value) (base : Heap) (ct : Cn) (k : Nat) (x m : Str) (np : Nat) (F : CFun) : Prop where
  ex : ∃ (C p g : Addr) (mc : Value) (rest : List Value), mg x = some (.ref C) ∧ PySem.W.readsIn K C mc = true ∧ PySem.W.specialIn K (.ref C) "__getattribute__" = some (some (.builtin "type.__getattribute__")) ∧
    PySem.W.findCls K (.ref C) mc m = some (.get (.builtin "staticmethod.__get__") (.ref p) .none (.ref C)) ∧ PySem.W.recIn K p "staticmethod" = some (.ref g :: rest) ∧ PySem.W.keepIn K (.ref g) = true ∧ L2.FnR P w K mg base (L2.CX P w) k g (spD ⟨K, ct⟩ F np)
section
variable {X : Cx} {ct : Cn} {W : WX} {fx : List Nat} {a b c e o : Expr} {es : List Expr} {pos p apos : Pos} {o1 o2 : Opd} {os : List Opd} {m : CExp} {k k' np : Nat} {tbl : MTbl} {F : CFun} {x f : Str}
theorem ce_fld {cs : List Nat} (hc : FsOk X.K ct f cs) (h : CO X ct W o o1) (hb : attributeBase o f X.env (eval o X.env) = eval o X.env := by rfl) : CE X ct W (.Attribute o f pos) (cPrim (pFld f cs) [o1]) := by
  obtain ⟨t, p1, q1⟩ := h
  exact ⟨_, pe_fld p1 hb, SE.op1 (prFld fun c h => ⟨(hc c h).cls, (hc c h).no⟩) q1⟩
theorem cs_fst (i : Nat) {cs : List Nat} {p1 p2 : Pos} (hc : FsOk X.K ct f cs) (h : CE X ct W e m) (hN : X.N[i]? = some x := by rfl) (hv : Vis X.env.scope x := by first | exact Or.inl rfl | exact Or.inr (Or.inl rfl) | exact Or.inr (Or.inr rfl)) (hd : (x == ("__debug__" : Str)) = false := by decide) (hcd : (x == ("__classdict__" : Str)) = false := by decide)
    (hs : swapsWith e (some (.Attribute (.Name x p1) f p2)) pos.line X.env = pure false := by rfl) : CS X ct fx W (.Assign [.Attribute (.Name x p1) f p2] e pos) (cFst i f cs m) := by
  obtain ⟨t, p, q⟩ := h
  exact ⟨_, ps_fld (pe_var hN hv hd hcd) p hs, SS.fst (fun c h => ⟨(hc c h).cls, (hc c h).no⟩) q⟩
theorem ce_meth {mt : Str} {pl : Sem Bool} (hM : MtOk X.prog X.w X.K X.mg X.base ct k mt np tbl) (hr : Room k' X.A) (hk : k ≤ k') (tk : Takes X W) (h : CO X ct W o o1) (ha : CA X ct W (e :: es) os) (hn : os.length + 1 = np)
    (hst : starEach (e :: es) X.env = (false, eval e X.env) :: starEach es X.env := by rfl) (hpl : (backTo pos (starEach es X.env)).any (·.1) = false := by rfl)
    (ht : eval (.Call (.Attribute o mt apos) (e :: es) [] pos) X.env = (do
      let ov ← eval o X.env
      standAt apos.atName
      let (f, first) ← holding [ov] (getMethod ov mt pl)
      callWith pos f first (backTo pos (starEach (e :: es) X.env)) (backToKw pos (keywordEach [] X.env))) := by rfl) : CE X ct W (.Call (.Attribute o mt apos) (e :: es) [] pos) (cMeth mt tbl o1 os) := by
  obtain ⟨t, p1, q1⟩ := h
  obtain ⟨u, p2, q2⟩ := ha
  exact ⟨_, pe_methT p1 hM (hr.mono hk) (fun σ => passAt tk σ) p2 hst hpl ht, SE.meth q1 q2 hn⟩
theorem ce_meth0 {mt : Str} {pl : Sem Bool} (hM : MtOk X.prog X.w X.K X.mg X.base ct k mt 1 tbl) (hr : Room k' X.A) (hk : k ≤ k') (tk : Takes X W) (h : CO X ct W o o1)
    (ht : eval (.Call (.Attribute o mt apos) [] [] pos) X.env = (do
      let ov ← eval o X.env
      standAt apos.atName
      let (f, first) ← holding [ov] (getMethod ov mt pl)
      callWith pos f first (backTo pos (starEach [] X.env)) (backToKw pos (keywordEach [] X.env))) := by rfl) : CE X ct W (.Call (.Attribute o mt apos) [] [] pos) (cMeth mt tbl o1 []) := by
  obtain ⟨t, p1, q1⟩ := h
  exact ⟨_, pe_methT0 p1 hM (hr.mono hk) (fun σ => passAt tk σ) ht, SE.meth q1 .nil rfl⟩
theorem ce_opC {op : Operator} {r : R2} {g : List D → Option Slot} (ho : OpR X (binaryOp op) r) (hp : PrimR (Gx X ct) (r2l r) g) (hM : MtOk X.prog X.w X.K X.mg X.base ct k (PySem.dunder op.info.2) 2 tbl) (hr : Room k' X.A) (hk : k ≤ k') (tk : Takes X W) (h1 : CO X ct W a o1) (h2 : CO X ct W b o2) : CE X ct W (.BinOp a op b pos) (cOpC g tbl o1 o2) := by
  obtain ⟨t, p1, q1⟩ := h1
  obtain ⟨u, p2, q2⟩ := h2
  exact ⟨_, pe_opS (OpRS.or ho (op_binC hM (hr.mono hk) fun σ => passAt tk σ)) p1 p2, SE.binC hp q1 q2⟩
def rNo2 : R2 := fun _ _ _ _ => False
def pNo : List D → Option Slot := fun _ => none
theorem op_no {f : Value → Value → Sem Value} : OpR X f rNo2 := fun _ _ _ _ _ _ _ _ _ _ _ _ h => h.elim
theorem prNo {Γ : Gm} : PrimR Γ (r2l rNo2) pNo := fun _ _ _ _ _ _ _ _ e _ => by cases e
theorem ce_inC (hu : X.A.units + 65 < cLine) (hM : MtOk X.prog X.w X.K X.mg X.base ct k "__contains__" 2 tbl) (hr : Room k' X.A) (hk : k ≤ k') (tk : Takes X W) (h1 : CO X ct W a o1) (h2 : CO X ct W b o2) (hm : behindInMarks .In b = false := by rfl) : CE X ct W (.Compare a [.In] [b] pos) (cInC pIn false tbl o1 o2) := by
  obtain ⟨t, p1, q1⟩ := h1
  obtain ⟨u, p2, q2⟩ := h2
  exact ⟨_, pe_cmpS (OpRS.or (opIn hu) (op_inC hM (hr.mono hk) fun σ => passAt tk σ)) p1 p2 hm, SE.inC prIn q1 q2⟩
theorem ce_niC (hu : X.A.units + 65 < cLine) (hM : MtOk X.prog X.w X.K X.mg X.base ct k "__contains__" 2 tbl) (hr : Room k' X.A) (hk : k ≤ k') (tk : Takes X W) (h1 : CO X ct W a o1) (h2 : CO X ct W b o2) (hm : behindInMarks .NotIn b = false := by rfl) : CE X ct W (.Compare a [.NotIn] [b] pos) (cInC pNi true tbl o1 o2) := by
  obtain ⟨t, p1, q1⟩ := h1
  obtain ⟨u, p2, q2⟩ := h2
  exact ⟨_, pe_cmpS (OpRS.or (opNi hu) (op_niC hM (hr.mono hk) fun σ => passAt tk σ)) p1 p2 hm, SE.inC prNi q1 q2⟩
theorem ct_inC (hu : X.A.units + 65 < cLine) (hM : MtOk X.prog X.w X.K X.mg X.base ct k "__contains__" 2 tbl) (hr : Room k' X.A) (hk : k ≤ k') (tk : Takes X W) (h1 : CO X ct W a o1) (h2 : CO X ct W b o2) (hm : behindInMarks .In b = false := by rfl) : CT X ct W (.Compare a [.In] [b] pos) (cTst (cInC pIn false tbl o1 o2)) := by
  obtain ⟨t, p1, q1⟩ := h1
  obtain ⟨u, p2, q2⟩ := h2
  exact ⟨_, pt_cmpS (OpRS.or (opIn hu) (op_inC hM (hr.mono hk) fun σ => passAt tk σ)) p1 p2 hm, ST.test (SE.inC prIn q1 q2)⟩
theorem ct_niC (hu : X.A.units + 65 < cLine) (hM : MtOk X.prog X.w X.K X.mg X.base ct k "__contains__" 2 tbl) (hr : Room k' X.A) (hk : k ≤ k') (tk : Takes X W) (h1 : CO X ct W a o1) (h2 : CO X ct W b o2) (hm : behindInMarks .NotIn b = false := by rfl) : CT X ct W (.Compare a [.NotIn] [b] pos) (cTst (cInC pNi true tbl o1 o2)) := by
  obtain ⟨t, p1, q1⟩ := h1
  obtain ⟨u, p2, q2⟩ := h2
  exact ⟨_, pt_cmpS (OpRS.or (opNi hu) (op_niC hM (hr.mono hk) fun σ => passAt tk σ)) p1 p2 hm, ST.test (SE.inC prNi q1 q2)⟩
theorem ce_lenC (hM : MtOk X.prog X.w X.K X.mg X.base ct k "__len__" 1 tbl) (hr : Room k' X.A) (hk : k + 1 ≤ k') (tk : Takes X W) (hg : Gl X "len") (hm : X.mg "len" = none) (ha : CA X ct W [e] [o1]) (he : starEach [e] X.env = (false, eval e X.env) :: starEach [] X.env := by rfl) : CE X ct W (.Call (.Name "len" p) [e] [] pos) (cLenC tbl o1) := by
  obtain ⟨t, p1, q1⟩ := ha
  exact ⟨_, pe_callBS (CallRS.or cr_len (call_lenC hM (hr.mono hk) fun σ => passAt tk σ)) hg hm (by decide +kernel) p1 (by decide) (by decide) he rfl, SE.lenC q1⟩
theorem ce_ixC (hu : X.A.units + 65 < cLine) (hM : MtOk X.prog X.w X.K X.mg X.base ct k "__getitem__" 2 tbl) (hr : Room k' X.A) (hk : k + 1 ≤ k') (tk : Takes X W) (h1 : CO X ct W a o1) (h2 : CO X ct W b o2) (hs : PlainIx b := by exact fun _ _ => rfl) (hs2 : ∀ o i, subscripted b true o i = runValue (.builtin "lifetime.subscript" ⟨[o, i], []⟩) := by exact fun _ _ => rfl) : CE X ct W (.Subscript a b pos) (cIxC tbl o1 o2) := by
  obtain ⟨t, p1, q1⟩ := h1
  obtain ⟨u, p2, q2⟩ := h2
  exact ⟨_, pe_ixS (IxRS.or (ix_any (by omega)) (ix_C hM (hr.mono hk) fun σ => passAt tk σ)) p1 p2 hs hs2, SE.ixC q1 q2⟩
theorem ce_callO (hM : MtOk X.prog X.w X.K X.mg X.base ct k "__call__" np tbl) (hr : Room k' X.A) (hk : k ≤ k') (tk : Takes X W) (h : CO X ct W o o1) (ha : CA X ct W (e :: es) os) (hn : os.length + 1 = np)
    (ht : eval (.Call o (e :: es) [] pos) X.env = (do callWith pos (← eval o X.env) [] (backTo pos (starEach (e :: es) X.env)) (backToKw pos (keywordEach [] X.env))) := by rfl)
    (he : starEach (e :: es) X.env = (false, eval e X.env) :: starEach es X.env := by rfl) (hpl : (backTo pos (starEach es X.env)).any (·.1) = false := by rfl) : CE X ct W (.Call o (e :: es) [] pos) (cCallO tbl o1 os) := by
  obtain ⟨t, p1, q1⟩ := h
  obtain ⟨u, p2, q2⟩ := ha
  exact ⟨_, pe_callT p1 hM (hr.mono hk) (fun σ => passAt tk σ) p2 ht he hpl, SE.callO q1 q2 hn⟩
theorem ce_make {c : Nat} (h : MkOk X.prog X.w X.K X.mg X.base ct k x np c F) (hr : Room k' X.A) (hk : k + 1 ≤ k') (hg : Gl X x) (tk : Takes X W) (ha : CA X ct W (e :: es) os) (hn : os.length + 1 = np) (hdb : (x == ("__debug__" : Str)) = false := by decide)
    (he : starEach (e :: es) X.env = (false, eval e X.env) :: starEach es X.env := by rfl) (hpl : (backTo pos (starEach es X.env)).any (·.1) = false := by rfl) : CE X ct W (.Call (.Name x p) (e :: es) [] pos) (cMake c F os) := by
  obtain ⟨f, M, hm, G⟩ := h.ex
  obtain ⟨t, p1, q1⟩ := ha
  exact ⟨_, pe_makeS M G (hr.mono hk) hg hm (fun σ => passAt tk σ) p1 hdb he hpl, SE.make (Γ := Gx X ct) q1 hn⟩
theorem ce_make0 {c : Nat} (h : MkOk X.prog X.w X.K X.mg X.base ct k x 1 c F) (hr : Room k' X.A) (hk : k + 1 ≤ k') (hg : Gl X x) (tk : Takes X W) (hdb : (x == ("__debug__" : Str)) = false := by decide) : CE X ct W (.Call (.Name x p) [] [] pos) (cMake c F []) := by
  obtain ⟨f, M, hm, G⟩ := h.ex
  exact ⟨_, pe_makeS0 M G (hr.mono hk) hg hm (fun σ => passAt tk σ) hdb, SE.make (Γ := Gx X ct) .nil rfl⟩
theorem pe_stat {C q g : Addr} {mc : Value} {rest : List Value} {mt : Str} {sp : Sp} {E : L2.St → XK} {t : TA} {pl : Sem Bool} {np' : Pos} (hg : Gl X x) (hm : X.mg x = some (.ref C)) (rd : PySem.W.readsIn X.K C mc = true) (ga : PySem.W.specialIn X.K (.ref C) "__getattribute__" = some (some (.builtin "type.__getattribute__")))
    (at_ : PySem.W.findCls X.K (.ref C) mc mt = some (.get (.builtin "staticmethod.__get__") (.ref q) .none (.ref C))) (rc : PySem.W.recIn X.K q "staticmethod" = some (.ref g :: rest)) (kp : PySem.W.keepIn X.K (.ref g) = true) (G : L2.FnR X.prog X.w X.K X.mg X.base (L2.CX X.prog X.w) k g sp) (hr : Room k X.A) (hx : ∀ σ, PassesAt (L2.CX X.prog X.w) X σ (E σ)) (ha : PA X (e :: es) t) (hdb : (x == ("__debug__" : Str)) = false)
    (hst : starEach (e :: es) X.env = (false, eval e X.env) :: starEach es X.env) (hpl : (backTo pos (starEach es X.env)).any (·.1) = false)
    (ht : eval (.Call (.Attribute (.Name x np') mt apos) (e :: es) [] pos) X.env = (do
      let ov ← eval (.Name x np') X.env
      standAt apos.atName
      let (f, first) ← holding [ov] (getMethod ov mt pl)
      callWith pos f first (backTo pos (starEach (e :: es) X.env)) (backToKw pos (keywordEach [] X.env)))) :
    PE X (.Call (.Attribute (.Name x np') mt apos) (e :: es) [] pos) (tCallS sp E t) := by
  refine ⟨fun pins s σ H Q I h => ?_⟩
  refine PySem.W.methodCall_KW (pl := pl) (ld_glob I hg hm ?_ hdb) ht
  refine PySem.W.method_cls I.kIn ga ?_
  refine PySem.W.cls_bind I.kIn rd at_ ?_
  refine wpAny_call (PySem.W.sm_get (s := { s with toks := s.toks + 1 }) I.kIn rc (PySem.W.handed_on rfl ?_))
  have I1 := I.tok (s.toks + 1)
  refine PySem.W.callWith_K (h₀ := X.base) (first := []) I1.ok.mod.kin kp (thn (ha.run pos pins _ σ H _ I1 h) fun us s1 ⟨vs, H1, I2, r, q⟩ => ⟨I2.kIn, ?_⟩) hst hpl
  exact run_fnRS G hr (hx σ) I2 r q
theorem ce_stat {mt : Str} {pl : Sem Bool} {p' : Pos} (h : SOk X.prog X.w X.K X.mg X.base ct k x mt np F) (hr : Room k' X.A) (hk : k ≤ k') (hg : Gl X x) (tk : Takes X W) (ha : CA X ct W (e :: es) os) (hn : os.length = np) (hdb : (x == ("__debug__" : Str)) = false := by decide)
    (hst : starEach (e :: es) X.env = (false, eval e X.env) :: starEach es X.env := by rfl) (hpl : (backTo pos (starEach es X.env)).any (·.1) = false := by rfl)
    (ht : eval (.Call (.Attribute (.Name x p') mt apos) (e :: es) [] pos) X.env = (do
      let ov ← eval (.Name x p') X.env
      standAt apos.atName
      let (f, first) ← holding [ov] (getMethod ov mt pl)
      callWith pos f first (backTo pos (starEach (e :: es) X.env)) (backToKw pos (keywordEach [] X.env))) := by rfl) : CE X ct W (.Call (.Attribute (.Name x p') mt apos) (e :: es) [] pos) (cCall F os) := by
  obtain ⟨C, q, g, mc, rest, hm, rd, ga, at_, rc, kp, G⟩ := h.ex
  obtain ⟨t, p1, q1⟩ := ha
  exact ⟨_, pe_stat hg hm rd ga at_ rc kp G (hr.mono hk) (fun σ => passAt tk σ) p1 hdb hst hpl ht, SE.call q1 hn⟩
end
/-! methods: a def of a class -/
theorem fn_mkM {P : Program} {w : World} {K : PySem.W.Frag} {mg : Str → Option Value} {base : Heap} {ct : Cn} {x q : Str} {st : Stmt} {f : Addr} {fd : FuncData} {N ps : List Str} {k : Nat} (fx : List Nat) {m : CStm} (F : L2.Fun K x q st f fd) (S : FnScope N ps (defScope st)) (hb : Binds K fd ps [])
    (body : ∀ (cdv : Value) (A : Around) (outer : List Env) (s : Shared) (H : Hp) (E : XK), Room k (A.deeper (envOfC q (defScope st) s.heap.objs.size f cdv)) →
      Takes (cxOf (L2.CX P w) P w K mg base N q (defScope st) f cdv A outer s H E) (fun cls d _ H => E cls d H) →
      PassesOwn (model P w) (cxOf (L2.CX P w) P w K mg base N q (defScope st) f cdv A outer s H E).A (cxOf (L2.CX P w) P w K mg base N q (defScope st) f cdv A outer s H E).env (cxOf (L2.CX P w) P w K mg base N q (defScope st) f cdv A outer s H E).xe →
      (cxOf (L2.CX P w) P w K mg base N q (defScope st) f cdv A outer s H E).A.units + 65 < cLine →
      CSs (cxOf (L2.CX P w) P w K mg base N q (defScope st) f cdv A outer s H E) ct fx (fun cls d _ H => E cls d H) (defBody st) m) : L2.FnR P w K mg base (L2.CX P w) (k + 1) f (spD ⟨K, ct⟩ (bodyF fx N.length m) ps.length) := by
  have G : FnOk P w K mg base (L2.CX P w) (k + 1) f fd ps (spD ⟨K, ct⟩ (bodyF fx N.length m) ps.length) := ?_
  · exact (G.raw hb .nil).imp fun vs H Q E h => by rw [List.append_nil]; exact h
  refine F.okX S (fun vs H Q E h => h.1) fun cdv A outer s H vs Q E hr h => ?_
  obtain ⟨t, p, q⟩ := body cdv A outer s H E hr (takes_of rfl rfl rfl rfl) (passes_of rfl) (by have := hr.un; show (A.deeper _).units + 65 < cLine; omega)
  exact ⟨t, p, def_ok q h⟩
end VS

namespace VS
open PySem L2 PySem.Spec PyProof.Rows
/-! ### isinstance of own classes -/
def pIsC (tb : List ((Nat × Nat) × Bool)) (tt : List ((Nat × String) × Bool)) : List D → Option Slot
  | [.obj c _, .cls k] => (tb.lookup (c, k)).map fun b => (.bl b, false)
  | [.obj c _, .ty n] => (tt.lookup (c, n)).map fun b => (.bl b, false)
  | ds => pIsi ds
/-- what is known of the class c for isinstance -/
structure IsOk (K : PySem.W.Frag) (ct : Cn) (c : Nat) : Prop where
  cls : Cls K (ct.ct c)
  cn : PySem.W.findIn K (.ref (ct.ct c)) "__class__" = some (some (.builtin "object.__class__"))
  gd : PySem.W.specialIn K (.builtin "object.__class__") "__get__" = some (some (.builtin "getset_descriptor.__get__"))
  td : PySem.W.takesIn K (.builtin "object.__class__") = some true
  ob : PySem.W.mroIn K (ct.ct c) (.type "object") = some true
inductive IsT1 (K : PySem.W.Frag) (ct : Cn) : List ((Nat × Nat) × Bool) → Prop
  | nil : IsT1 K ct []
  | cons {c c2 : Nat} {b : Bool} {l : List ((Nat × Nat) × Bool)} (h1 : IsOk K ct c) (h : PySem.W.kitOne K (.ref (ct.ct c)) (.ref (ct.ct c2)) = some b) (t : IsT1 K ct l) : IsT1 K ct (((c, c2), b) :: l)
inductive IsT2 (K : PySem.W.Frag) (ct : Cn) : List ((Nat × String) × Bool) → Prop
  | nil : IsT2 K ct []
  | cons {c : Nat} {n : String} {b : Bool} {l : List ((Nat × String) × Bool)} (h1 : IsOk K ct c) (h : PySem.W.kitOne K (.ref (ct.ct c)) (.type n) = some b) (t : IsT2 K ct l) : IsT2 K ct (((c, n), b) :: l)
theorem IsT1.get {K : PySem.W.Frag} {ct : Cn} {l : List ((Nat × Nat) × Bool)} (h : IsT1 K ct l) : ∀ c c2 b, l.lookup (c, c2) = some b → IsOk K ct c ∧ PySem.W.kitOne K (.ref (ct.ct c)) (.ref (ct.ct c2)) = some b := by
  induction h with
  | nil => intro c c2 b e; cases e
  | @cons c c2 b l h1 h _ ih =>
    intro d d2 b' e
    rw [List.lookup_cons] at e
    cases q : ((d, d2) == (c, c2)) with
    | true =>
      rw [q] at e
      cases e
      have := beq_iff_eq.mp q
      cases this
      exact ⟨h1, h⟩
    | false => rw [q] at e; exact ih d d2 b' e
theorem IsT2.get {K : PySem.W.Frag} {ct : Cn} {l : List ((Nat × String) × Bool)} (h : IsT2 K ct l) : ∀ c n b, l.lookup (c, n) = some b → IsOk K ct c ∧ PySem.W.kitOne K (.ref (ct.ct c)) (.type n) = some b := by
  induction h with
  | nil => intro c c2 b e; cases e
  | @cons c c2 b l h1 h _ ih =>
    intro d d2 b' e
    rw [List.lookup_cons] at e
    cases q : ((d, d2) == (c, c2)) with
    | true =>
      rw [q] at e
      cases e
      have := beq_iff_eq.mp q
      cases this
      exact ⟨h1, h⟩
    | false => rw [q] at e; exact ih d d2 b' e
theorem Bor.cls_inv {Γ : Gm} {O : Addr → Prop} {H : Hp} {v : V} {c : Nat} (h : Bor Γ O H v (.cls c)) : v = .ref (Γ.ct c) := by cases h with | rep h => cases h; rfl | own h => cases h
theorem prIsC {Γ : Gm} {tb : List ((Nat × Nat) × Bool)} {tt : List ((Nat × String) × Bool)} (h1 : IsT1 Γ.K Γ.cn tb) (h2 : IsT2 Γ.K Γ.cn tt) : PrimR Γ (rIsi Γ.K) (pIsC tb tt) := by
  intro O H vs ds s Q m b e k
  unfold pIsC at e
  split at e
  · rename_i c fs c2
    obtain ⟨v, w, rfl, b1, b2⟩ := bors2 b
    cases q : tb.lookup (c, c2) with
    | none => rw [q] at e; cases e
    | some r =>
      rw [q] at e
      cases e
      obtain ⟨a, dx, gs, rfl, ha, _, _⟩ := b1.obj_inv
      obtain ⟨i1, i2⟩ := h1.get c c2 r q
      rw [b2.cls_inv]
      exact ⟨_, _, _, _, r, rfl, .own _, .base (.ins ha i1.cls i1.cn i1.gd i1.td i1.ob), i2, k _ H (Ext.refl H) (.bl _)⟩
  · rename_i c fs n
    obtain ⟨v, w, rfl, b1, b2⟩ := bors2 b
    cases q : tt.lookup (c, n) with
    | none => rw [q] at e; cases e
    | some r =>
      rw [q] at e
      cases e
      obtain ⟨a, dx, gs, rfl, ha, _, _⟩ := b1.obj_inv
      obtain ⟨i1, i2⟩ := h2.get c n r q
      rw [b2.ty_inv]
      exact ⟨_, _, _, _, r, rfl, .ty n, .base (.ins ha i1.cls i1.cn i1.gd i1.td i1.ob), i2, k _ H (Ext.refl H) (.bl _)⟩
  · exact prIsi O H vs ds s Q m b e k
/-! ### for simp -/
@[simp] theorem e_objOf_o (c : Nat) (fs : List (Str × D)) (r : List D) : objOf (some (.obj c fs :: r)) = some (c, fs) := rfl
@[simp] theorem e_objOf_n : objOf none = none := rfl
@[simp] theorem e_objOf_nil : objOf (some []) = none := rfl
@[simp] theorem e_objOf_non (r : List D) : objOf (some (.non :: r)) = none := rfl
@[simp] theorem e_objOf_bl (b : Bool) (r : List D) : objOf (some (.bl b :: r)) = none := rfl
@[simp] theorem e_objOf_int (b : Int) (r : List D) : objOf (some (.int b :: r)) = none := rfl
@[simp] theorem e_objOf_str (b : Str) (r : List D) : objOf (some (.str b :: r)) = none := rfl
@[simp] theorem e_objOf_tup (b : List D) (r : List D) : objOf (some (.tup b :: r)) = none := rfl
@[simp] theorem e_objOf_ktup (b : List D) (r : List D) : objOf (some (.ktup b :: r)) = none := rfl
@[simp] theorem e_objOf_lst (b : List D) (r : List D) : objOf (some (.lst b :: r)) = none := rfl
@[simp] theorem e_objOf_scr (b : List Int) (r : List D) : objOf (some (.scr b :: r)) = none := rfl
@[simp] theorem e_objOf_dK (b : List (Key × D)) (r : List D) : objOf (some (.dK b :: r)) = none := rfl
@[simp] theorem e_objOf_dT (b : List (List Key × D)) (r : List D) : objOf (some (.dT b :: r)) = none := rfl
@[simp] theorem e_objOf2 (d : D) (r : List D) : objOf2 (some (d :: r)) = objOf (some r) := rfl
@[simp] theorem e_objOf2_n : objOf2 none = none := rfl
@[simp] theorem e_callR (F : CFun) (os : List Opd) (xs : List (Option D)) (ρ1 : Sl) : callR F os xs ρ1 = match argS os xs ρ1, noDup os ρ1 with
  | some args, true => match F args with
    | .ok s as => .ok s (backF os as 0 ρ1)
    | .exc c fs as => .exc c fs (backF os as 0 ρ1)
    | .stuck => .stuck
  | _, _ => .stuck := rfl
@[simp] theorem e_cMeth (m : Str) (tbl : MTbl) (o : Opd) (os : List Opd) (ρ : Sl) : cMeth m tbl o os ρ = (evO [o] ρ).bind fun xs ρ1 => match objOf (late [o] xs ρ1) with
  | some (c, fs) => if (fs.lookup m).isNone = true then (match tbl.lookup c with
    | some F => (evO os ρ1).bind fun ys ρ2 => callR F (o :: os) (xs ++ ys) ρ2
    | none => .stuck) else .stuck
  | none => .stuck := rfl
@[simp] theorem e_dunR (tbl : MTbl) (os : List Opd) (xs : List (Option D)) (ρ1 : Sl) : dunR tbl os xs ρ1 = match objOf (late os xs ρ1) with
  | some (c, _) => (match tbl.lookup c with
    | some F => callR F os xs ρ1
    | none => .stuck)
  | none => .stuck := rfl
@[simp] theorem e_boolOut_b (neg : Bool) (b c : Bool) (ρ : Sl) : boolOut neg (.bl b, c) ρ = .ok (.bl (b != neg), false) ρ := rfl
@[simp] theorem e_lenOut_i (n : Int) (c : Bool) (ρ : Sl) : lenOut (.int n, c) ρ = if 0 ≤ n ∧ n.natAbs < 9223372036854775808 then .ok (.int n, false) ρ else .stuck := rfl
@[simp] theorem e_cOpC (f : List D → Option Slot) (tbl : MTbl) (o1 o2 : Opd) (ρ : Sl) : cOpC f tbl o1 o2 ρ = (evO [o1, o2] ρ).bind fun xs ρ1 => match objOf (late [o1, o2] xs ρ1) with
  | some (c, _) => (match objOf2 (late [o1, o2] xs ρ1) with
    | some (c2, _) => if c2 = c then dunR tbl [o1, o2] xs ρ1 else .stuck
    | none => .stuck)
  | none => fin f [o1, o2] xs ρ1 := rfl
@[simp] theorem e_cInC (f : List D → Option Slot) (neg : Bool) (tbl : MTbl) (o1 o2 : Opd) (ρ : Sl) : cInC f neg tbl o1 o2 ρ = (evO [o1, o2] ρ).bind fun xs ρ1 => match objOf2 (late [o1, o2] xs ρ1) with
  | some _ => (dunR tbl [o2, o1] xs.reverse ρ1).bind (boolOut neg)
  | none => fin f [o1, o2] xs ρ1 := rfl
@[simp] theorem e_cLenC (tbl : MTbl) (o : Opd) (ρ : Sl) : cLenC tbl o ρ = (evO [o] ρ).bind fun xs ρ1 => match objOf (late [o] xs ρ1) with
  | some _ => (dunR tbl [o] xs ρ1).bind lenOut
  | none => fin pLen [o] xs ρ1 := rfl
@[simp] theorem e_cIxC (tbl : MTbl) (o1 o2 : Opd) (ρ : Sl) : cIxC tbl o1 o2 ρ = (evO [o1, o2] ρ).bind fun xs ρ1 => match objOf (late [o1, o2] xs ρ1) with
  | some _ => dunR tbl [o1, o2] xs ρ1
  | none => fin pIdx [o1, o2] xs ρ1 := rfl
@[simp] theorem e_cCallO (tbl : MTbl) (o : Opd) (os : List Opd) (ρ : Sl) : cCallO tbl o os ρ = (evO [o] ρ).bind fun xs ρ1 => match objOf (late [o] xs ρ1) with
  | some _ => (evO os ρ1).bind fun ys ρ2 => dunR tbl (o :: os) (xs ++ ys) ρ2
  | none => .stuck := rfl
@[simp] theorem e_cMake (c : Nat) (F : CFun) (os : List Opd) (ρ : Sl) : cMake c F os ρ = (evO os ρ).bind fun xs ρ1 => match argS os xs ρ1, noDup os ρ1 with
  | some args, true => match F ((.obj c [], true) :: args) with
    | .ok (.non, false) (some s :: as) => .ok s (backF os as 0 ρ1)
    | .exc c' fs (_ :: as) => .exc c' fs (backF os as 0 ρ1)
    | _ => .stuck
  | _, _ => .stuck := rfl
@[simp] theorem e_Fld (f : Str) (cs : List Nat) (c : Nat) (fs : List (Str × D)) : pFld f cs [.obj c fs] = if c ∈ cs then (fs.lookup f).map fun d => (d, false) else none := rfl
@[simp] theorem e_cFst (i : Nat) (f : Str) (cs : List Nat) (m : CExp) (ρ : Sl) : cFst i f cs m ρ = (m ρ).bind fun s ρ1 => match ρ1[i]? with
  | some (some (.obj c fs, true)) => if c ∈ cs ∧ fs.length < 1000 then .ok .nx (ρ1.set i (some (.obj c (putD f s.1 fs), true))) else .stuck
  | _ => .stuck := rfl
@[simp] theorem e_putD_nil (f : Str) (v : D) : putD f v [] = [(f, v)] := rfl
@[simp] theorem e_putD_cons (f : Str) (v : D) (g : Str) (x : D) (r : List (Str × D)) : putD f v ((g, x) :: r) = if g = f then (g, v) :: r else (g, x) :: putD f v r := rfl
@[simp] theorem e_isC_c (tb : List ((Nat × Nat) × Bool)) (tt : List ((Nat × String) × Bool)) (c k : Nat) (fs : List (Str × D)) : pIsC tb tt [.obj c fs, .cls k] = (tb.lookup (c, k)).map fun b => (.bl b, false) := rfl
@[simp] theorem e_isC_t (tb : List ((Nat × Nat) × Bool)) (tt : List ((Nat × String) × Bool)) (c : Nat) (k : String) (fs : List (Str × D)) : pIsC tb tt [.obj c fs, .ty k] = (tt.lookup (c, k)).map fun b => (.bl b, false) := rfl
end VS

namespace VS
open PySem L2 PySem.Spec PyProof.Rows
/-! ### a < b < c -/
def cChain (f g : List D → Option Slot) (o1 o2 o3 : Opd) : CExp := fun ρ => (evO [o1, o2] ρ).bind fun xs ρ1 => (fin f [o1, o2] xs ρ1).bind fun s ρ2 => match s.1 with
  | .bl true => (evO [o3] ρ2).bind fun ys ρ3 => fin g [o2, o3] (xs.tail ++ ys) ρ3
  | .bl false => .ok (.bl false, false) ρ2
  | _ => .stuck
section
variable {Γ : Gm} {W : WX} {Z : Addr → Prop} {σ : L2.St} {ρ ρ1 : Sl} {H H1 : Hp}
theorem SE.chain {r r' : R2} {f g : List D → Option Slot} {ta tb tc : TE} {o1 o2 o3 : Opd} (hr : PrimR Γ (r2l r) f) (hr' : PrimR Γ (r2l r') g) (h1 : SO Γ W ta o1) (h2 : SO Γ W tb o2) (h3 : SO Γ W tc o3) : SE Γ W (tChain r r' ta tb tc) (cChain f g o1 o2 o3) := by
  intro Z σ ρ H Q F k
  have run := (SA.cons h1 (.cons h2 .nil)).run F (Q := fun vs H2 => r2l (fun x y H2 Q' => r x y H2 fun z H3 => ∃ k, z = .bl k ∧ (if k = true then tc σ H3 fun w' H4 => r' y w' H4 Q else Q (.bl false) H3)) vs H2 (fun _ _ => True))
  refine (fun z => ?_) (run ?_)
  · exact z
  · unfold cChain at k
    revert k
    cases evO [o1, o2] ρ with
    | exc c fs ρ' => exact fun k => k
    | stuck => exact fun k => k
    | ok xs ρ1 =>
      intro k vs H1 f1 s1 o
      simp only [Res.bind_ok] at k
      obtain ⟨x1, x2, v1, v2, rfl, rfl, p1, p2⟩ := o.two
      show r v1 v2 H1 _
      refine prim_end (r := r2l r) (W := W) hr f1 o ?_
      have hfin : ∀ s ρ2, fin f [o1, o2] [x1, x2] ρ1 = .ok s ρ2 → ρ2 = ρ1 := by
        intro s ρ2 e
        unfold fin at e
        split at e
        · split at e
          · cases e; rfl
          · cases e
        · cases e
      cases q : fin f [o1, o2] [x1, x2] ρ1 with
      | stuck => rw [q] at k; exact k.elim
      | exc c fs ρ' =>
        unfold fin at q
        split at q
        · split at q
          · cases q
          · cases q
        · cases q
      | ok s ρ2 =>
        have e2 := hfin s ρ2 q
        subst e2
        rw [q] at k
        simp only [Res.bind_ok] at k
        obtain ⟨d, b⟩ := s
        cases d with
        | bl kk =>
          have body : ∀ H3, FR Γ Z σ ρ2 H3 → Step σ ρ2 H1 σ ρ2 H3 → (if kk = true then tc σ H3 fun w' H4 => r' v2 w' H4 Q else Q (.bl false) H3) := by
            intro H3 f3 s3
            cases kk with
            | false =>
              rw [if_neg Bool.false_ne_true]
              exact k (.bl false) H3 f3 (s1.trans s3) (.bl false)
            | true =>
              rw [if_pos rfl]
              simp only at k
              have run3 := (SA.cons h3 .nil).run f3 (Q := fun ws H4 => r2l r' (v2 :: ws) H4 Q)
              refine (fun z => z) (run3 ?_)
              revert k
              cases evO [o3] ρ2 with
              | exc c fs ρ' => exact fun k => PostX.on (s1.trans s3) k
              | stuck => exact fun k => k
              | ok ys ρ3 =>
                intro k ws H4 f4 s4 o4
                simp only [Res.bind_ok] at k
                exact prim_end hr' f4 (((p2.step s3 f1).step s4 f3).app o4) (EndV.on ((s1.trans s3).trans s4) k)
          cases b with
          | false =>
            intro v H3 f3 s3 rv
            cases rv
            exact ⟨kk, rfl, body H3 f3 s3⟩
          | true =>
            intro a H3 f3 s3 n q rv
            cases rv
        | _ => exact k.elim
end
section
variable {X : Cx} {ct : Cn} {W : WX} {a b c : Expr} {pos : Pos} {o1 o2 o3 : Opd}
theorem ce_chain {op op' : CmpOp} {r r' : R2} {f g : List D → Option Slot} (ho : OpR X (compareOp op) r) (hr : PrimR (Gx X ct) (r2l r) f) (ho' : OpR X (compareOp op') r') (hr' : PrimR (Gx X ct) (r2l r') g) (h1 : CO X ct W a o1) (h2 : CO X ct W b o2) (h3 : CO X ct W c o3) (hm : lastMarks [op, op'] [b, c] = false := by with_unfolding_all rfl) : CE X ct W (.Compare a [op, op'] [b, c] pos) (cChain f g o1 o2 o3) := by
  obtain ⟨t, p1, q1⟩ := h1
  obtain ⟨u, p2, q2⟩ := h2
  obtain ⟨v, p3, q3⟩ := h3
  exact ⟨_, pe_chain ho ho' p1 p2 p3 hm, SE.chain hr hr' q1 q2 q3⟩
end
@[simp] theorem e_cChain (f g : List D → Option Slot) (o1 o2 o3 : Opd) (ρ : Sl) : cChain f g o1 o2 o3 ρ = (evO [o1, o2] ρ).bind fun xs ρ1 => (fin f [o1, o2] xs ρ1).bind fun s ρ2 => match s.1 with
  | .bl true => (evO [o3] ρ2).bind fun ys ρ3 => fin g [o2, o3] (xs.tail ++ ys) ρ3
  | .bl false => .ok (.bl false, false) ρ2
  | _ => .stuck := rfl
end VS

namespace VS
open PySem L2
/-! ### plain lemmas for laws, further -/
abbrev tupI (xs : List Int) : D := .tup (xs.map D.int)
theorem dOk_intsT (n : Nat) (xs : List Int) : dOk (n + 1) (.tup (xs.map D.int)) = true := by
  simp only [dOk, List.all_map, List.all_eq_true]
  intro s _
  cases n <;> rfl
@[simp] theorem e_in_it (s : Int) (xs : List Int) : pIn [.int s, .tup (xs.map D.int)] = some (.bl (decide (s ∈ xs)), false) := by
  rw [e_in_t _ _ (e_dOk_int _ _) (dOk_intsT _ _), any_int]
@[simp] theorem e_ni_it (s : Int) (xs : List Int) : pNi [.int s, .tup (xs.map D.int)] = some (.bl (!decide (s ∈ xs)), false) := by
  rw [e_ni_t _ _ (e_dOk_int _ _) (dOk_intsT _ _), any_int]
theorem cSeq_nx {a b : CStm} {ρ ρ1 : Sl} (h : a ρ = .ok .nx ρ1) : cSeq a b ρ = b ρ1 := by rw [e_cSeq, h]
theorem cSeq_rt {a b : CStm} {ρ ρ1 : Sl} {s : Slot} (h : a ρ = .ok (.rt s) ρ1) : cSeq a b ρ = .ok (.rt s) ρ1 := by rw [e_cSeq, h]
theorem dOk_mono : ∀ {n : Nat} {d : D}, dOk n d = true → dOk (n + 1) d = true
  | _, .non, _ => rfl
  | _, .bl _, _ => rfl
  | _, .int _, _ => rfl
  | _, .str _, _ => rfl
  | n + 1, .tup xs, h => by
    simp only [dOk, List.all_eq_true] at h ⊢
    exact fun d hd => dOk_mono (h d hd)
  | n + 1, .ktup xs, h => by
    simp only [dOk, List.all_eq_true] at h ⊢
    exact fun d hd => dOk_mono (h d hd)
  | n + 1, .lst xs, h => by
    simp only [dOk, List.all_eq_true] at h ⊢
    exact fun d hd => dOk_mono (h d hd)
  | n + 1, .scr _, _ => rfl
  | 0, .tup _, h => by simp [dOk] at h
  | 0, .ktup _, h => by simp [dOk] at h
  | 0, .lst _, h => by simp [dOk] at h
  | 0, .scr _, h => by simp [dOk] at h
  | 0, .dK _, h => by simp [dOk] at h
  | _ + 1, .dK _, h => by simp [dOk] at h
  | 0, .dT _, h => by simp [dOk] at h
  | _ + 1, .dT _, h => by simp [dOk] at h
  | 0, .obj _ _, h => by simp [dOk] at h
  | _ + 1, .obj _ _, h => by simp [dOk] at h
  | 0, .exc _ _, h => by simp [dOk] at h
  | _ + 1, .exc _ _, h => by simp [dOk] at h
  | 0, .ty _, h => by simp [dOk] at h
  | _ + 1, .ty _, h => by simp [dOk] at h
  | 0, .cls _, h => by simp [dOk] at h
  | _ + 1, .cls _, h => by simp [dOk] at h
theorem dOk_up {n : Nat} (k : Nat) {d : D} (h : dOk n d = true) : dOk (n + k) d = true := by
  induction k with
  | zero => exact h
  | succ k ih => exact dOk_mono ih
theorem dOk_tupL {n : Nat} {xs : List D} (h : ∀ d ∈ xs, dOk n d = true) : dOk (n + 1) (.tup xs) = true := by
  simp only [dOk, List.all_eq_true]; exact h
theorem dOk_lstL {n : Nat} {xs : List D} (h : ∀ d ∈ xs, dOk n d = true) : dOk (n + 1) (.lst xs) = true := by
  simp only [dOk, List.all_eq_true]; exact h
/-- numbers that are told one by one -/
theorem pick_fun {α : Type} {P : Nat → α → Prop} {n : Nat} (d : α) (h : ∀ k, k < n → ∃ v, P k v) : ∃ f : Nat → α, ∀ k, k < n → P k (f k) := by
  classical
  refine ⟨fun k => if hk : k < n then Classical.choose (h k hk) else d, fun k hk => ?_⟩
  simp only [dif_pos hk]
  exact Classical.choose_spec (h k hk)
theorem mapI_filter (p : Int → Bool) (q : D → Bool) (hq : ∀ i, q (.int i) = p i) (xs : List Int) : (xs.map D.int).filter q = (xs.filter p).map D.int := by
  induction xs with
  | nil => rfl
  | cons x r ih => simp only [List.map_cons, List.filter_cons, hq, ih]; split <;> simp
theorem ixN_nat {n : Nat} {i : Nat} (h : i < n) : ixN n (i : Int) = some i := by
  unfold ixN
  rw [if_pos (by omega), if_pos (by omega)]
  rfl
theorem ixN_pos {n : Nat} {i : Int} (h0 : 0 ≤ i) (h : i < n) : ixN n i = some i.toNat := by
  unfold ixN
  rw [if_pos h0, if_pos h]
theorem rngD_cons (lo : Int) (n : Nat) : rngD lo (n + 1) = .int lo :: rngD (lo + 1) n := by
  unfold rngD
  rw [List.range_succ_eq_map, List.map_cons, List.map_map]
  congr 1
  · simp
  · apply List.map_congr_left
    intro i _
    simp only [Function.comp]
    congr 1
    push_cast
    omega
theorem rngD_ints (lo : Int) (n : Nat) : rngD lo n = ((List.range n).map fun (i : Nat) => lo + (i : Int)).map D.int := by
  unfold rngD
  rw [List.map_map]
  rfl
@[simp] theorem ofS_iff (a b : String) : Str.ofString a = Str.ofString b ↔ a = b := by
  constructor
  · intro h
    rw [Str.ofString_eq_toList, Str.ofString_eq_toList] at h
    have h1 : (a.toList.map Char.toNat) = (b.toList.map Char.toNat) := by
      have := congrArg (fun s : Str => s.cps.toList) h
      simpa using this
    have h2 : a.toList = b.toList := List.map_inj_right (fun x y e => Char.toNat_inj.mp e) |>.mp h1
    exact String.toList_inj.mp h2
  · rintro rfl; rfl
@[simp] theorem e_look_S (a b : String) (d : D) (r : List (Str × D)) : List.lookup (Str.ofString a) ((Str.ofString b, d) :: r) = if a = b then some d else List.lookup (Str.ofString a) r := by
  rw [List.lookup_cons]
  by_cases h : a = b
  · subst h; simp
  · have : (Str.ofString a == Str.ofString b) = false := by
      rw [beq_eq_false_iff_ne]; exact fun e => h ((ofS_iff a b).mp e)
    rw [this, if_neg h]
@[simp] theorem e_mulB_mod (a j : Int) (n : Nat) (h0 : 0 < n) (h : n < 18446744073709551616) : cMulB (a % (no_index (@OfNat.ofNat Int n instOfNat))) j = true := by
  unfold cMulB
  rw [Bool.or_eq_true]
  refine .inl (decide_eq_true ?_)
  have e : (@OfNat.ofNat Int n instOfNat) = (n : Int) := rfl
  rw [e]
  have h1 := Int.emod_nonneg a (b := (n : Int)) (by omega)
  have h2 := Int.emod_lt_of_pos a (b := (n : Int)) (by omega)
  omega
@[simp] theorem e_mulB_ite (a : Int) (c : Prop) [Decidable c] : cMulB a (if c then 1 else 0) = true := by
  unfold cMulB
  rw [Bool.or_eq_true]
  refine .inr (decide_eq_true ?_)
  split <;> decide
end VS

namespace VS
open PySem L2 PySem.Spec PyProof.Rows
/-! ### loops over a list that the frame owns, and goes on to own -/
def loopO (i : Nat) (mk : Nat → D → D) (tg : D → Sl → Option Sl) (body : CStm) : Nat → Nat → CStm
  | 0, k, ρ => match ρ[i]? with
    | some (some (.lst xs, true)) => if xs.length = k then .ok .nx ρ else .stuck
    | _ => .stuck
  | n + 1, k, ρ => match ρ[i]? with
    | some (some (.lst xs, true)) => (match xs[k]? with
      | some d => (match tg (mk k d) ρ with
        | some ρ1 => (match body ρ1 with
          | .ok .nx ρ2 => loopO i mk tg body n (k + 1) ρ2
          | .ok .ct ρ2 => loopO i mk tg body n (k + 1) ρ2
          | .ok .bk ρ2 => .ok .nx ρ2
          | .ok (.rt s) ρ2 => .ok (.rt s) ρ2
          | .exc c fs ρ2 => .exc c fs ρ2
          | .stuck => .stuck)
        | none => .stuck)
      | none => .stuck)
    | _ => .stuck
def ownL : Option (Option Slot) → Option (List D)
  | some (some (.lst xs, true)) => some xs
  | _ => none
theorem ownL_some {o : Option (Option Slot)} {xs : List D} (h : ownL o = some xs) : o = some (some (.lst xs, true)) := by
  unfold ownL at h
  split at h
  · cases h; rfl
  · cases h
def cForO (i : Nat) (mk : Nat → D → D) (it : CIt) (tg : D → Sl → Option Sl) (body : CStm) : CStm := fun ρ => match ownL ρ[i]? with
  | some xs => loopO i mk tg body xs.length 0 ρ
  | none => cFor it tg body ρ
structure WkO (Γ : Gm) (J : It) (a : Addr) (mk : Nat → D → D) : Prop where
  item : ∀ O H (k : Nat) vs v d, (∀ a, O a → Mut (H a)) → SqL Γ.K H a vs → vs[k]? = some v → Rep Γ O H v d → J.go k H ∧ ∀ x H', J.yld k H x H' → Ext H H' ∧ Rep Γ O H' x (mk k d)
  done : ∀ H vs, SqL Γ.K H a vs → J.stop vs.length H
section
variable {Γ : Gm} {W : WX} {Z : Addr → Prop} {σ σ1 : L2.St} {ρ ρ1 ρ' : Sl} {H H1 : Hp} {O : Addr → Prop} {fx : List Nat}
theorem wko_list {a : Addr} : WkO Γ (Itl Γ.K a) a (fun _ d => d) where
  item := fun O H k vs v d m h1 e1 r => by
    refine ⟨⟨vs, v, h1, e1⟩, fun x H' y => ?_⟩
    obtain ⟨e, y⟩ := y
    subst e
    have := y vs h1
    rw [e1] at this
    cases this
    exact ⟨Ext.refl _, r⟩
  done := fun H vs h => ⟨vs, h, Nat.le_refl _⟩
theorem wko_enum {a : Addr} : WkO Γ (Ite Γ.K a) a (fun k d => .tup [.int ((0 + k : Nat) : Int), d]) where
  item := fun O H k vs v d m h1 e1 r => by
    refine ⟨⟨vs, v, h1, e1⟩, fun x H' hy => ?_⟩
    obtain ⟨T, x', rfl, hT, rfl, hx⟩ := hy
    have := hx vs h1
    rw [e1] at this
    cases this
    exact pair_rep m hT r
  done := fun H vs h => ⟨vs, h, Nat.le_refl _⟩
theorem own_at {i : Nat} {a : Addr} {xs : List D} (F : FR Γ Z σ ρ H) (ha : σ[i]? = some (some (.ref a))) (h : ρ[i]? = some (some (.lst xs, true))) : ∃ vs, H a = some (.lst vs) ∧ Reps Γ (OA Z σ ρ) H vs xs := by
  obtain ⟨v, e, o⟩ := F.ow i _ h
  rw [ha] at e
  cases e
  cases o with
  | lst h1 _ r => exact ⟨_, h1, r⟩
theorem forO_core {i : Nat} {a : Addr} {J : It} {mk : Nat → D → D} {g : TG} {tb : TS} {tg : D → Sl → Option Sl} {body : CStm} {E : L2.Ends} (hi : i ∈ fx) (wk : WkO Γ J a mk) (hg : SG Γ fx g tg) (hb : SS Γ fx W tb body) (n : Nat) (f : FR Γ Z σ ρ H) (ha : σ[i]? = some (some (.ref a))) (k : EndS Γ Z σ ρ H fx (loopO i mk tg body n 0 ρ) W E) :
    ∃ W : Nat → Nat → L2.St → Hp → Prop, (∃ m, W 0 m σ H) ∧ ∀ i m σ H, W i m σ H →
      (J.stop i H ∧ E.nx σ H) ∨ (J.go i H ∧ ∃ N : L2.St → Hp → Prop, (∀ σ' H', N σ' H' → ∃ m', m' < m ∧ W (i + 1) m' σ' H') ∧ ∀ x H', J.yld i H x H' → g x σ H' fun σ2 H2 => tb { E with nx := N, ct := N, bk := E.nx } σ2 H2) := by
  refine ⟨fun j m σ' H' => ∃ ρi, FR Γ Z σ' ρi H' ∧ σ'[i]? = some (some (.ref a)) ∧ EndS Γ Z σ' ρi H' fx (loopO i mk tg body m j ρi) W E, ⟨n, ρ, f, ha, k⟩, ?_⟩
  rintro j m σ' H' ⟨ρi, fi, hai, ki⟩
  cases m with
  | zero =>
    left
    unfold loopO at ki
    split at ki
    · rename_i xs hx
      split at ki
      · rename_i hl
        obtain ⟨vs, h1, r⟩ := own_at fi hai hx
        refine ⟨?_, ki σ' H' fi Step.refl Fx.refl⟩
        rw [← hl, ← r.length]
        exact wk.done H' vs (SqL.of h1)
      · exact ki.elim
    · exact ki.elim
  | succ m =>
    right
    unfold loopO at ki
    split at ki
    · rename_i xs hx
      obtain ⟨vs, h1, r⟩ := own_at fi hai hx
      cases e0 : xs[j]? with
      | none => rw [e0] at ki; exact ki.elim
      | some d =>
        rw [e0] at ki
        obtain ⟨v, e1, rv⟩ := r.get e0
        obtain ⟨go, yl⟩ := wk.item _ H' j vs v d fi.mu (SqL.of h1) e1 rv
        refine ⟨go, fun σ2 H2 => ∃ ρ2, FR Γ Z σ2 ρ2 H2 ∧ σ2[i]? = some (some (.ref a)) ∧ EndS Γ Z σ2 ρ2 H2 fx (loopO i mk tg body m (j + 1) ρ2) W E, fun σ2 H2 h2 => ⟨m, Nat.lt_succ_self m, h2⟩, fun x H2 hy => ?_⟩
        obtain ⟨ex, rx⟩ := yl x H2 hy
        have f2 := fi.ext ex
        have s2 : Step σ' ρi H' σ' ρi H2 := ex.step
        simp only at ki
        cases q : tg (mk j d) ρi with
        | none => rw [q] at ki; exact ki.elim
        | some ρ3 =>
          rw [q] at ki
          simp only at ki
          refine hg Z σ' ρi H2 x _ ρ3 _ f2 rx q fun σ3 f3 s3 x3 => ?_
          refine hb Z σ3 ρ3 H2 _ f3 ?_
          have s23 := s2.trans s3
          revert ki
          cases body ρ3 with
          | ok o ρ4 =>
            cases o with
            | nx => exact fun ki σ4 H4 f4 s4 x4 => ⟨ρ4, f4, ((x3.trans x4) i hi).trans hai, EndS.on (s23.trans s4) (x3.trans x4) ki⟩
            | ct => exact fun ki σ4 H4 f4 s4 x4 => ⟨ρ4, f4, ((x3.trans x4) i hi).trans hai, EndS.on (s23.trans s4) (x3.trans x4) ki⟩
            | bk => exact fun ki σ4 H4 f4 s4 x4 => ki σ4 H4 f4 (s23.trans s4) (x3.trans x4)
            | rt s =>
              obtain ⟨d, b⟩ := s
              cases b with
              | false => exact fun ki v σ4 H4 f4 s4 x4 r => ki v σ4 H4 f4 (s23.trans s4) (x3.trans x4) r
              | true => exact fun ki a σ4 H4 f4 s4 x4 n q r => ki a σ4 H4 f4 (s23.trans s4) (x3.trans x4) n (s23.root q) r
          | exc c fs ρ4 => exact fun ki d σ4 H4 f4 s4 x4 r => ki d σ4 H4 f4 (s23.trans s4) (x3.trans x4) r
          | stuck => exact fun ki => ki
    · exact ki.elim
theorem own_ref {i : Nat} {xs : List D} (F : FR Γ Z σ ρ H) (h : ρ[i]? = some (some (.lst xs, true))) : ∃ a vs, σ[i]? = some (some (.ref a)) ∧ H a = some (.lst vs) := by
  obtain ⟨v, e, o⟩ := F.ow i _ h
  cases o with
  | lst h1 _ r => exact ⟨_, _, e, h1⟩
theorem SS.forOs {i : Nat} {g : TG} {tb : TS} {tg : D → Sl → Option Sl} {body : CStm} (hi : i ∈ fx) (hg : SG Γ fx g tg) (hb : SS Γ fx W tb body) : SS Γ fx W (tFor (iSeq Γ.K (tVar i)) g tb) (cForO i (fun _ d => d) (cItS (cVar i)) tg body) := by
  intro Z σ ρ H E f k
  unfold cForO at k
  cases q : ownL ρ[i]? with
  | none => rw [q] at k; exact SS.for (SI.seq SE.var) hg hb Z σ ρ H E f k
  | some xs =>
    rw [q] at k
    obtain ⟨a, vs, e, h1⟩ := own_ref f (ownL_some q)
    exact ⟨.ref a, e, .inl ⟨a, rfl, ⟨vs, SqL.of h1⟩, forO_core hi wko_list hg hb _ f e k⟩⟩
theorem SS.forOe {i : Nat} {g : TG} {tb : TS} {tg : D → Sl → Option Sl} {body : CStm} (hi : i ∈ fx) (hg : SG Γ fx g tg) (hb : SS Γ fx W tb body) : SS Γ fx W (tFor (iEnumA Γ.K (tCons (tVar i) tNil)) g tb) (cForO i (fun k d => .tup [.int ((0 + k : Nat) : Int), d]) (cItE (cVar i)) tg body) := by
  intro Z σ ρ H E f k
  unfold cForO at k
  cases q : ownL ρ[i]? with
  | none => rw [q] at k; exact SS.for (SI.enum SE.var) hg hb Z σ ρ H E f k
  | some xs =>
    rw [q] at k
    obtain ⟨a, vs, e, h1⟩ := own_ref f (ownL_some q)
    exact ⟨.ref a, e, a, rfl, .inl ⟨vs, SqL.of h1, forO_core hi wko_enum hg hb _ f e k⟩⟩
end
section
variable {X : Cx} {ct : Cn} {W : WX} {fx : List Nat} {s1 : CStm} {pos : Pos} {tg : Expr}
theorem cs_forOs (i : Nat) {x : Str} {p1 : Pos} {body : List Stmt} {tgm : D → Sl → Option Sl} (hi : i ∈ fx) (hp : PassesOwn (model X.prog X.w) X.A X.env X.xe) (hc : X.calm = true) (hg : CG X ct fx tg tgm) (hb : CSs X ct fx W body s1) (hN : X.N[i]? = some x := by rfl) (hv : Vis X.env.scope x := by first | exact Or.inl rfl | exact Or.inr (Or.inl rfl) | exact Or.inr (Or.inr rfl)) (hd : (x == ("__debug__" : Str)) = false := by decide) (hcd : (x == ("__classdict__" : Str)) = false := by decide) (hs : ∀ y, foldedSetIterable (.Name x p1) X.env y = pure y := by intro _; rfl) : CS X ct fx W (.For tg (.Name x p1) body [] pos) (cForO i (fun _ d => d) (cItS (cVar i)) tgm s1) := by
  obtain ⟨g, p2, q2⟩ := hg
  obtain ⟨t, p3, q3⟩ := hb
  exact ⟨_, ps_for hp hc (pi_seq (pe_var hN hv hd hcd)) p2 p3 hs, SS.forOs (Γ := Gx X ct) hi q2 q3⟩
theorem cs_forOe (i : Nat) {x : Str} {p p1 pos2 tpos : Pos} {elts : List Expr} {kk : Nat} {body : List Stmt} {tgm : D → Sl → Option Sl} (hi : i ∈ fx) (hg0 : Gl X "enumerate") (hm : X.mg "enumerate" = none) (hp : PassesOwn (model X.prog X.w) X.A X.env X.xe) (hc : X.calm = true) (hg : CG X ct fx (.Tuple elts kk tpos) tgm) (hb : CSs X ct fx W body s1) (hN : X.N[i]? = some x := by rfl) (hv : Vis X.env.scope x := by first | exact Or.inl rfl | exact Or.inr (Or.inl rfl) | exact Or.inr (Or.inr rfl)) (hd : (x == ("__debug__" : Str)) = false := by decide) (hcd : (x == ("__classdict__" : Str)) = false := by decide) (h1 : starEach [.Name x p1] X.env = [(false, eval (.Name x p1) X.env)] := by rfl) (hs : ∀ y, foldedSetIterable (.Call (.Name "enumerate" p) [.Name x p1] [] pos2) X.env y = pure y := by intro _; rfl) : CS X ct fx W (.For (.Tuple elts kk tpos) (.Call (.Name "enumerate" p) [.Name x p1] [] pos2) body [] pos) (cForO i (fun k d => .tup [.int ((0 + k : Nat) : Int), d]) (cItE (cVar i)) tgm s1) := by
  obtain ⟨g, p2, q2⟩ := hg
  obtain ⟨t, p3, q3⟩ := hb
  exact ⟨_, ps_for hp hc (pi_enumA hg0 hm (pa_cons (pe_var hN hv hd hcd) pa_nil h1) h1) p2 p3 hs, SS.forOe (Γ := Gx X ct) hi q2 q3⟩
end
/-! for plain laws -/
@[simp] theorem e_ownL_o (xs : List D) : ownL (some (some (.lst xs, true))) = some xs := rfl
@[simp] theorem e_ownL_s (d : D) : ownL (some (some (d, false))) = none := by cases d <;> rfl
@[simp] theorem e_ownL_t (xs : List D) (b : Bool) : ownL (some (some (.tup xs, b))) = none := by cases b <;> rfl
@[simp] theorem e_cForO (i : Nat) (mk : Nat → D → D) (it : CIt) (tg : D → Sl → Option Sl) (body : CStm) (ρ : Sl) : cForO i mk it tg body ρ = match ownL ρ[i]? with
  | some xs => loopO i mk tg body xs.length 0 ρ
  | none => cFor it tg body ρ := rfl
/-- the list stays as it is: an invariant -/
theorem loopO_ind {i : Nat} {mk : Nat → D → D} {tg : D → Sl → Option Sl} {body : CStm} {xs : List D} (I : Nat → Sl → Prop) (hown : ∀ k ρ, I k ρ → ρ[i]? = some (some (.lst xs, true)))
    (hs : ∀ k d ρ, xs[k]? = some d → I k ρ → ∃ ρ1 ρ2, tg (mk k d) ρ = some ρ1 ∧ body ρ1 = .ok .nx ρ2 ∧ I (k + 1) ρ2) :
    ∀ (n k : Nat) (ρ : Sl), n + k = xs.length → I k ρ → ∃ ρ', loopO i mk tg body n k ρ = .ok .nx ρ' ∧ I xs.length ρ'
  | 0, k, ρ, hn, h => by
    refine ⟨ρ, ?_, by rw [← hn, Nat.zero_add]; exact h⟩
    unfold loopO
    rw [hown k ρ h]
    exact if_pos (by omega)
  | n + 1, k, ρ, hn, h => by
    have hk : k < xs.length := by omega
    obtain ⟨ρ1, ρ2, t, b, h2⟩ := hs k _ ρ (List.getElem?_eq_getElem hk) h
    obtain ⟨ρ', e, h'⟩ := loopO_ind I hown hs n (k + 1) ρ2 (by omega) h2
    refine ⟨ρ', ?_, h'⟩
    unfold loopO
    rw [hown k ρ h]
    simp only [List.getElem?_eq_getElem hk, t, b]
    exact e
end VS

namespace VS
open PySem PyProof.Rows
/-! ### tuples in order -/
def LtAt (A : Around) (s : Shared) (x y : Value) (b : Bool) : Prop := ∀ (prog : Program) (w : World) (E : Value → Shared → Prop) (Q : Value → Shared → Prop), Q (.bool b) s → wpAny (model prog w) A (richCompare .Lt x y) Q E s
inductive Lex (A : Around) (s : Shared) : List Value → List Value → Bool → Prop
  | nn : Lex A s [] [] false
  | nc {y : Value} {ys : List Value} : Lex A s [] (y :: ys) true
  | cn {x : Value} {xs : List Value} : Lex A s (x :: xs) [] false
  | eq {x y : Value} {xs ys : List Value} {b : Bool} : SeqAt.EqAt A s x y true → Lex A s xs ys b → Lex A s (x :: xs) (y :: ys) b
  | ne {x y : Value} {xs ys : List Value} {b : Bool} : SeqAt.EqAt A s x y false → LtAt A s x y b → Lex A s (x :: xs) (y :: ys) b
section
open PySem.SeqAt
open PySem.AutoSeq1 (wpAny_loadPart')
open PySem.MeetsSeq PySem.MeetsSeq2 PySem.MeetsSeq3
theorem tuple_lt_lex (l b : Addr) (items items2 : Array Value) (n n2 : Nat) (dd dd2 : Option Addr) (sl sl2 : Array (Option Value)) (z : Bool) :
    Meets (Builtin.«tuple.__lt__» ⟨[.ref l, .ref b], []⟩)
      (fun A R s => s.heap.get? l = some { cls := .type "tuple", dict := dd, data := .seq items n, slots := sl } ∧ s.heap.get? b = some { cls := .type "tuple", dict := dd2, data := .seq items2 n2, slots := sl2 } ∧
        Lex A.in1 s items.toList items2.toList z ∧ R (.ok (.ret (.bool z))) s) :=
  .of_wp fun prog w A R s h => by
    obtain ⟨hp, g, d, tk, os⟩ := s; obtain ⟨hl, hb, hx, h⟩ := h
    have f2 := AutoSeq1.sub_tuple_tuple
    wp_walk using wpAny_loadPart' hl, wpAny_loadPart' hb, wpAny_forIn_list _ (fun rest b s' => b.1 = none ∧ s' = ⟨hp, g, d, tk, os⟩ ∧ ∃ (vs ws : List Value), rest = vs.zip ws ∧
      Lex A.in1 ⟨hp, g, d, tk, os⟩ vs ws z ∧ vs.length + items2.size = ws.length + items.size ∧ R (.ok (.ret (.bool z))) ⟨hp, g, d, tk, os⟩) _
    case turn =>
      rintro ⟨y, x⟩ rest b s' ⟨hb', rfl, vs, ws, hz, hL, hlen, hR⟩
      cases hL with
      | nn => rw [List.zip_nil_left] at hz; cases hz
      | nc => rw [List.zip_nil_left] at hz; cases hz
      | cn => rw [List.zip_nil_right] at hz; cases hz
      | eq he hL' =>
        rw [List.zip_cons_cons] at hz
        injection hz with hyx hrest
        injection hyx with hy hx
        subst hy hx
        simp only [List.length_cons] at hlen
        refine wpAny_bind (he prog w _ _ ?_)
        wp_walk
        exact ⟨rfl, rfl, _, _, hrest, hL', by omega, hR⟩
      | ne he hlt =>
        rw [List.zip_cons_cons] at hz
        injection hz with hyx hrest
        injection hyx with hy hx
        subst hy hx
        refine wpAny_bind (he prog w _ _ ?_)
        have hri := hlt prog w
        wp_walk using hri
        exact ⟨_, rfl, by simpa using hR⟩
    case fin =>
      rintro ⟨b1, b2⟩ s' ⟨hb', rfl, vs, ws, hz, hL, hlen, hR⟩
      simp only at hb'
      subst hb'
      have hv : z = decide (items.size < items2.size) := by
        cases hL with
        | nn =>
          simp only [List.length_nil] at hlen
          exact (decide_eq_false (by omega)).symm
        | nc =>
          simp only [List.length_nil, List.length_cons] at hlen
          exact (decide_eq_true (by omega)).symm
        | cn =>
          simp only [List.length_nil, List.length_cons] at hlen
          exact (decide_eq_false (by omega)).symm
        | eq _ _ => rw [List.zip_cons_cons] at hz; cases hz
        | ne _ _ => rw [List.zip_cons_cons] at hz; cases hz
      rw [hv] at hR
      wp_walk
      exact ⟨_, rfl, by simpa [Builtin.Tuple.tupleCompareSizes] using hR⟩
    case h =>
      exact ⟨rfl, rfl, items.toList, items2.toList, rfl, hx, by simp; omega, h⟩
end
theorem LtAt.tuples {A : Around} {s : Shared} {l b : Addr} {items items2 : Array Value} {z : Bool} (hl : IsTup s.heap l items) (hb : IsTup s.heap b items2) (hu : A.units < cLine) (hx : Lex A.in1 s items.toList items2.toList z) : LtAt A s (.ref l) (.ref b) z := by
  intro prog w E Q h
  obtain ⟨⟨cls, dd, data, sl⟩, ho, hc, n, hd⟩ := id hl
  obtain ⟨⟨cls2, dd2, data2, sl2⟩, ho2, hc2, n2, hd2⟩ := id hb
  simp only at hc hd hc2 hd2
  subst hc hd hc2 hd2
  exact richCompare_meets_room (op := .Lt) ⟨_, ho, rfl⟩ ⟨_, ho2, rfl⟩ PySem.F.slot_tuple_lt PySem.F.entry_tuple_lt (PySem.F.args_tuple_lt_2 _ _) (tuple_lt_lex l b items items2 n n2 dd dd2 sl sl2 z)
    ⟨ho, ho2, hx, show Value.bool z ≠ Value.notImplemented ∧ Q (.bool z) s from ⟨(fun x => nomatch x), h⟩⟩ hu
theorem LtAt.int {A : Around} {s : Shared} {a c : Int} {t u : Tok} : LtAt A s (.int a t) (.int c u) (decide (a < c)) := fun prog w E Q h => (PyProof.Rows.lt_int h : wpAny (model prog w) A (compareOp .Lt (.int a t) (.int c u)) Q E s)
theorem LtAt.str {A : Around} {s : Shared} {x y : Str} {t u : Tok} : LtAt A s (.str x t) (.str y u) (decide (x.cps.toList < y.cps.toList)) := fun prog w E Q h => (PyProof.Rows.lt_str h : wpAny (model prog w) A (compareOp .Lt (.str x t) (.str y u)) Q E s)
end VS

namespace VS
open PySem L2 PyProof.Rows
/-! ### an order on data -/
def rk : D → Nat
  | .int _ => 0
  | .str _ => 1
  | .tup _ => 2
  | _ => 3
def c3 (a b : Bool) : Ordering := if a then .lt else if b then .gt else .eq
mutual
def cmpD : D → D → Ordering
  | .int i, .int j => c3 (decide (i < j)) (decide (j < i))
  | .str x, .str y => c3 (decide (x.cps.toList < y.cps.toList)) (decide (y.cps.toList < x.cps.toList))
  | .tup xs, .tup ys => cmpDs xs ys
  | d, e => c3 (decide (rk d < rk e)) (decide (rk e < rk d))
def cmpDs : List D → List D → Ordering
  | [], [] => .eq
  | [], _ :: _ => .lt
  | _ :: _, [] => .gt
  | x :: xs, y :: ys => (cmpD x y).then (cmpDs xs ys)
end
def ltB (d e : D) : Bool := cmpD d e == .lt
mutual
/-- may be asked which is the smaller one -/
def cOk : D → D → Bool
  | .int _, .int _ => true
  | .str _, .str _ => true
  | .tup xs, .tup ys => cOks xs ys
  | _, _ => false
def cOks : List D → List D → Bool
  | [], _ => true
  | _ :: _, [] => true
  | x :: xs, y :: ys => if eqD x y = true then cOks xs ys else cOk x y
end
/-- ints, texts, tuples of these -/
def oD : Nat → D → Bool
  | _, .int _ => true
  | _, .str _ => true
  | n + 1, .tup xs => xs.all (oD n)
  | _, _ => false
theorem c3_swap (a b : Bool) (h : ¬ (a = true ∧ b = true)) : c3 b a = (c3 a b).swap := by
  cases a <;> cases b <;> first | rfl | exact absurd ⟨rfl, rfl⟩ h
theorem cps_inj {x y : Str} (h : x.cps.toList = y.cps.toList) : x = y := by
  cases x with
  | mk a => cases y with
    | mk b =>
      simp only at h
      have : a = b := Array.toList_inj.mp h
      rw [this]
section
variable {l m n : List Nat}
theorem nl_asymm (h : l < m) : ¬ m < l := List.lt_asymm h
theorem nl_trans (h1 : ¬ m < l) (h2 : ¬ n < m) : ¬ n < l := by
  rw [List.not_lt] at *
  exact List.le_trans h1 h2
theorem nl_anti (h1 : ¬ m < l) (h2 : ¬ l < m) : l = m := by
  rw [List.not_lt] at *
  exact List.le_antisymm h1 h2
end
theorem c3_swapD {α : Type} {r : α → α → Prop} [∀ a b, Decidable (r a b)] (as : ∀ a b, r a b → ¬ r b a) (a b : α) : c3 (decide (r b a)) (decide (r a b)) = (c3 (decide (r a b)) (decide (r b a))).swap :=
  c3_swap _ _ fun h => as a b (of_decide_eq_true h.1) (of_decide_eq_true h.2)
theorem rk_lt {d e : D} (h : rk d < rk e) : cmpD d e = .lt := by
  cases d <;> cases e <;> first | rfl | (simp [rk] at h)
theorem rk_gt {d e : D} (h : rk e < rk d) : cmpD d e = .gt := by
  cases d <;> cases e <;> first | rfl | (simp [rk] at h)
theorem rk_three {d e : D} (h1 : rk d = 3) (h2 : rk e = 3) : cmpD d e = .eq := by
  cases d <;> first | (simp [rk] at h1; done) | (cases e <;> first | rfl | (simp [rk] at h2; done))
theorem rk_cases (d : D) : (∃ i, d = .int i) ∨ (∃ x, d = .str x) ∨ (∃ xs, d = .tup xs) ∨ rk d = 3 := by
  cases d <;> simp [rk]
theorem rk_le3 (d : D) : rk d ≤ 3 := by cases d <;> simp [rk]
theorem rk0 {d : D} (h : rk d = 0) : ∃ i, d = .int i := by cases d <;> simp [rk] at h ⊢
theorem rk1 {d : D} (h : rk d = 1) : ∃ i, d = .str i := by cases d <;> simp [rk] at h ⊢
theorem rk2 {d : D} (h : rk d = 2) : ∃ i, d = .tup i := by cases d <;> simp [rk] at h ⊢
theorem ord_cases (o : Ordering) : o = .lt ∨ o = .eq ∨ o = .gt := by cases o <;> simp
mutual
theorem cmpD_swap : ∀ d e : D, cmpD e d = (cmpD d e).swap
  | .tup xs, e => by
    rcases Nat.lt_trichotomy (rk (.tup xs)) (rk e) with h | h | h
    · rw [rk_lt h, rk_gt h]; rfl
    · obtain ⟨ys, rfl⟩ := rk2 h.symm
      simp only [cmpD]; exact cmpDs_swap xs ys
    · rw [rk_lt h, rk_gt h]; rfl
  | .int i, e => by
    rcases Nat.lt_trichotomy (rk (.int i)) (rk e) with h | h | h
    · rw [rk_lt h, rk_gt h]; rfl
    · obtain ⟨j, rfl⟩ := rk0 h.symm
      simp only [cmpD]; exact c3_swapD (r := fun a b : Int => a < b) (fun a b h => by omega) i j
    · rw [rk_lt h, rk_gt h]; rfl
  | .str i, e => by
    rcases Nat.lt_trichotomy (rk (.str i)) (rk e) with h | h | h
    · rw [rk_lt h, rk_gt h]; rfl
    · obtain ⟨j, rfl⟩ := rk1 h.symm
      simp only [cmpD]; exact c3_swapD (r := fun a b : List Nat => a < b) (fun a b h => nl_asymm h) _ _
    · rw [rk_lt h, rk_gt h]; rfl
  | .non, e => by
    have h3 : rk (D.non) = 3 := rfl
    rcases Nat.lt_or_ge (rk e) 3 with h | h
    · rw [rk_lt (h3.symm ▸ h), rk_gt (h3.symm ▸ h)]; rfl
    · have h' : rk e = 3 := by have := rk_le3 e; omega
      rw [rk_three h3 h', rk_three h' h3]; rfl
  | .bl x, e => by
    have h3 : rk (D.bl x) = 3 := rfl
    rcases Nat.lt_or_ge (rk e) 3 with h | h
    · rw [rk_lt (h3.symm ▸ h), rk_gt (h3.symm ▸ h)]; rfl
    · have h' : rk e = 3 := by have := rk_le3 e; omega
      rw [rk_three h3 h', rk_three h' h3]; rfl
  | .ktup x, e => by
    have h3 : rk (D.ktup x) = 3 := rfl
    rcases Nat.lt_or_ge (rk e) 3 with h | h
    · rw [rk_lt (h3.symm ▸ h), rk_gt (h3.symm ▸ h)]; rfl
    · have h' : rk e = 3 := by have := rk_le3 e; omega
      rw [rk_three h3 h', rk_three h' h3]; rfl
  | .lst x, e => by
    have h3 : rk (D.lst x) = 3 := rfl
    rcases Nat.lt_or_ge (rk e) 3 with h | h
    · rw [rk_lt (h3.symm ▸ h), rk_gt (h3.symm ▸ h)]; rfl
    · have h' : rk e = 3 := by have := rk_le3 e; omega
      rw [rk_three h3 h', rk_three h' h3]; rfl
  | .dK x, e => by
    have h3 : rk (D.dK x) = 3 := rfl
    rcases Nat.lt_or_ge (rk e) 3 with h | h
    · rw [rk_lt (h3.symm ▸ h), rk_gt (h3.symm ▸ h)]; rfl
    · have h' : rk e = 3 := by have := rk_le3 e; omega
      rw [rk_three h3 h', rk_three h' h3]; rfl
  | .dT x, e => by
    have h3 : rk (D.dT x) = 3 := rfl
    rcases Nat.lt_or_ge (rk e) 3 with h | h
    · rw [rk_lt (h3.symm ▸ h), rk_gt (h3.symm ▸ h)]; rfl
    · have h' : rk e = 3 := by have := rk_le3 e; omega
      rw [rk_three h3 h', rk_three h' h3]; rfl
  | .obj x y, e => by
    have h3 : rk (D.obj x y) = 3 := rfl
    rcases Nat.lt_or_ge (rk e) 3 with h | h
    · rw [rk_lt (h3.symm ▸ h), rk_gt (h3.symm ▸ h)]; rfl
    · have h' : rk e = 3 := by have := rk_le3 e; omega
      rw [rk_three h3 h', rk_three h' h3]; rfl
  | .ty x, e => by
    have h3 : rk (D.ty x) = 3 := rfl
    rcases Nat.lt_or_ge (rk e) 3 with h | h
    · rw [rk_lt (h3.symm ▸ h), rk_gt (h3.symm ▸ h)]; rfl
    · have h' : rk e = 3 := by have := rk_le3 e; omega
      rw [rk_three h3 h', rk_three h' h3]; rfl
  | .scr x, e => by
    have h3 : rk (D.scr x) = 3 := rfl
    rcases Nat.lt_or_ge (rk e) 3 with h | h
    · rw [rk_lt (h3.symm ▸ h), rk_gt (h3.symm ▸ h)]; rfl
    · have h' : rk e = 3 := by have := rk_le3 e; omega
      rw [rk_three h3 h', rk_three h' h3]; rfl
  | .exc x y, e => by
    have h3 : rk (D.exc x y) = 3 := rfl
    rcases Nat.lt_or_ge (rk e) 3 with h | h
    · rw [rk_lt (h3.symm ▸ h), rk_gt (h3.symm ▸ h)]; rfl
    · have h' : rk e = 3 := by have := rk_le3 e; omega
      rw [rk_three h3 h', rk_three h' h3]; rfl
  | .cls x, e => by
    have h3 : rk (D.cls x) = 3 := rfl
    rcases Nat.lt_or_ge (rk e) 3 with h | h
    · rw [rk_lt (h3.symm ▸ h), rk_gt (h3.symm ▸ h)]; rfl
    · have h' : rk e = 3 := by have := rk_le3 e; omega
      rw [rk_three h3 h', rk_three h' h3]; rfl
theorem cmpDs_swap : ∀ xs ys : List D, cmpDs ys xs = (cmpDs xs ys).swap
  | [], [] => rfl
  | [], _ :: _ => rfl
  | _ :: _, [] => rfl
  | x :: xs, y :: ys => by
    simp only [cmpDs]
    rw [cmpD_swap x y, cmpDs_swap xs ys]
    cases cmpD x y <;> rfl
end
def Tr {α : Type} (f : α → α → Ordering) (a : α) : Prop := ∀ b c, f a b ≠ .gt → f b c ≠ .gt → f a c ≠ .gt ∧ (f a c = .eq → f a b = .eq ∧ f b c = .eq)
theorem c3_le {a b : Bool} (h : ¬ (a = true ∧ b = true)) : c3 a b ≠ .gt ↔ b = false := by
  cases a <;> cases b <;> simp [c3] at *
theorem c3_eq {a b : Bool} : c3 a b = .eq ↔ a = false ∧ b = false := by
  cases a <;> cases b <;> simp [c3] at *
theorem c3_tr {α : Type} {r : α → α → Prop} [∀ a b, Decidable (r a b)] (as : ∀ a b, r a b → ¬ r b a) (tr : ∀ a b c, ¬ r b a → ¬ r c b → ¬ r c a) (a : α) : Tr (fun a b => c3 (decide (r a b)) (decide (r b a))) a := by
  intro b c h1 h2
  have q : ∀ a b : α, ¬ (decide (r a b) = true ∧ decide (r b a) = true) := fun a b h => as a b (of_decide_eq_true h.1) (of_decide_eq_true h.2)
  simp only [c3_le (q _ _), decide_eq_false_iff_not] at h1 h2
  refine ⟨?_, fun e => ?_⟩
  · simp only [c3_le (q _ _), decide_eq_false_iff_not]
    exact tr a b c h1 h2
  · obtain ⟨e1, e2⟩ := c3_eq.mp e
    have e1 := of_decide_eq_false e1
    exact ⟨c3_eq.mpr ⟨decide_eq_false (tr b c a h2 e1), decide_eq_false h1⟩, c3_eq.mpr ⟨decide_eq_false (tr c a b e1 h1), decide_eq_false h2⟩⟩
theorem rk_le {d e : D} (h : cmpD d e ≠ .gt) : rk d ≤ rk e := by
  rcases Nat.lt_or_ge (rk e) (rk d) with q | q
  · exact absurd (rk_gt q) h
  · exact q
theorem tr_by {a : D} (h : ∀ b c, rk b = rk a → rk c = rk a → cmpD a b ≠ .gt → cmpD b c ≠ .gt → cmpD a c ≠ .gt ∧ (cmpD a c = .eq → cmpD a b = .eq ∧ cmpD b c = .eq)) : Tr cmpD a := by
  intro b c h1 h2
  have r1 := rk_le h1
  have r2 := rk_le h2
  rcases Nat.lt_or_ge (rk a) (rk c) with q | q
  · rw [rk_lt q]
    exact ⟨fun z => (by cases z), fun z => (by cases z)⟩
  · exact h b c (by omega) (by omega) h1 h2
mutual
theorem trD : ∀ a : D, Tr cmpD a
  | .tup xs => tr_by fun b c e1 e2 h1 h2 => by
    obtain ⟨ys, rfl⟩ := rk2 (e1.trans rfl)
    obtain ⟨zs, rfl⟩ := rk2 (e2.trans rfl)
    simp only [cmpD] at *
    exact trDs xs ys zs h1 h2
  | .int i => tr_by fun b c e1 e2 h1 h2 => by
    obtain ⟨ys, rfl⟩ := rk0 (e1.trans rfl)
    obtain ⟨zs, rfl⟩ := rk0 (e2.trans rfl)
    simp only [cmpD] at *
    exact c3_tr (r := fun a b : Int => a < b) (fun a b h => by omega) (fun a b c h1 h2 => by omega) _ _ _ h1 h2
  | .str i => tr_by fun b c e1 e2 h1 h2 => by
    obtain ⟨ys, rfl⟩ := rk1 (e1.trans rfl)
    obtain ⟨zs, rfl⟩ := rk1 (e2.trans rfl)
    simp only [cmpD] at *
    exact c3_tr (r := fun a b : List Nat => a < b) (fun a b h => nl_asymm h) (fun a b c h1 h2 => nl_trans h1 h2) _ _ _ h1 h2
  | .non => tr_by fun b c e1 e2 _ _ => by
    have e1 := e1.trans (show rk (D.non) = 3 from rfl)
    have e2 := e2.trans (show rk (D.non) = 3 from rfl)
    rw [rk_three rfl e2, rk_three rfl e1, rk_three e1 e2]
    exact ⟨fun z => (by cases z), fun _ => ⟨rfl, rfl⟩⟩
  | .bl x => tr_by fun b c e1 e2 _ _ => by
    have e1 := e1.trans (show rk (D.bl x) = 3 from rfl)
    have e2 := e2.trans (show rk (D.bl x) = 3 from rfl)
    rw [rk_three rfl e2, rk_three rfl e1, rk_three e1 e2]
    exact ⟨fun z => (by cases z), fun _ => ⟨rfl, rfl⟩⟩
  | .ktup x => tr_by fun b c e1 e2 _ _ => by
    have e1 := e1.trans (show rk (D.ktup x) = 3 from rfl)
    have e2 := e2.trans (show rk (D.ktup x) = 3 from rfl)
    rw [rk_three rfl e2, rk_three rfl e1, rk_three e1 e2]
    exact ⟨fun z => (by cases z), fun _ => ⟨rfl, rfl⟩⟩
  | .lst x => tr_by fun b c e1 e2 _ _ => by
    have e1 := e1.trans (show rk (D.lst x) = 3 from rfl)
    have e2 := e2.trans (show rk (D.lst x) = 3 from rfl)
    rw [rk_three rfl e2, rk_three rfl e1, rk_three e1 e2]
    exact ⟨fun z => (by cases z), fun _ => ⟨rfl, rfl⟩⟩
  | .dK x => tr_by fun b c e1 e2 _ _ => by
    have e1 := e1.trans (show rk (D.dK x) = 3 from rfl)
    have e2 := e2.trans (show rk (D.dK x) = 3 from rfl)
    rw [rk_three rfl e2, rk_three rfl e1, rk_three e1 e2]
    exact ⟨fun z => (by cases z), fun _ => ⟨rfl, rfl⟩⟩
  | .dT x => tr_by fun b c e1 e2 _ _ => by
    have e1 := e1.trans (show rk (D.dT x) = 3 from rfl)
    have e2 := e2.trans (show rk (D.dT x) = 3 from rfl)
    rw [rk_three rfl e2, rk_three rfl e1, rk_three e1 e2]
    exact ⟨fun z => (by cases z), fun _ => ⟨rfl, rfl⟩⟩
  | .obj x y => tr_by fun b c e1 e2 _ _ => by
    have e1 := e1.trans (show rk (D.obj x y) = 3 from rfl)
    have e2 := e2.trans (show rk (D.obj x y) = 3 from rfl)
    rw [rk_three rfl e2, rk_three rfl e1, rk_three e1 e2]
    exact ⟨fun z => (by cases z), fun _ => ⟨rfl, rfl⟩⟩
  | .ty x => tr_by fun b c e1 e2 _ _ => by
    have e1 := e1.trans (show rk (D.ty x) = 3 from rfl)
    have e2 := e2.trans (show rk (D.ty x) = 3 from rfl)
    rw [rk_three rfl e2, rk_three rfl e1, rk_three e1 e2]
    exact ⟨fun z => (by cases z), fun _ => ⟨rfl, rfl⟩⟩
  | .scr x => tr_by fun b c e1 e2 _ _ => by
    have e1 := e1.trans (show rk (D.scr x) = 3 from rfl)
    have e2 := e2.trans (show rk (D.scr x) = 3 from rfl)
    rw [rk_three rfl e2, rk_three rfl e1, rk_three e1 e2]
    exact ⟨fun z => (by cases z), fun _ => ⟨rfl, rfl⟩⟩
  | .exc x y => tr_by fun b c e1 e2 _ _ => by
    have e1 := e1.trans (show rk (D.exc x y) = 3 from rfl)
    have e2 := e2.trans (show rk (D.exc x y) = 3 from rfl)
    rw [rk_three rfl e2, rk_three rfl e1, rk_three e1 e2]
    exact ⟨fun z => (by cases z), fun _ => ⟨rfl, rfl⟩⟩
  | .cls x => tr_by fun b c e1 e2 _ _ => by
    have e1 := e1.trans (show rk (D.cls x) = 3 from rfl)
    have e2 := e2.trans (show rk (D.cls x) = 3 from rfl)
    rw [rk_three rfl e2, rk_three rfl e1, rk_three e1 e2]
    exact ⟨fun z => (by cases z), fun _ => ⟨rfl, rfl⟩⟩
theorem trDs : ∀ a : List D, Tr cmpDs a
  | [], [], c, _, h2 => ⟨h2, fun e => ⟨rfl, e⟩⟩
  | [], b :: bs, [], _, h2 => absurd rfl h2
  | [], b :: bs, c :: cs, _, h2 => ⟨fun z => (by simp [cmpDs] at z), fun z => (by simp [cmpDs] at z)⟩
  | a :: as, [], c, h1, _ => absurd rfl h1
  | a :: as, b :: bs, [], _, h2 => absurd rfl h2
  | a :: as, b :: bs, c :: cs, h1, h2 => by
    have t1 := trD a b c
    have ts := trDs as bs cs
    simp only [cmpDs] at *
    have nh1 : cmpD a b ≠ .gt := fun z => by rw [z] at h1; exact h1 rfl
    have nh2 : cmpD b c ≠ .gt := fun z => by rw [z] at h2; exact h2 rfl
    obtain ⟨n3, n4⟩ := t1 nh1 nh2
    rcases ord_cases (cmpD a c) with e | e | e
    · rw [e]; exact ⟨fun z => (by cases z), fun z => (by cases z)⟩
    · obtain ⟨q, p⟩ := n4 e
      rw [q] at h1 ⊢
      rw [p] at h2 ⊢
      rw [e]
      exact ts h1 h2
    · exact absurd e n3
end
/-! ### sorted lists -/
theorem ltB_iff {d e : D} : ltB d e = true ↔ cmpD d e = .lt := by unfold ltB; exact beq_iff_eq
theorem ltB_no {d e : D} : ltB d e = false ↔ cmpD e d ≠ .gt := by
  unfold ltB
  rw [cmpD_swap d e]
  cases cmpD d e <;> simp
theorem swoD : SrtO.Swo ltB := by
  refine ⟨fun x y h => ?_, fun x y z h1 h2 => ?_⟩
  · rw [ltB_iff] at h
    rw [ltB_no, h]
    intro z; cases z
  · rw [ltB_no] at *
    exact (trD x y z h1 h2).1
theorem swoK {α : Type} (k : α → D) : SrtO.Swo fun x y => ltB (k x) (k y) := ⟨fun x y => swoD.asym _ _, fun x y z => swoD.tr _ _ _⟩
def insD (d : D) : List D → List D
  | [] => [d]
  | e :: r => if ltB d e = true then d :: e :: r else e :: insD d r
def isort : List D → List D
  | [] => []
  | d :: ds => insD d (isort ds)
theorem insD_perm (d : D) : ∀ l : List D, (insD d l).Perm (d :: l)
  | [] => List.Perm.refl _
  | e :: r => by
    unfold insD
    split
    · exact List.Perm.refl _
    · exact ((insD_perm d r).cons e).trans (List.Perm.swap d e r)
theorem isort_perm : ∀ l : List D, (isort l).Perm l
  | [] => List.Perm.refl _
  | d :: ds => (insD_perm d _).trans ((isort_perm ds).cons d)
theorem insD_srtd (d : D) : ∀ {l : List D}, SrtO.Srtd ltB l → SrtO.Srtd ltB (insD d l)
  | [], _ => SrtO.srtd_one d
  | e :: r, h => by
    unfold insD
    split
    case isTrue q => exact List.pairwise_cons.mpr ⟨fun y hy => swoD.asym _ _ (swoD.lt_all h q y hy), h⟩
    case isFalse q =>
      have q : ltB d e = false := by simpa using q
      refine List.pairwise_cons.mpr ⟨fun y hy => ?_, insD_srtd d (List.pairwise_cons.mp h).2⟩
      rcases List.mem_cons.mp ((insD_perm d r).mem_iff.mp hy) with z | z
      · rw [z]; exact q
      · exact SrtO.srtd_head h y z
theorem isort_srtd : ∀ l : List D, SrtO.Srtd ltB (isort l)
  | [] => List.Pairwise.nil
  | d :: ds => insD_srtd d (isort_srtd ds)
mutual
theorem cmpD_eq : ∀ (n m : Nat) (d e : D), oD n d = true → oD m e = true → cmpD d e = .eq → d = e
  | n, m, .int i, e, h1, h2, h => by
    rcases rk_cases e with ⟨j, rfl⟩ | ⟨j, rfl⟩ | ⟨j, rfl⟩ | q
    · simp only [cmpD, c3_eq, decide_eq_false_iff_not] at h
      have : i = j := by omega
      rw [this]
    · cases h
    · cases h
    · rw [rk_lt (by rw [q]; simp [rk])] at h; cases h
  | n, m, .str i, e, h1, h2, h => by
    rcases rk_cases e with ⟨j, rfl⟩ | ⟨j, rfl⟩ | ⟨j, rfl⟩ | q
    · cases h
    · simp only [cmpD, c3_eq, decide_eq_false_iff_not] at h
      have : i = j := cps_inj (nl_anti h.2 h.1)
      rw [this]
    · cases h
    · rw [rk_lt (by rw [q]; simp [rk])] at h; cases h
  | 0, m, .tup xs, e, h1, h2, h => by cases h1
  | n + 1, m, .tup xs, e, h1, h2, h => by
    rcases rk_cases e with ⟨j, rfl⟩ | ⟨j, rfl⟩ | ⟨ys, rfl⟩ | q
    · cases h
    · cases h
    · cases m with
      | zero => cases h2
      | succ m =>
        simp only [cmpD] at h
        rw [cmpDs_eq n m xs ys (by simpa [oD] using h1) (by simpa [oD] using h2) h]
    · rw [rk_lt (by rw [q]; simp [rk])] at h; cases h
  | n, m, .non, e, h1, h2, h => by cases n <;> cases h1
  | n, m, .bl x, e, h1, h2, h => by cases n <;> cases h1
  | n, m, .ktup x, e, h1, h2, h => by cases n <;> cases h1
  | n, m, .lst x, e, h1, h2, h => by cases n <;> cases h1
  | n, m, .dK x, e, h1, h2, h => by cases n <;> cases h1
  | n, m, .dT x, e, h1, h2, h => by cases n <;> cases h1
  | n, m, .obj x y, e, h1, h2, h => by cases n <;> cases h1
  | n, m, .ty x, e, h1, h2, h => by cases n <;> cases h1
  | n, m, .scr x, e, h1, h2, h => by cases n <;> cases h1
  | n, m, .exc x y, e, h1, h2, h => by cases n <;> cases h1
  | n, m, .cls x, e, h1, h2, h => by cases n <;> cases h1
theorem cmpDs_eq : ∀ (n m : Nat) (d e : List D), (∀ x ∈ d, oD n x = true) → (∀ x ∈ e, oD m x = true) → cmpDs d e = .eq → d = e
  | n, m, [], [], _, _, _ => rfl
  | n, m, [], _ :: _, _, _, h => by cases h
  | n, m, _ :: _, [], _, _, h => by cases h
  | n, m, d :: ds, e :: es, h1, h2, h => by
    simp only [cmpDs] at h
    have a : cmpD d e = .eq := by
      cases q : cmpD d e <;> rw [q] at h <;> first | rfl | cases h
    rw [a] at h
    rw [cmpD_eq n m d e (h1 d List.mem_cons_self) (h2 e List.mem_cons_self) a, cmpDs_eq n m ds es (fun x hx => h1 x (List.mem_cons_of_mem _ hx)) (fun x hx => h2 x (List.mem_cons_of_mem _ hx)) h]
end
theorem srtd_uniq : ∀ {l m : List D} {n : Nat}, (∀ x ∈ l, oD n x = true) → SrtO.Srtd ltB l → SrtO.Srtd ltB m → l.Perm m → l = m
  | [], m, _, _, _, _, h => (List.Perm.eq_nil h.symm).symm
  | x :: l, [], _, _, _, _, h => absurd h.length_eq (by simp)
  | x :: l, y :: m, n, ho, hl, hm, h => by
    have h1 : ltB x y = false := by
      rcases List.mem_cons.mp (h.mem_iff.mp (List.mem_cons_self (a := x) (l := l))) with e | hx
      · rw [e]; exact swoD.refl y
      · exact SrtO.srtd_head hm x hx
    have h2 : ltB y x = false := by
      rcases List.mem_cons.mp (h.mem_iff.mpr (List.mem_cons_self (a := y) (l := m))) with e | hy
      · rw [e]; exact swoD.refl x
      · exact SrtO.srtd_head hl y hy
    have e : x = y := by
      refine cmpD_eq n n x y (ho x List.mem_cons_self) (ho y (h.mem_iff.mpr List.mem_cons_self)) ?_
      rw [ltB_no] at h2
      unfold ltB at h1
      cases q : cmpD x y <;> rw [q] at h1 h2
      · cases h1
      · exact absurd rfl h2
    subst e
    rw [srtd_uniq (fun z hz => ho z (List.mem_cons_of_mem _ hz)) (List.pairwise_cons.mp hl).2 (List.pairwise_cons.mp hm).2 h.cons_inv]
theorem isort_uniq {l m : List D} {n : Nat} (ho : ∀ x ∈ l, oD n x = true) (hm : SrtO.Srtd ltB m) (h : m.Perm l) : m = isort l :=
  srtd_uniq (n := n) (fun x hx => ho x (h.mem_iff.mp hx)) hm (isort_srtd l) (h.trans (isort_perm l).symm)
theorem isort_congr {l m : List D} {n : Nat} (ho : ∀ x ∈ l, oD n x = true) (h : l.Perm m) : isort l = isort m :=
  (isort_uniq (n := n) ho (isort_srtd m) ((isort_perm m).trans h.symm)).symm
end VS

namespace VS
open PySem L2 PyProof.Rows
/-! ### ordered data at a heap -/
mutual
inductive OV (h : Heap) : Value → D → Prop
  | int (i : Int) (t : Tok) : OV h (.int i t) (.int i)
  | str (x : Str) (t : Tok) : OV h (.str x t) (.str x)
  | tup {a : Addr} {its : List Value} {ds : List D} : IsTup h a its.toArray → OVs h its ds → OV h (.ref a) (.tup ds)
inductive OVs (h : Heap) : List Value → List D → Prop
  | nil : OVs h [] []
  | cons {v : Value} {vs : List Value} {d : D} {ds : List D} : OV h v d → OVs h vs ds → OVs h (v :: vs) (d :: ds)
end
theorem OVs.len {h : Heap} : ∀ {vs : List Value} {ds : List D}, OVs h vs ds → vs.length = ds.length
  | _, _, .nil => rfl
  | _, _, .cons _ t => by simp [OVs.len t]
theorem OVs.get {h : Heap} : ∀ {vs : List Value} {ds : List D} {i : Nat} {v : Value} {d : D}, OVs h vs ds → vs[i]? = some v → ds[i]? = some d → OV h v d
  | _, _, _, _, _, .nil, e, _ => by simp at e
  | _, _, 0, _, _, .cons r _, e, e2 => by simp at e e2; subst e e2; exact r
  | _, _, i + 1, _, _, .cons _ t, e, e2 => by simp at e e2; exact OVs.get t e e2
theorem isTup_uniq {h : Heap} {a : Addr} {x y : Array Value} (h1 : IsTup h a x) (h2 : IsTup h a y) : x = y := by
  obtain ⟨o, e, _, n, d⟩ := h1
  obtain ⟨o', e', _, n', d'⟩ := h2
  rw [e] at e'
  cases e'
  rw [d] at d'
  cases d'
  rfl
mutual
theorem OV.fn {h : Heap} : ∀ {v : Value} {d e : D}, OV h v d → OV h v e → d = e
  | _, _, _, .int _ _, .int _ _ => rfl
  | _, _, _, .str _ _, .str _ _ => rfl
  | _, _, _, .tup h1 r1, .tup h2 r2 => by
    have e := Array.toList_inj.mpr (isTup_uniq h1 h2)
    simp only at e
    subst e
    rw [OVs.fn r1 r2]
theorem OVs.fn {h : Heap} : ∀ {v : List Value} {d e : List D}, OVs h v d → OVs h v e → d = e
  | _, _, _, .nil, .nil => rfl
  | _, _, _, .cons a b, .cons c d => by rw [OV.fn a c, OVs.fn b d]
end
mutual
theorem OV.keeps {h h' : Heap} {a : Addr} (k : ∀ b o, b ≠ a → h.get? b = some o → h'.get? b = some o) (na : ∀ o, h.get? a = some o → o.cls ≠ .type "tuple") : ∀ {v : Value} {d : D}, OV h v d → OV h' v d
  | _, _, .int _ _ => .int _ _
  | _, _, .str _ _ => .str _ _
  | _, _, .tup (a := c) h1 r1 => by
    obtain ⟨o, e, hc, n, hd⟩ := h1
    exact .tup ⟨o, k c o (fun z => na o (z ▸ e) hc) e, hc, n, hd⟩ (OVs.keeps k na r1)
theorem OVs.keeps {h h' : Heap} {a : Addr} (k : ∀ b o, b ≠ a → h.get? b = some o → h'.get? b = some o) (na : ∀ o, h.get? a = some o → o.cls ≠ .type "tuple") : ∀ {v : List Value} {d : List D}, OVs h v d → OVs h' v d
  | _, _, .nil => .nil
  | _, _, .cons x y => .cons (OV.keeps k na x) (OVs.keeps k na y)
end
mutual
theorem eqO_refl : ∀ (n : Nat) (d : D), oD n d = true → eqD d d = true
  | n, .int i, _ => by simp [eqD]
  | n, .str i, _ => by simp [eqD]
  | 0, .tup xs, h => by cases h
  | n + 1, .tup xs, h => by simp only [eqD]; exact eqOs_refl n xs (by simpa [oD] using h)
  | n, .non, h => rfl
  | n, .bl b, h => by simp [eqD]
  | n, .ktup _, h => by cases n <;> cases h
  | n, .lst _, h => by cases n <;> cases h
  | n, .dK _, h => by cases n <;> cases h
  | n, .dT _, h => by cases n <;> cases h
  | n, .obj _ _, h => by cases n <;> cases h
  | n, .ty _, h => by cases n <;> cases h
  | n, .scr _, h => by cases n <;> cases h
  | n, .exc _ _, h => by cases n <;> cases h
  | n, .cls _, h => by cases n <;> cases h
theorem eqOs_refl : ∀ (n : Nat) (d : List D), (∀ x ∈ d, oD n x = true) → eqDs d d = true
  | n, [], _ => rfl
  | n, d :: ds, h => by
    simp only [eqDs]
    rw [eqO_refl n d (h d List.mem_cons_self), eqOs_refl n ds fun x hx => h x (List.mem_cons_of_mem _ hx)]
    rfl
end
mutual
theorem eqD_eq : ∀ (n m : Nat) (d e : D), oD n d = true → oD m e = true → eqD d e = true → d = e
  | n, m, .int i, e, h1, h2, h => by
    cases e <;> first | (cases m <;> cases h2; done) | (simp only [eqD] at h; simp at h; rw [h]) | (simp [eqD] at h)
  | n, m, .str i, e, h1, h2, h => by
    cases e <;> first | (cases m <;> cases h2; done) | (simp only [eqD] at h; simp at h; rw [h]) | (simp [eqD] at h)
  | 0, m, .tup xs, e, h1, h2, h => by cases h1
  | n + 1, m, .tup xs, e, h1, h2, h => by
    cases e <;> first | (cases m <;> cases h2; done) | (simp [eqD] at h; done) | skip
    case tup ys =>
      cases m with
      | zero => cases h2
      | succ m =>
        simp only [eqD] at h
        rw [eqDs_eq n m xs ys (by simpa [oD] using h1) (by simpa [oD] using h2) h]
  | n, m, .non, e, h1, h2, h => by cases n <;> cases h1
  | n, m, .bl _, e, h1, h2, h => by cases n <;> cases h1
  | n, m, .ktup _, e, h1, h2, h => by cases n <;> cases h1
  | n, m, .lst _, e, h1, h2, h => by cases n <;> cases h1
  | n, m, .dK _, e, h1, h2, h => by cases n <;> cases h1
  | n, m, .dT _, e, h1, h2, h => by cases n <;> cases h1
  | n, m, .obj _ _, e, h1, h2, h => by cases n <;> cases h1
  | n, m, .ty _, e, h1, h2, h => by cases n <;> cases h1
  | n, m, .scr _, e, h1, h2, h => by cases n <;> cases h1
  | n, m, .exc _ _, e, h1, h2, h => by cases n <;> cases h1
  | n, m, .cls _, e, h1, h2, h => by cases n <;> cases h1
theorem eqDs_eq : ∀ (n m : Nat) (d e : List D), (∀ x ∈ d, oD n x = true) → (∀ x ∈ e, oD m x = true) → eqDs d e = true → d = e
  | n, m, [], [], _, _, _ => rfl
  | n, m, [], _ :: _, _, _, h => by cases h
  | n, m, _ :: _, [], _, _, h => by cases h
  | n, m, d :: ds, e :: es, h1, h2, h => by
    simp only [eqDs, Bool.and_eq_true] at h
    rw [eqD_eq n m d e (h1 d List.mem_cons_self) (h2 e List.mem_cons_self) h.1, eqDs_eq n m ds es (fun x hx => h1 x (List.mem_cons_of_mem _ hx)) (fun x hx => h2 x (List.mem_cons_of_mem _ hx)) h.2]
end
theorem cmpD_same (d : D) : cmpD d d = .eq := by
  have := cmpD_swap d d
  cases h : cmpD d d <;> rw [h] at this <;> first | rfl | cases this
/-- equality of two tuples' parts, place by place -/
theorem eqDs_range : ∀ (ds es : List D), ((List.range (min ds.length es.length)).all (fun j => eqD (ds.getD j .non) (es.getD j .non)) && ds.length == es.length) = eqDs ds es
  | [], [] => rfl
  | [], _ :: _ => by simp [eqDs]
  | _ :: _, [] => by simp [eqDs]
  | d :: ds, e :: es => by
    have ih := eqDs_range ds es
    simp only [List.length_cons, Nat.succ_min_succ, List.range_succ_eq_map, List.all_cons, List.all_map, eqDs]
    rw [← ih]
    simp only [List.getD_cons_zero, Function.comp_def, List.getD_cons_succ]
    have : (ds.length + 1 == es.length + 1) = (ds.length == es.length) := by
      rw [Bool.eq_iff_iff]; simp
    rw [this, Bool.and_assoc]
section
variable {A : Around} {s : Shared}
open PySem.SeqAt
theorem OV.eqAt : ∀ (n : Nat) {A : Around} {v u : Value} {d e : D}, OV s.heap v d → OV s.heap u e → oD n d = true → A.units + n < cLine → EqAt A s v u (eqD d e)
  | n, A, _, _, _, _, .int i t, .int j u, _, _ => EqAt.int_int i t j u
  | n, A, _, _, _, _, .int i t, .str j u, _, _ => EqAt.int_str i t j u
  | n, A, _, _, _, _, .str i t, .int j u, _, _ => EqAt.str_int i t j u
  | n, A, _, _, _, _, .str i t, .str j u, _, _ => EqAt.str_str i t j u
  | n, A, _, _, _, _, .int i t, .tup h _, _, hu => EqAt.int_tuple i t h (by omega)
  | n, A, _, _, _, _, .str i t, .tup h _, _, hu => EqAt.str_tuple i t h (by omega)
  | n, A, _, _, _, _, .tup h _, .int i t, _, hu => EqAt.tuple_int i t h (by omega)
  | n, A, _, _, _, _, .tup h _, .str i t, _, hu => EqAt.tuple_str i t h (by omega)
  | 0, A, _, _, _, _, .tup h r, .tup h2 r2, o, hu => by cases o
  | n + 1, A, _, _, _, _, .tup (a := a) (its := its) (ds := ds) h r, .tup (a := b) (its := its2) (ds := es) h2 r2, o, hu => by
    have o' : ∀ x ∈ ds, oD n x = true := by simpa [oD] using o
    by_cases e : a = b
    · subst e
      have q := Array.toList_inj.mpr (isTup_uniq h h2)
      simp only at q
      subst q
      have q := OVs.fn r r2
      subst q
      rw [eqO_refl (n + 1) _ o]
      exact EqAt.same _
    · have := RcAt.tuples (A := A) (s := s) (e := fun j => eqD (ds.getD j .non) (es.getD j .non)) h h2 (by omega) (fun j h1 h2 => by
        simp only [List.getElem_toArray]
        simp only [List.size_toArray] at h1 h2
        have l1 := r.len
        have l2 := r2.len
        have a1 : its[j]? = some its[j] := List.getElem?_eq_getElem h1
        have a2 : its2[j]? = some its2[j] := List.getElem?_eq_getElem h2
        have b1 : ds[j]? = some (ds.getD j .non) := by
          rw [List.getD_eq_getElem?_getD, List.getElem?_eq_getElem (by omega)]; rfl
        have b2 : es[j]? = some (es.getD j .non) := by
          rw [List.getD_eq_getElem?_getD, List.getElem?_eq_getElem (by omega)]; rfl
        exact OV.eqAt n (r.get a1 b1) (r2.get a2 b2) (o' _ (List.mem_of_getElem? b1)) (by show A.units + 1 + n < cLine; omega))
      simp only [List.size_toArray, r.len, r2.len, eqDs_range] at this
      exact EqAt.of_refs e this
end
theorem then_eq {a b : Ordering} (h : a = .eq) : a.then b = b := by rw [h]; rfl
theorem then_ne {a b : Ordering} (h : a ≠ .eq) : a.then b = a := by cases a <;> first | rfl | exact absurd rfl h
theorem ne_cmp {n m : Nat} {d e : D} (h1 : oD n d = true) (h2 : oD m e = true) (h : eqD d e = false) : cmpD d e ≠ .eq := fun z => by
  have := cmpD_eq n m d e h1 h2 z
  subst this
  rw [eqO_refl n d h1] at h
  cases h
section
variable {s : Shared}
open PySem.SeqAt
mutual
theorem OV.ltAt : ∀ (n : Nat) {A : Around} {v u : Value} {d e : D}, OV s.heap v d → OV s.heap u e → oD n d = true → oD n e = true → A.units + n < cLine → cOk d e = true → LtAt A s v u (ltB d e)
  | n, A, _, _, _, _, .int i t, .int j u, _, _, _, _ => by
    have : ltB (.int i) (.int j) = decide (i < j) := by
      unfold ltB; simp only [cmpD, c3]; by_cases h : i < j <;> by_cases h2 : j < i <;> simp [h, h2]
    rw [this]; exact LtAt.int
  | n, A, _, _, _, _, .str i t, .str j u, _, _, _, _ => by
    have : ltB (.str i) (.str j) = decide (i.cps.toList < j.cps.toList) := by
      unfold ltB; simp only [cmpD, c3]; by_cases h : i.cps.toList < j.cps.toList <;> by_cases h2 : j.cps.toList < i.cps.toList <;> simp [h, h2]
    rw [this]; exact LtAt.str
  | n, A, _, _, _, _, .int i t, .str j u, _, _, _, c => by cases c
  | n, A, _, _, _, _, .str i t, .int j u, _, _, _, c => by cases c
  | n, A, _, _, _, _, .int i t, .tup h _, _, _, _, c => by cases c
  | n, A, _, _, _, _, .str i t, .tup h _, _, _, _, c => by cases c
  | n, A, _, _, _, _, .tup h _, .int i t, _, _, _, c => by cases c
  | n, A, _, _, _, _, .tup h _, .str i t, _, _, _, c => by cases c
  | 0, A, _, _, _, _, .tup h r, .tup h2 r2, o, _, _, _ => by cases o
  | n + 1, A, _, _, _, _, .tup h r, .tup h2 r2, o, o2, hu, c => by
    have : ∀ ds es, ltB (.tup ds) (.tup es) = (cmpDs ds es == .lt) := fun ds es => by unfold ltB; simp only [cmpD]
    rw [this]
    exact LtAt.tuples h h2 (by omega) (OVs.lex n r r2 (by simpa [oD] using o) (by simpa [oD] using o2) (by show A.units + 1 + n < cLine; omega) (by simpa [cOk] using c))
theorem OVs.lex : ∀ (n : Nat) {A : Around} {v u : List Value} {d e : List D}, OVs s.heap v d → OVs s.heap u e → (∀ x ∈ d, oD n x = true) → (∀ x ∈ e, oD n x = true) → A.units + n < cLine → cOks d e = true → Lex A s v u (cmpDs d e == .lt)
  | n, A, _, _, _, _, .nil, .nil, _, _, _, _ => .nn
  | n, A, _, _, _, _, .nil, .cons _ _, _, _, _, _ => .nc
  | n, A, _, _, _, _, .cons _ _, .nil, _, _, _, _ => .cn
  | n, A, _, _, _, _, .cons (d := d) (ds := ds) x xs, .cons (d := e) (ds := es) y ys, o1, o2, hu, c => by
    have q := OV.eqAt n x y (o1 _ List.mem_cons_self) hu
    have oa := o1 d List.mem_cons_self
    have ob := o2 e List.mem_cons_self
    simp only [cmpDs]
    cases z : eqD d e with
    | true =>
      rw [z] at q
      have w := eqD_eq n n d e oa ob z
      rw [then_eq (by rw [w]; exact cmpD_same e)]
      simp only [cOks, z, if_true] at c
      exact .eq q (OVs.lex n xs ys (fun x hx => o1 x (List.mem_cons_of_mem _ hx)) (fun x hx => o2 x (List.mem_cons_of_mem _ hx)) hu c)
    | false =>
      rw [z] at q
      rw [then_ne (ne_cmp oa ob z)]
      simp only [cOks, z, Bool.false_eq_true, if_false] at c
      exact .ne q (OV.ltAt n x y oa ob hu c)
end
end
end VS

namespace VS
open PySem L2 PyProof.Rows
def isI : D → Bool
  | .int _ => true
  | _ => false
def isS : D → Bool
  | .str _ => true
  | _ => false
def isT : D → Bool
  | .tup _ => true
  | _ => false
def hdD : D → D
  | .tup (d :: _) => d
  | _ => .non
/-- a list that may be sorted -/
def sortOk (ds : List D) : Bool :=
  (ds.all isI || ds.all isS || (ds.all isT && (ds.all (fun d => isI (hdD d)) || ds.all (fun d => isS (hdD d)) || ds.all (fun d => isT (hdD d))))) && ds.all (oD 60) && ds.all fun d => ds.all fun e => cOk d e
section
variable {prog : Program} {w : World} {A : Around} {s : Shared} {b : Bool}
open PySem.SeqAt
theorem ltB_int (i j : Int) : ltB (.int i) (.int j) = decide (i < j) := by
  unfold ltB; simp only [cmpD, c3]; by_cases h : i < j <;> by_cases h2 : j < i <;> simp [h, h2]
theorem ltB_str (i j : Str) : ltB (.str i) (.str j) = decide (i.cps.toList < j.cps.toList) := by
  unfold ltB; simp only [cmpD, c3]; by_cases h : i.cps.toList < j.cps.toList <;> by_cases h2 : j.cps.toList < i.cps.toList <;> simp [h, h2]
/-- one comparison of a sort by tuples -/
theorem kat_of : ∀ (n : Nat) {v u : List Value} {d e : List D} {i : Nat} {fin : Bool} {c : Bool}, OVs s.heap v d → OVs s.heap u e → (∀ x ∈ d, oD n x = true) → (∀ x ∈ e, oD n x = true) → A.units + n < cLine → cOks d e = true →
    (b = true → i = 0 → ∀ x ∈ d.head?, ∀ y ∈ e.head?, (isI x = true ∧ isI y = true) ∨ (isS x = true ∧ isS y = true)) → fin = decide (v.length < u.length) → c = (cmpDs d e == .lt) →
    PySem.W.KatLex prog w A b fin (fun r s' => s' = s ∧ r = c) (v.zip u) i s
  | n, _, _, _, _, i, fin, c, .nil, .nil, _, _, _, _, _, hf, hc => PySem.W.kat_nil ⟨rfl, by rw [hf, hc]; rfl⟩
  | n, _, _, _, _, i, fin, c, .nil, .cons _ _, _, _, _, _, _, hf, hc => PySem.W.kat_nil ⟨rfl, by rw [hf, hc]; simp [cmpDs]⟩
  | n, _, _, _, _, i, fin, c, .cons _ _, .nil, _, _, _, _, _, hf, hc => PySem.W.kat_nil ⟨rfl, by rw [hf, hc]; simp [cmpDs]⟩
  | n, _, _, _, _, i, fin, c, .cons (v := v) (d := d) (ds := ds) x xs, .cons (v := u) (d := e) (ds := es) y ys, o1, o2, hu, k, hk, hf, hc => by
    have oa := o1 d List.mem_cons_self
    have ob := o2 e List.mem_cons_self
    refine PySem.W.kat_cons (OV.eqAt n x y oa hu prog w _ _ ?_)
    cases z : eqD d e with
    | true =>
      have wq := eqD_eq n n d e oa ob z
      refine PySem.W.kat_yes (kat_of n (c := c) xs ys (fun x hx => o1 x (List.mem_cons_of_mem _ hx)) (fun x hx => o2 x (List.mem_cons_of_mem _ hx)) hu (by simpa only [cOks, z, if_true] using k) (fun _ h => absurd h (Nat.succ_ne_zero i)) (by rw [hf]; simp) ?_)
      rw [hc]
      simp only [cmpDs]
      rw [then_eq (by rw [wq]; exact cmpD_same e)]
    | false =>
      have kk : cOk d e = true := by simpa only [cOks, z, Bool.false_eq_true, if_false] using k
      have hc' : c = ltB d e := by
        rw [hc]
        simp only [cmpDs]
        rw [then_ne (ne_cmp oa ob z)]
        rfl
      refine PySem.W.kat_no ?_
      cases q : b && i == 0 with
      | false => exact PySem.W.kat_one _ _ (OV.ltAt n x y oa ob hu kk prog w _ _ (show s = s ∧ ltB d e = c from ⟨rfl, hc'.symm⟩))
      | true =>
        simp only [Bool.and_eq_true, beq_iff_eq] at q
        rcases hk q.1 q.2 d rfl e rfl with ⟨h1, h2⟩ | ⟨h1, h2⟩
        · cases x with
          | int i t => cases y with
            | int j t => exact oneLt_int ⟨rfl, by rw [hc', ltB_int]⟩
            | str _ _ => cases h2
            | tup _ _ => cases h2
          | str _ _ => cases h1
          | tup _ _ => cases h1
        · cases x with
          | str i t => cases y with
            | str j t => exact oneLt_str ⟨rfl, by rw [hc', ltB_str]⟩
            | int _ _ => cases h2
            | tup _ _ => cases h2
          | int _ _ => cases h1
          | tup _ _ => cases h1
theorem OVs.mem {h : Heap} {k : Value → D} : ∀ {vs : List Value}, (∀ v ∈ vs, OV h v (k v)) → OVs h vs (vs.map k)
  | [], _ => .nil
  | v :: vs, H => .cons (H v List.mem_cons_self) (OVs.mem fun u hu => H u (List.mem_cons_of_mem _ hu))
/-- tuples: their first parts -/
theorem firsts {h : Heap} {k : Value → D} : ∀ {vs : List Value}, (∀ v ∈ vs, OV h v (k v)) → (∀ v ∈ vs, isT (k v) = true ∧ hdD (k v) ≠ .non) → ∃ fs : List Value, PySem.W.KatTups h vs fs ∧ fs.length = vs.length ∧ ∀ f ∈ fs, ∃ v ∈ vs, OV h f (hdD (k v))
  | [], _, _ => ⟨[], .nil, rfl, fun _ h => by cases h⟩
  | v :: vs, H, T => by
    obtain ⟨fs, h1, h2, h3⟩ := firsts (fun u hu => H u (List.mem_cons_of_mem _ hu)) (fun u hu => T u (List.mem_cons_of_mem _ hu))
    have hv := H v List.mem_cons_self
    obtain ⟨t1, t2⟩ := T v List.mem_cons_self
    generalize e : k v = d at hv t1 t2
    cases hv with
    | int _ _ => cases t1
    | str _ _ => cases t1
    | tup hi r =>
      cases r with
      | nil => exact absurd rfl t2
      | cons x xs =>
        obtain ⟨o, ho, hc, n, hd⟩ := hi
        refine ⟨_ :: fs, PySem.W.KatTups.cons ho hc hd rfl h1, by simp [h2], fun f hf => ?_⟩
        rcases List.mem_cons.mp hf with q | q
        · subst q
          exact ⟨_, List.mem_cons_self, by rw [e]; exact x⟩
        · obtain ⟨u, hu, ou⟩ := h3 f q
          exact ⟨u, List.mem_cons_of_mem _ hu, ou⟩
theorem looks_int {M : Model} {h : Heap} {v : Value} {d : D} (o : OV h v d) (i : isI d = true) : PySem.W.Looks M h (typeOf v) (.type "int") := by
  cases o with
  | int _ _ => exact PySem.W.Looks.now
  | str _ _ => cases i
  | tup _ _ => cases i
theorem looks_str {M : Model} {h : Heap} {v : Value} {d : D} (o : OV h v d) (i : isS d = true) : PySem.W.Looks M h (typeOf v) (.type "str") := by
  cases o with
  | str _ _ => exact PySem.W.Looks.now
  | int _ _ => cases i
  | tup _ _ => cases i
theorem looks_tup {M : Model} {h : Heap} {v : Value} {d : D} (o : OV h v d) (i : isT d = true) : PySem.W.Looks M h (typeOf v) (.type "tuple") := by
  cases o with
  | tup hi _ =>
    obtain ⟨o, ho, hc, _⟩ := hi
    rw [← hc]
    exact (PySem.W.Looks.ld ho).andThen .now
  | int _ _ => cases i
  | str _ _ => cases i
theorem isI_ne {d : D} (h : isI d = true) : d ≠ .non := fun z => by rw [z] at h; cases h
theorem isS_ne {d : D} (h : isS d = true) : d ≠ .non := fun z => by rw [z] at h; cases h
theorem isT_ne {d : D} (h : isT d = true) : d ≠ .non := fun z => by rw [z] at h; cases h
/-- tuples compared -/
theorem tup_cmp {vs : List Value} {k : Value → D} (hu : A.units + 60 < cLine) (H : ∀ v ∈ vs, OV s.heap v (k v)) (T : ∀ v ∈ vs, isT (k v) = true) (O : ∀ v ∈ vs, oD 60 (k v) = true) (C : ∀ v ∈ vs, ∀ u ∈ vs, cOk (k v) (k u) = true)
    (B : b = true → (∀ v ∈ vs, isI (hdD (k v)) = true) ∨ ∀ v ∈ vs, isS (hdD (k v)) = true) : SrtO.Cmp prog w A s (tuples' b) (fun p => p.1 ∈ vs) (SrtO.lt2 fun v u => ltB (k v) (k u)) := by
  intro p q hm hm'
  show wpAny (model prog w) A (keyLt' (tuples' b) p.1 q.1) (fun r s' => s' = s ∧ r = ltB (k p.1) (k q.1)) (fun _ _ => False) s
  generalize p.1 = v at hm ⊢
  generalize q.1 = u at hm' ⊢
  have h1 := H v hm
  have h2 := H u hm'
  have o1 := O v hm
  have o2 := O u hm'
  have t1 := T v hm
  have t2 := T u hm'
  have c := C v hm u hm'
  have bb : b = true → (isI (hdD (k v)) = true ∧ isI (hdD (k u)) = true) ∨ (isS (hdD (k v)) = true ∧ isS (hdD (k u)) = true) := fun hb => by
    rcases B hb with z | z
    · exact .inl ⟨z v hm, z u hm'⟩
    · exact .inr ⟨z v hm, z u hm'⟩
  generalize k v = d at h1 o1 t1 c bb ⊢
  generalize k u = e at h2 o2 t2 c bb ⊢
  cases h1 with
  | int _ _ => cases t1
  | str _ _ => cases t1
  | tup hi r =>
    cases h2 with
    | int _ _ => cases t2
    | str _ _ => cases t2
    | tup hi2 r2 =>
      obtain ⟨o, ho, hc, n, hd⟩ := hi
      obtain ⟨o', ho', hc', n', hd'⟩ := hi2
      refine PySem.W.kat_lt ho hd ho' hd' ?_
      refine kat_of 59 r r2 (by simpa [oD] using o1) (by simpa [oD] using o2) (by omega) (by simpa [cOk] using c) (fun hb _ x hx y hy => ?_) (by simp) (by unfold ltB; simp only [cmpD])
      have := bb hb
      cases r with
      | nil => cases hx
      | cons _ _ =>
        cases r2 with
        | nil => cases hy
        | cons _ _ =>
          cases hx
          cases hy
          exact this
theorem sortable {a : Addr} {vs : List Value} {k : Value → D} (hu : A.units + 60 < cLine) (h2 : 2 ≤ vs.length) (H : ∀ v ∈ vs, OV s.heap v (k v)) (S : sortOk (vs.map k) = true) (ha : ∀ o, s.heap.get? a = some o → o.cls ≠ .type "tuple") : SrtO.SortableO prog w A s a vs fun v u => ltB (k v) (k u) := by
  intro h' keep
  have H' : ∀ v ∈ vs, OV h' v (k v) := fun v hv => (H v hv).keeps keep ha
  unfold sortOk at S
  simp only [Bool.and_eq_true, Bool.or_eq_true, List.all_eq_true, List.mem_map, forall_exists_index, and_imp, forall_apply_eq_imp_iff₂] at S
  obtain ⟨⟨K, O⟩, C⟩ := S
  have ne : (Value.type "int" != Value.type "tuple") = true := by first | decide +kernel | rfl | decide
  have ne2 : (Value.type "str" != Value.type "tuple") = true := by first | decide +kernel | rfl | decide
  have ne3 : (Value.type "tuple" != Value.type "tuple") = false := by first | decide +kernel | rfl | decide
  rcases K with (K | K) | ⟨K, F⟩
  · refine ⟨oneType', fun Q E hq => PySem.W.kas_kind (T := .type "int") h2 (fun v hv => looks_int (H' v hv) (K v hv)) ne (by rfl) hq, fun p q hm hm' => ?_⟩
    show wpAny (model prog w) A (keyLt' oneType' p.1 q.1) (fun r s' => s' = _ ∧ r = ltB (k p.1) (k q.1)) (fun _ _ => False) _
    have h1 := H' _ hm
    have h2 := H' _ hm'
    have k1 := K _ hm
    have k2 := K _ hm'
    generalize p.1 = v at h1 k1 ⊢
    generalize q.1 = u at h2 k2 ⊢
    generalize k v = d at h1 k1 ⊢
    generalize k u = e at h2 k2 ⊢
    cases h1 with
    | int i t => cases h2 with
      | int j t => rw [keyLt'_oneType]; exact oneLt_int ⟨rfl, by rw [ltB_int]⟩
      | str _ _ => cases k2
      | tup _ _ => cases k2
    | str _ _ => cases k1
    | tup _ _ => cases k1
  · refine ⟨oneType', fun Q E hq => PySem.W.kas_kind (T := .type "str") h2 (fun v hv => looks_str (H' v hv) (K v hv)) ne2 (by rfl) hq, fun p q hm hm' => ?_⟩
    show wpAny (model prog w) A (keyLt' oneType' p.1 q.1) (fun r s' => s' = _ ∧ r = ltB (k p.1) (k q.1)) (fun _ _ => False) _
    have h1 := H' _ hm
    have h2 := H' _ hm'
    have k1 := K _ hm
    have k2 := K _ hm'
    generalize p.1 = v at h1 k1 ⊢
    generalize q.1 = u at h2 k2 ⊢
    generalize k v = d at h1 k1 ⊢
    generalize k u = e at h2 k2 ⊢
    cases h1 with
    | str i t => cases h2 with
      | str j t => rw [keyLt'_oneType]; exact oneLt_str ⟨rfl, by rw [ltB_str]⟩
      | int _ _ => cases k2
      | tup _ _ => cases k2
    | int _ _ => cases k1
    | tup _ _ => cases k1
  · rcases F with (F | F) | F
    · obtain ⟨fs, f1, f2, f3⟩ := firsts H' fun v hv => ⟨K v hv, isI_ne (F v hv)⟩
      refine ⟨tuples' true, fun Q E hq => PySem.W.kat_kind (T := .type "int") f1 (by omega) (fun f hf => ?_) (by rfl) (by rw [ne]; exact hq), tup_cmp (s := { s with heap := h' }) hu H' K O C fun _ => .inl F⟩
      obtain ⟨v, hv, o⟩ := f3 f hf
      exact looks_int o (F v hv)
    · obtain ⟨fs, f1, f2, f3⟩ := firsts H' fun v hv => ⟨K v hv, isS_ne (F v hv)⟩
      refine ⟨tuples' true, fun Q E hq => PySem.W.kat_kind (T := .type "str") f1 (by omega) (fun f hf => ?_) (by rfl) (by rw [ne2]; exact hq), tup_cmp (s := { s with heap := h' }) hu H' K O C fun _ => .inr F⟩
      obtain ⟨v, hv, o⟩ := f3 f hf
      exact looks_str o (F v hv)
    · obtain ⟨fs, f1, f2, f3⟩ := firsts H' fun v hv => ⟨K v hv, isT_ne (F v hv)⟩
      refine ⟨tuples' false, fun Q E hq => PySem.W.kat_kind (T := .type "tuple") f1 (by omega) (fun f hf => ?_) (by rfl) (by rw [ne3]; exact hq), tup_cmp (s := { s with heap := h' }) hu H' K O C fun z => by cases z⟩
      obtain ⟨v, hv, o⟩ := f3 f hf
      exact looks_tup o (F v hv)
end
end VS

namespace VS
open PySem L2 PySem.Spec PyProof.Rows
/-! ### sorted(xs) -/
mutual
inductive OH (H : Hp) : V → D → Prop
  | int (i : Int) : OH H (.int i) (.int i)
  | str (x : Str) : OH H (.str x) (.str x)
  | tup {a : Addr} {vs : List V} {ds : List D} : H a = some (.tup vs) → OHs H vs ds → OH H (.ref a) (.tup ds)
inductive OHs (H : Hp) : List V → List D → Prop
  | nil : OHs H [] []
  | cons {v : V} {vs : List V} {d : D} {ds : List D} : OH H v d → OHs H vs ds → OHs H (v :: vs) (d :: ds)
end
mutual
theorem OH.fn {H : Hp} : ∀ {v : V} {d e : D}, OH H v d → OH H v e → d = e
  | _, _, _, .int _, .int _ => rfl
  | _, _, _, .str _, .str _ => rfl
  | _, _, _, .tup h1 r1, .tup h2 r2 => by
    rw [h1] at h2
    cases h2
    rw [OHs.fn r1 r2]
theorem OHs.fn {H : Hp} : ∀ {v : List V} {d e : List D}, OHs H v d → OHs H v e → d = e
  | _, _, _, .nil, .nil => rfl
  | _, _, _, .cons a b, .cons c d => by rw [OH.fn a c, OHs.fn b d]
end
section
variable {X : Cx} {pins : List (Addr × Obj)} {σ : L2.St} {H : Hp} {s : Shared}
mutual
theorem OH.ov (I : L2.Inv X pins σ H s) : ∀ {v : V} {u : Value} {d : D}, OH H v d → RelV v u → OV s.heap u d
  | _, _, _, .int i, ⟨t, e⟩ => by rw [e]; exact .int i t
  | _, _, _, .str x, ⟨t, e⟩ => by rw [e]; exact .str x t
  | _, _, _, .tup h r, e => by
    obtain ⟨_, its, r2, o, ho, hc, n, hd⟩ := I.hok _ _ h
    rw [show _ = Value.ref _ from e]
    exact .tup ⟨o, ho, hc, n, hd⟩ (OHs.ov I r r2)
theorem OHs.ov (I : L2.Inv X pins σ H s) : ∀ {v : List V} {u : List Value} {d : List D}, OHs H v d → Vals v u → OVs s.heap u d
  | _, _, _, .nil, .nil => .nil
  | _, _, _, .cons a b, .cons c d => .cons (OH.ov I a c) (OHs.ov I b d)
end
end
open Classical in
noncomputable def ovKey (h : Heap) (v : Value) : D := if e : ∃ d, OV h v d then Classical.choose e else .non
theorem ovKey_of {h : Heap} {v : Value} {d : D} (o : OV h v d) : ovKey h v = d := by
  have e : ∃ d, OV h v d := ⟨d, o⟩
  unfold ovKey
  rw [dif_pos e]
  exact (Classical.choose_spec e).fn o
theorem ovKey_all {h : Heap} : ∀ {vs : List Value} {ds : List D}, OVs h vs ds → vs.map (ovKey h) = ds ∧ ∀ v ∈ vs, OV h v (ovKey h v)
  | _, _, .nil => ⟨rfl, fun _ h => by cases h⟩
  | _, _, .cons a b => by
    obtain ⟨e, f⟩ := ovKey_all b
    refine ⟨by rw [List.map_cons, ovKey_of a, e], fun v hv => ?_⟩
    rcases List.mem_cons.mp hv with q | q
    · rw [q, ovKey_of a]; exact a
    · exact f v q
/-- the values go along with a rearrangement -/
theorem vals_perm {us ws : List Value} (p : us.Perm ws) : ∀ {xs : List V}, Vals xs us → ∃ ys, Vals ys ws ∧ ys.Perm xs := by
  induction p with
  | nil => intro xs h; cases h; exact ⟨[], .nil, List.Perm.refl _⟩
  | cons x _ ih =>
    intro xs h
    cases h with
    | cons a b =>
      obtain ⟨ys, h1, h2⟩ := ih b
      exact ⟨_ :: ys, .cons a h1, h2.cons _⟩
  | swap x y l =>
    intro xs h
    cases h with
    | cons a b => cases b with
      | cons c d => exact ⟨_ :: _ :: _, .cons c (.cons a d), List.Perm.swap _ _ _⟩
  | trans _ _ ih1 ih2 =>
    intro xs h
    obtain ⟨ys, h1, h2⟩ := ih1 h
    obtain ⟨zs, h3, h4⟩ := ih2 h1
    exact ⟨zs, h3, h4.trans h2⟩
theorem OHs.mem {H : Hp} : ∀ {xs : List V} {ds : List D}, OHs H xs ds → ∀ x ∈ xs, ∃ d ∈ ds, OH H x d
  | _, _, .nil, x, h => by cases h
  | _, _, .cons a b, x, h => by
    rcases List.mem_cons.mp h with q | q
    · rw [q]; exact ⟨_, List.mem_cons_self, a⟩
    · obtain ⟨d, h1, h2⟩ := OHs.mem b x q
      exact ⟨d, List.mem_cons_of_mem _ h1, h2⟩
def rSortD (K : PySem.W.Frag) : List V → Hp → VK → Prop := fun vs H Q => ∃ (a : Addr) (xs : List V) (ds : List D), vs = [V.ref a] ∧ SqL K H a xs ∧ OHs H xs ds ∧ sortOk ds = true ∧
  ∀ ys p, OHs H ys (isort ds) → ys.Perm xs → H p = none → Q (.ref p) (upd H p (.lst ys))
theorem sortOk_oD {ds : List D} (h : sortOk ds = true) : ∀ d ∈ ds, oD 60 d = true := by
  unfold sortOk at h
  simp only [Bool.and_eq_true, List.all_eq_true] at h
  exact h.1.2
section
variable {X : Cx} {pins : List (Addr × Obj)} {σ : L2.St} {H : Hp} {s : Shared}
theorem ohs_of (I : L2.Inv X pins σ H s) : ∀ {ys : List V} {out : List Value}, Vals ys out → (∀ y ∈ ys, ∃ d, OH H y d) → OHs H ys (out.map (ovKey s.heap))
  | _, _, .nil, _ => .nil
  | _, _, .cons a b, h => by
    obtain ⟨d, hd⟩ := h _ List.mem_cons_self
    rw [List.map_cons, ovKey_of (hd.ov I a)]
    exact .cons hd (ohs_of I b fun y hy => h y (List.mem_cons_of_mem _ hy))
theorem cr_sortedD (hu : X.A.units + 62 < cLine) : CallR X (.builtin "sorted") (rSortD X.K) := by
  intro pins s σ H vs us Q I r h
  obtain ⟨a, xs, ds, rfl, hs, ho, hk, q⟩ := h
  obtain ⟨its, rv, hl, hz⟩ := I.list hs
  rw [Vals.ref1 r]
  have hv := ho.ov I rv
  obtain ⟨e1, e2⟩ := ovKey_all hv
  refine SrtO.sorted_ord (swoK (ovKey s.heap)) hl.isList (by rw [← rv.length]; exact hz) (fun h2 h₁ a' ha kk => ?_) fun out h1 h2 => ?_
  · refine sortable (s := { s with heap := h₁ }) (by show X.A.units + 1 + 1 + 60 < cLine; omega) h2 (fun v hv => ?_) (by rw [e1]; exact hk) fun o e => ?_
    · have := e2 v hv
      exact this.keeps (a := a') (fun b o _ e => (kk b o e).2) fun o e => absurd rfl (kk a' o e).1
    · have e' : some o = some (seqObj "list" its.toArray 0) := e.symm.trans ha
      cases e'
      intro c
      exact absurd (Value.type.inj c) (by decide)
  · obtain ⟨ys, y1, y2⟩ := vals_perm h2.perm.symm rv
    have hm : ∀ y ∈ ys, ∃ d, OH H y d := fun y hy => by
      obtain ⟨d, _, hd⟩ := ho.mem y (y2.mem_iff.mp hy)
      exact ⟨d, hd⟩
    have oo := ohs_of I y1 hm
    have es : out.map (ovKey s.heap) = isort ds := by
      refine isort_uniq (n := 60) (sortOk_oD hk) (SrtO.srtd_map h1) ?_
      have := h2.perm.map (ovKey s.heap)
      rw [e1] at this
      exact this
    rw [es] at oo
    obtain ⟨ep, he'⟩ := PyProof.Rows.sortedAll_at s.heap its out.toArray
    refine ⟨.ref _, upd H (s.heap.objs.size + 1) (.lst ys), I.laid (t' := s.toks) (fun _ _ => PyProof.Rows.sortedAll_old) (Nat.le_succ _) ⟨?_, out, ep, y1, he'⟩, rfl, q _ _ oo y2 (I.hok.fresh (Nat.le_succ _))⟩
    rw [y2.length_eq]
    exact hz
end
section
variable {Γ : Gm} {O : Addr → Prop} {H : Hp}
mutual
theorem Rep.oh : ∀ {v : V} {d : D} (n : Nat), Rep Γ O H v d → oD n d = true → OH H v d
  | _, _, n, .int i, _ => .int i
  | _, _, n, .str x _, _ => .str x
  | _, _, 0, .tup h r, o => by cases o
  | _, _, n + 1, .tup h r, o => .tup h (Reps.oh n r (by simpa [oD] using o))
  | _, _, n, .non, o => by cases n <;> cases o
  | _, _, n, .bl _, o => by cases n <;> cases o
  | _, _, n, .ty _, o => by cases n <;> cases o
  | _, _, n, .ktup _ _, o => by cases n <;> cases o
  | _, _, n, .scr _, o => by cases n <;> cases o
  | _, _, n, .lst _ _ _, o => by cases n <;> cases o
  | _, _, n, .dK _ _ _ _, o => by cases n <;> cases o
  | _, _, n, .dT _ _ _ _, o => by cases n <;> cases o
  | _, _, n, .obj _ _ _ _, o => by cases n <;> cases o
  | _, _, n, .cls _, o => by cases n <;> cases o
  | _, _, n, .exn _, o => by cases n <;> cases o
  | _, _, n, .exd _ _ _ _, o => by cases n <;> cases o
theorem Reps.oh : ∀ {v : List V} {d : List D} (n : Nat), Reps Γ O H v d → (∀ x ∈ d, oD n x = true) → OHs H v d
  | _, _, n, .nil, _ => .nil
  | _, _, n, .cons a b, h => .cons (Rep.oh n a (h _ List.mem_cons_self)) (Reps.oh n b fun x hx => h x (List.mem_cons_of_mem _ hx))
end
theorem Reps.mem : ∀ {v : List V} {d : List D}, Reps Γ O H v d → ∀ x ∈ v, ∃ e ∈ d, Rep Γ O H x e
  | _, _, .nil, x, h => by cases h
  | _, _, .cons a b, x, h => by
    rcases List.mem_cons.mp h with q | q
    · rw [q]; exact ⟨_, List.mem_cons_self, a⟩
    · obtain ⟨d, h1, h2⟩ := Reps.mem b x q
      exact ⟨d, List.mem_cons_of_mem _ h1, h2⟩
theorem OHs.reps : ∀ {ys : List V} {es : List D}, OHs H ys es → (∀ y e, y ∈ ys → OH H y e → Rep Γ O H y e) → Reps Γ O H ys es
  | _, _, .nil, _ => .nil
  | _, _, .cons a b, h => .cons (h _ _ List.mem_cons_self a) (OHs.reps b fun y e hy => h y e (List.mem_cons_of_mem _ hy))
def pSorted : List D → Option Slot
  | [.lst ds] => if sortOk ds = true then some (.lst (isort ds), true) else none
  | _ => none
theorem prSorted : PrimR Γ (rSortD Γ.K) pSorted := by
  intro O H vs ds s Q m b e k
  match ds, e with
  | [.lst xs], e =>
    obtain ⟨v, rfl, h1⟩ := bors1 b
    obtain ⟨a, us, rfl, ha, ra⟩ := h1.lst_inv
    have e' : (if sortOk xs = true then some (D.lst (isort xs), true) else none) = some s := e
    by_cases q : sortOk xs = true
    · rw [if_pos q] at e'
      cases e'
      refine ⟨a, us, xs, rfl, SqL.of ha, ra.oh 60 (sortOk_oD q), q, fun ys p oo pm hp => ?_⟩
      refine new_lst m (oo.reps fun y e hy oe => ?_) k p hp
      obtain ⟨d, hd, rd⟩ := ra.mem y (pm.mem_iff.mp hy)
      have := (rd.oh 60 (sortOk_oD q d hd)).fn oe
      rw [← this]
      exact rd
    · rw [if_neg q] at e'
      cases e'
end
end VS

namespace VS
open PySem L2 PySem.Spec PyProof.Rows
/-! ### {k: v, ..} -/
def cPrs : List (CExp × CExp) → Sl → Res (List (D × D))
  | [], ρ => .ok [] ρ
  | (k, v) :: r, ρ => (k ρ).bind fun s1 ρ1 => (v ρ1).bind fun s2 ρ2 => (cPrs r ρ2).bind fun ps ρ3 => .ok ((s1.1, s2.1) :: ps) ρ3
def prKeys : List (D × D) → Option (List (Key × D))
  | [] => some []
  | (k, v) :: r => match dkey k, prKeys r with
    | some k, some kvs => some ((k, v) :: kvs)
    | _, _ => none
def mergeD (kvs more : List (Key × D)) : List (Key × D) := more.foldl (fun acc kv => dPut acc kv.1 kv.2) kvs
def cDisp (ms : List (CExp × CExp)) : CExp := fun ρ => (cPrs ms ρ).bind fun ps ρ' => match prKeys ps with
  | some kvs => if kvs.length ≤ 15 then .ok (.dK (mergeD [] kvs), true) ρ' else .stuck
  | none => .stuck
section
variable {Γ : Gm} {W : WX} {Z : Addr → Prop} {σ : L2.St} {ρ : Sl} {H : Hp}
inductive SPs (Γ : Gm) (W : WX) : List (TE × TE) → List (CExp × CExp) → Prop
  | nil : SPs Γ W [] []
  | cons {tk tv : TE} {mk mv : CExp} {ts : List (TE × TE)} {ms : List (CExp × CExp)} : SE Γ W tk mk → SE Γ W tv mv → SPs Γ W ts ms → SPs Γ W ((tk, tv) :: ts) ((mk, mv) :: ms)
inductive PRs (Γ : Gm) (O : Addr → Prop) (H : Hp) : List (V × V) → List (D × D) → Prop
  | nil : PRs Γ O H [] []
  | cons {x y : V} {d e : D} {ps : List (V × V)} {ds : List (D × D)} : Rep Γ O H x d → Rep Γ O H y e → PRs Γ O H ps ds → PRs Γ O H ((x, y) :: ps) ((d, e) :: ds)
def EndP (Γ : Gm) (Z : Addr → Prop) (σ : L2.St) (ρ : Sl) (H : Hp) (r : Res (List (D × D))) (W : WX) (Q : List (V × V) → Hp → Prop) : Prop := match r with
  | .ok xs ρ' => ∀ ps H', FR Γ Z σ ρ' H' → Step σ ρ H σ ρ' H' → PRs Γ (OA Z σ ρ') H' ps xs → Q ps H'
  | .exc c fs ρ' => PostX Γ Z σ ρ H c fs ρ' W
  | .stuck => False
theorem SPs.run {ts : List (TE × TE)} {ms : List (CExp × CExp)} (h : SPs Γ W ts ms) : ∀ {Z σ ρ H} {Q : List (V × V) → Hp → Prop}, FR Γ Z σ ρ H → EndP Γ Z σ ρ H (cPrs ms ρ) W Q → tPairs ts σ H Q := by
  induction h with
  | nil => intro Z σ ρ H Q f k; exact k [] H f Step.refl .nil
  | @cons tk tv mk mv ts ms hk hv _ ih =>
    intro Z σ ρ H Q f k
    show tk σ H fun x H1 => tv σ H1 fun y H2 => tPairs ts σ H2 fun ps H3 => Q ((x, y) :: ps) H3
    refine SE.val hk f ?_
    unfold cPrs at k
    revert k
    cases mk ρ with
    | stuck => exact fun k => k
    | exc c fs ρ' => exact fun k => k
    | ok s1 ρ1 =>
      intro k x H1 f1 st1 rx
      refine SE.val hv f1 ?_
      simp only [Res.bind_ok] at k
      revert k
      cases mv ρ1 with
      | stuck => exact fun k => k
      | exc c fs ρ' => exact fun k => PostX.on st1 k
      | ok s2 ρ2 =>
        intro k y H2 f2 st2 ry
        refine ih f2 ?_
        simp only [Res.bind_ok] at k
        revert k
        cases cPrs ms ρ2 with
        | stuck => exact fun k => k
        | exc c fs ρ' => exact fun k => PostX.on (st1.trans st2) k
        | ok xs ρ3 =>
          intro k ps H3 f3 st3 rp
          exact k _ H3 f3 ((st1.trans st2).trans st3) (.cons (st3.rep f2 (st2.rep f1 rx)) (st3.rep f2 ry) rp)
theorem PRs.keys {O : Addr → Prop} : ∀ {ps : List (V × V)} {xs : List (D × D)} {kvs : List (Key × D)}, PRs Γ O H ps xs → prKeys xs = some kvs → ∃ ls : List (Key × V), ps = ls.map (fun kv => (kV kv.1, kv.2)) ∧ KR Γ O H ls kvs ∧ ksOk kvs = true
  | _, _, _, .nil, e => by cases e; exact ⟨[], rfl, .nil, rfl⟩
  | _, _, kvs, .cons (x := x) (d := d) hx hy r, e => by
    unfold prKeys at e
    cases q1 : dkey d with
    | none => rw [q1] at e; cases e
    | some k =>
      revert e
      cases q2 : prKeys _ with
      | none => rw [q1]; intro e; cases e
      | some kvs' =>
        rw [q1]
        intro e
        cases e
        obtain ⟨ls, h1, h2, h3⟩ := PRs.keys r q2
        refine ⟨(k, _) :: ls, by rw [h1, List.map_cons, Bor.key (.rep hx) q1], .cons hy h2, ?_⟩
        have : kOk k = true := by
          cases hx with
          | int i => cases q1; rfl
          | str x h => cases q1; exact h
          | _ => cases q1
        simp only [ksOk, List.all_cons, Bool.and_eq_true]
        exact ⟨this, h3⟩
theorem KR.merge {O : Addr → Prop} : ∀ {ls : List (Key × V)} {es : List (Key × D)}, KR Γ O H ls es → ∀ {kvs : List (Key × V)} {ds : List (Key × D)}, KR Γ O H kvs ds → KR Γ O H (mergeK kvs ls) (mergeD ds es)
  | _, _, .nil, _, _, h => h
  | _, _, .cons r t, _, _, h => KR.merge t (KR.put r h)
theorem KR.out {κ : Type} {O : Addr → Prop} : ∀ {kvs : List (κ × V)} {ds : List (κ × D)}, KR Γ O H kvs ds → kvs.map (·.1) = ds.map (·.1) ∧ Reps Γ O H (kvs.map (·.2)) (ds.map (·.2))
  | _, _, .nil => ⟨rfl, .nil⟩
  | _, _, .cons r t => by
    obtain ⟨a, b⟩ := KR.out t
    exact ⟨by simp [a], .cons r b⟩
theorem ksOk_merge : ∀ {es ds : List (Key × D)}, ksOk es = true → ksOk ds = true → ksOk (mergeD ds es) = true
  | [], _, _, h => h
  | (k, d) :: r, ds, h, g => by
    simp only [ksOk, List.all_cons, Bool.and_eq_true] at h
    exact ksOk_merge (es := r) h.2 (ksOk_put g h.1)
theorem XRep.drop {O O' : Addr → Prop} {d : Option Addr} {fs : List (Str × D)} (e : Ov O O' H H) (h : XRep Γ O H d fs) : XRep Γ O' H d fs := by
  cases d with
  | none => exact h
  | some dx =>
    obtain ⟨vs, h1, h2, h3⟩ := h
    exact ⟨vs, h1, h2, h3.to e⟩
theorem SE.disp {ts : List (TE × TE)} {ms : List (CExp × CExp)} (h : SPs Γ W ts ms) : SE Γ W (tDisp ts) (cDisp ms) := by
  intro Z σ ρ H Q f k
  intro p hp
  have m0 : Mut (upd H p (.dK []) p) := by rw [upd_same]; trivial
  have f0 := f.zadd (Ext.new hp) hp m0
  have s0 : Step σ ρ H σ ρ (upd H p (.dK [])) := (Ext.new hp).step
  refine h.run f0 ?_
  unfold cDisp at k
  revert k
  cases cPrs ms ρ with
  | stuck => exact fun k => k
  | exc c fs ρ' =>
    intro k d H' f' st x
    have ov : Ov (OA (Zadd Z p) σ ρ') (OA Z σ ρ') H' H' := ⟨fun a o h z => z.imp Or.inl id, f'.mu, fun _ _ h _ => h⟩
    exact k d H' (f'.zdrop fun a z => Or.inl z) (s0.trans st) (x.drop ov)
  | ok xs ρ' =>
    intro k ps H' f' st rp
    have hH : H' p = some (.dK []) := st.keep p _ upd_same (fun r => f0.dis p (.inr rfl) r)
    simp only [Res.bind_ok] at k
    cases q : prKeys xs with
    | none => rw [q] at k; exact k.elim
    | some kvs =>
      rw [q] at k
      simp only at k
      by_cases hl : kvs.length ≤ 15
      · rw [if_pos hl] at k
        obtain ⟨ls, e1, kr, ko⟩ := rp.keys q
        have ll : ls.length = kvs.length := by
          have := congrArg List.length kr.out.1
          simpa using this
        refine ⟨hH, ls, e1, by omega, ?_⟩
        have pO : OA (Zadd Z p) σ ρ' p := .inl (.inr rfl)
        have ov : Ov (OA (Zadd Z p) σ ρ') (OA (Zadd Z p) σ ρ') H' (upd H' p (.dK (mergeK [] ls))) := ⟨fun a o h z => z, f'.mu, fun a o h n => by
          have na : a ≠ p := fun z => n (by rw [z]; exact pO)
          rw [upd_ne na]; exact h⟩
        have km := KR.merge kr (KR.nil (κ := Key) (Γ := Γ) (O := OA (Zadd Z p) σ ρ') (H := H'))
        obtain ⟨m1, m2⟩ := km.out
        have ow : Own Γ (OA (Zadd Z p) σ ρ') (upd H' p (.dK (mergeK [] ls))) (.ref p) (.dK (mergeD [] kvs)) := .dK upd_same pO ⟨m1, ksOk_merge ko rfl⟩ (m2.to ov)
        have fr : FR Γ (Zadd Z p) σ ρ' (upd H' p (.dK (mergeK [] ls))) := by
          refine ⟨f'.len, fun a z => ?_, fun i d h => ?_, fun i d h => ?_, f'.inj, f'.dis⟩
          · by_cases e : a = p
            · subst e; rw [upd_same]; trivial
            · rw [upd_ne e]; exact f'.mu a z
          · obtain ⟨v, h1, r⟩ := f'.sh i d h
            exact ⟨v, h1, r.to ov⟩
          · obtain ⟨v, h1, r⟩ := f'.ow i d h
            obtain ⟨a, rfl, o, _⟩ := r.ref
            have na : a ≠ p := fun z => f'.dis p (.inr rfl) ⟨i, d, h, z ▸ h1⟩
            exact ⟨_, h1, r.to ov o fun u q => by rw [upd_ne na]; exact q⟩
        have st2 : Step σ ρ H σ ρ' (upd H' p (.dK (mergeK [] ls))) := by
          have s1 := s0.trans st
          refine ⟨fun a o h n => ?_, fun a o h => ?_, s1.new⟩
          · have na : a ≠ p := fun z => by rw [z, hp] at h; cases h
            rw [upd_ne na]; exact s1.keep a o h n
          · by_cases e : a = p
            · subst e; exact ⟨_, upd_same⟩
            · obtain ⟨o', h'⟩ := s1.dom a o h
              exact ⟨o', by rw [upd_ne e]; exact h'⟩
        exact k p _ fr st2 (fun z => f.nfresh hp (.inl z)) (.inl hp) ow
      · rw [if_neg hl] at k; exact k.elim
end
section
variable {X : Cx} {ct : Cn} {W : WX} {pos : Pos}
def CPs (X : Cx) (ct : Cn) (W : WX) (pos : Pos) (ks : List (Option Expr)) (vs : List Expr) (ms : List (CExp × CExp)) : Prop := ∃ ts, PPs X pos ks vs ts ∧ SPs (Gx X ct) W ts ms
theorem cps_nil : CPs X ct W pos [] [] [] := ⟨[], pps_nil, .nil⟩
theorem cps_cons {k v : Expr} {ks : List (Option Expr)} {vs : List Expr} {mk mv : CExp} {ms : List (CExp × CExp)} (hk : CE X ct W k mk) (hv : CE X ct W v mv) (hr : CPs X ct W pos ks vs ms) : CPs X ct W pos (some k :: ks) (v :: vs) ((mk, mv) :: ms) := by
  obtain ⟨tk, p1, s1⟩ := hk
  obtain ⟨tv, p2, s2⟩ := hv
  obtain ⟨ts, p3, s3⟩ := hr
  exact ⟨_, pps_cons p1 p2 p3, .cons s1 s2 s3⟩
theorem ce_disp {ks : List (Option Expr)} {vs : List Expr} {ms : List (CExp × CExp)} (h : CPs X ct W pos ks vs ms) (hall : ks.all (·.isSome) = true) (hl : ks.length = vs.length) (h0 : ks ≠ []) (h15 : ks.length ≤ 15) : CE X ct W (.Dict ks vs pos) (cDisp ms) := by
  obtain ⟨ts, p, s⟩ := h
  exact ⟨_, pe_disp p hall hl h0 h15, SE.disp s⟩
end
end VS

namespace VS
open PySem L2 PySem.Spec PyProof.Rows
/-! ### comprehensions over a list that the frame owns, and goes on to own -/
def lcGoO (i : Nat) (tg : D → Sl → Option Sl) (c : CTst) (e : CExp) (vs : List Nat) : Nat → Nat → List D → Sl → Res (List D)
  | 0, k, acc, ρ => match ownL ρ[i]? with
    | some xs => if xs.length = k then .ok acc ρ else .stuck
    | none => .stuck
  | n + 1, k, acc, ρ => match ownL ρ[i]? with
    | some xs => (match xs[k]? with
      | some d => (match tg d ρ with
        | none => .stuck
        | some ρ1 => (match c ρ1 with
          | .ok true ρ2 => (match e ρ2 with
            | .ok s ρ3 => if acc.length < sizeLine then lcGoO i tg c e vs n (k + 1) (acc ++ [s.1]) (wipeS ρ3 vs) else .stuck
            | _ => .stuck)
          | .ok false ρ2 => lcGoO i tg c e vs n (k + 1) acc (wipeS ρ2 vs)
          | _ => .stuck))
      | none => .stuck)
    | none => .stuck
def cLcO (i : Nat) (it : CIt) (tg : D → Sl → Option Sl) (c : CTst) (e : CExp) (vs : List Nat) : CExp := fun ρ => match ownL ρ[i]? with
  | some xs => if noOwn ρ vs = true then (match lcGoO i tg c e vs xs.length 0 [] (wipeS ρ vs) with
    | .ok acc ρ2 => .ok (.lst acc, true) (backS ρ ρ2 vs)
    | _ => .stuck) else .stuck
  | none => cLc it tg c e vs ρ
section
variable {Γ : Gm} {W : WX} {Z : Addr → Prop} {σ σ1 : L2.St} {ρ ρ1 ρ' : Sl} {H H1 : Hp} {O : Addr → Prop} {fx : List Nat}
theorem SE.lcO {i : Nat} {g : TG} {tt : TT} {te : TE} {tg : D → Sl → Option Sl} {c : CTst} {e : CExp} {vs : List Nat} (hg : ∀ fx', (∀ j ∈ vs, j ∉ fx') → SG Γ fx' g tg) (hlen : LenG tg) (hc : ST Γ WF tt c) (he : SE Γ WF te e) : SE Γ W (tLc (iSeq Γ.K (tVar i)) g tt te vs) (cLcO i (cItS (cVar i)) tg c e vs) := by
  intro Z σ ρ H Q F k
  unfold cLcO at k
  cases qo : ownL ρ[i]? with
  | none => rw [qo] at k; exact SE.lc (SI.seq SE.var) hg hlen hc he Z σ ρ H Q F k
  | some xs0 =>
    rw [qo] at k
    simp only at k
    obtain ⟨a, vs0, ea, h1⟩ := own_ref F (ownL_some qo)
    refine ⟨.ref a, ea, .inl ⟨a, rfl, ⟨vs0, SqL.of h1⟩, ?_⟩⟩
    intro p hp
    split at k
    · rename_i hno
      have hiv : i ∉ vs := fun z => noOwn_at hno z (ownL_some qo)
      have eaw : (L2.wipe σ vs)[i]? = some (some (.ref a)) := by rw [wipe_off hiv]; exact ea
      have fin : ∀ acc ρn Hn us, lcGoO i tg c e vs xs0.length 0 [] (wipeS ρ vs) = .ok acc ρn → FR Γ (Zadd Z p) (L2.wipe σ vs) ρn Hn → Step σ ρ H (L2.wipe σ vs) ρn Hn → (∀ (i : Nat) s, ρn[i]? = some (some s) → i ∉ vs) → Hn p = some (.lst us) → Reps Γ (OA (Zadd Z p) (L2.wipe σ vs) ρn) Hn us acc → Q (.ref p) Hn := by
        intro acc ρn Hn us e1 fn st hw hpn r
        rw [e1] at k
        obtain ⟨b1, b2, b3⟩ := F.back hno hp fn st hw
        refine k p Hn b1 b2 (fun z => F.nfresh hp (.inl z)) (.inl hp) ?_
        rw [b3]
        exact .lst hpn (.inl (.inr rfl)) r
      have hgo : ∃ acc ρn, lcGoO i tg c e vs xs0.length 0 [] (wipeS ρ vs) = .ok acc ρn := by
        revert k
        cases lcGoO i tg c e vs xs0.length 0 [] (wipeS ρ vs) with
        | ok acc ρn => exact fun _ => ⟨acc, ρn, rfl⟩
        | exc => exact fun k => k.elim
        | stuck => exact fun k => k.elim
      obtain ⟨accN, ρN, hN⟩ := hgo
      clear k
      have fw := F.wipe vs
      have fz : FR Γ (Zadd Z p) (L2.wipe σ vs) (wipeS ρ vs) (upd H p (.lst [])) := fw.zadd (Ext.new hp) hp (by rw [upd_same]; trivial)
      refine ⟨fun k m H' => ∃ acc ρi us, FR Γ (Zadd Z p) (L2.wipe σ vs) ρi H' ∧ Step σ ρ H (L2.wipe σ vs) ρi H' ∧ (∀ (j : Nat) s, ρi[j]? = some (some s) → j ∉ vs) ∧ H' p = some (.lst us) ∧ Reps Γ (OA (Zadd Z p) (L2.wipe σ vs) ρi) H' us acc ∧ lcGoO i tg c e vs m k acc ρi = .ok accN ρN,
        ⟨xs0.length, [], wipeS ρ vs, [], fz, (Step.wipe vs).trans (Ext.new hp).step, fun j s h => (wipeS_some h).2, upd_same, .nil, hN⟩, ?_⟩
      rintro k m H' ⟨acc, ρi, us, fi, si, wi', hpi, ri, ki⟩
      cases m with
      | zero =>
        left
        unfold lcGoO at ki
        cases qx : ownL ρi[i]? with
        | none => rw [qx] at ki; cases ki
        | some xs =>
          rw [qx] at ki
          simp only at ki
          split at ki
          · rename_i hl
            obtain ⟨ws, h2, r2⟩ := own_at fi eaw (ownL_some qx)
            refine ⟨?_, ?_⟩
            · rw [← hl, ← r2.length]
              exact (wko_list (Γ := Γ)).done H' ws (SqL.of h2)
            · cases ki
              exact fin accN ρN H' us hN fi si wi' hpi ri
          · cases ki
      | succ m =>
        right
        unfold lcGoO at ki
        cases qx : ownL ρi[i]? with
        | none => rw [qx] at ki; cases ki
        | some xs =>
          rw [qx] at ki
          simp only at ki
          obtain ⟨ws, h2, r2⟩ := own_at fi eaw (ownL_some qx)
          cases e0 : xs[k]? with
          | none => rw [e0] at ki; cases ki
          | some d =>
            rw [e0] at ki
            simp only at ki
            obtain ⟨v, e1, rv⟩ := r2.get e0
            obtain ⟨go, yl⟩ := (wko_list (Γ := Γ)).item _ H' k ws v d fi.mu (SqL.of h2) e1 rv
            refine ⟨go, fun H2 => ∃ acc ρi us, FR Γ (Zadd Z p) (L2.wipe σ vs) ρi H2 ∧ Step σ ρ H (L2.wipe σ vs) ρi H2 ∧ (∀ (j : Nat) s, ρi[j]? = some (some s) → j ∉ vs) ∧ H2 p = some (.lst us) ∧ Reps Γ (OA (Zadd Z p) (L2.wipe σ vs) ρi) H2 us acc ∧ lcGoO i tg c e vs m (k + 1) acc ρi = .ok accN ρN,
              fun H2 h => ⟨m, Nat.lt_succ_self m, h⟩, fun x H2 hy => ?_⟩
            obtain ⟨ex, rx⟩ := yl x H2 hy
            have f2 := fi.ext ex
            have s2 : Step (L2.wipe σ vs) ρi H' (L2.wipe σ vs) ρi H2 := ex.step
            cases q : tg d ρi with
            | none => rw [q] at ki; cases ki
            | some ρ3 =>
              rw [q] at ki
              simp only at ki
              refine hg ((List.range σ.length).filter fun j => decide (j ∉ vs)) (fun j hj hq => ?_) (Zadd Z p) (L2.wipe σ vs) ρi H2 x _ ρ3 _ f2 rx q fun σ3 f3 s3 x3 => ?_
              · have := (List.mem_filter.mp hq).2
                simp [hj] at this
              have l3 : σ3.length = σ.length := by
                have := f3.len
                have h2 := f2.len
                rw [wipe_length] at h2
                have h3 : ρ3.length = ρi.length := hlen _ _ _ q
                omega
              have w3 : L2.wipe σ3 vs = L2.wipe σ vs := wipe_eq l3 fun j hj => by
                by_cases hb : j < σ.length
                · exact x3 j (List.mem_filter.mpr ⟨List.mem_range.mpr hb, decide_eq_true hj⟩)
                · rw [List.getElem?_eq_none_iff.mpr (by omega), List.getElem?_eq_none_iff.mpr (by rw [wipe_length]; omega)]
              refine ⟨w3, hc (Zadd Z p) σ3 ρ3 H2 _ f3 ?_⟩
              have s23 := s2.trans s3
              revert ki
              cases c ρ3 with
              | exc => intro ki; cases ki
              | stuck => intro ki; cases ki
              | ok b ρ4 =>
                cases b with
                | false =>
                  intro ki H4 f4 s4
                  have fw4 := f4.wipe vs
                  rw [w3] at fw4
                  have sw : Step (L2.wipe σ vs) ρi H' (L2.wipe σ vs) (wipeS ρ4 vs) H4 := by
                    have := (s23.trans s4).trans (Step.wipe vs)
                    rw [w3] at this
                    exact this
                  exact ⟨acc, wipeS ρ4 vs, us, fw4, si.trans sw, fun j s h => (wipeS_some h).2, sw.keep p _ hpi (fi.dis p (.inr rfl)), ri.to (sw.ov fi), ki⟩
                | true =>
                  intro ki H4 f4 s4
                  show te σ3 H4 _
                  refine he.val f4 ?_
                  simp only at ki
                  revert ki
                  cases e ρ4 with
                  | exc => intro ki; cases ki
                  | stuck => intro ki; cases ki
                  | ok s ρ5 =>
                    intro ki y H5 f5 s5 r5
                    simp only at ki
                    split at ki
                    · rename_i hz
                      have s25 := (s23.trans s4).trans s5
                      have np : ¬ roots (L2.wipe σ vs) ρi p := fi.dis p (.inr rfl)
                      have hp5 : H5 p = some (.lst us) := s25.keep p _ hpi np
                      refine ⟨us, hp5, by rw [ri.length]; exact hz, ?_⟩
                      have fw5 := f5.wipe vs
                      rw [w3] at fw5
                      have sw : Step (L2.wipe σ vs) ρi H' (L2.wipe σ vs) (wipeS ρ5 vs) H5 := by
                        have := s25.trans (Step.wipe vs)
                        rw [w3] at this
                        exact this
                      obtain ⟨fg, og⟩ := fw5.grow (o := .lst (us ++ [y])) trivial
                      have sg : Step σ ρ H (L2.wipe σ vs) (wipeS ρ5 vs) (upd H5 p (.lst (us ++ [y]))) := by
                        have s6 := si.trans sw
                        refine ⟨fun a o ha n => ?_, fun a o ha => ?_, s6.new⟩
                        · rw [upd_ne (ne_of_none ha hp)]; exact s6.keep a o ha n
                        · rw [upd_ne (ne_of_none ha hp)]; exact s6.dom a o ha
                      have ry : Rep Γ (OA (Zadd Z p) (L2.wipe σ vs) (wipeS ρ5 vs)) H5 y s.1 := by
                        have sw5 : Step σ3 ρ5 H5 (L2.wipe σ3 vs) (wipeS ρ5 vs) H5 := Step.wipe vs
                        rw [w3] at sw5
                        exact sw5.rep f5 r5
                      exact ⟨acc ++ [s.1], wipeS ρ5 vs, us ++ [y], fg, sg, fun j s h => (wipeS_some h).2, upd_same, ((ri.to (sw.ov fi)).append (.cons ry .nil)).to og, ki⟩
                    · cases ki
    · exact k.elim
/-- more fixed slots -/
theorem SS.mono {fx' : List Nat} {t : TS} {m : CStm} (hsub : ∀ i ∈ fx, i ∈ fx') (h : SS Γ fx' W t m) : SS Γ fx W t m := by
  intro Z σ ρ H E f k
  refine h Z σ ρ H E f ?_
  have up : ∀ {σ σ' : L2.St}, Fx fx' σ σ' → Fx fx σ σ' := fun x i hi => x i (hsub i hi)
  revert k
  cases m ρ with
  | ok o ρ' =>
    cases o with
    | nx => exact fun k σ' H' f s x => k σ' H' f s (up x)
    | bk => exact fun k σ' H' f s x => k σ' H' f s (up x)
    | ct => exact fun k σ' H' f s x => k σ' H' f s (up x)
    | rt sl =>
      obtain ⟨d, b⟩ := sl
      cases b with
      | false => exact fun k v σ' H' f s x r => k v σ' H' f s (up x) r
      | true => exact fun k a σ' H' f s x n q r => k a σ' H' f s (up x) n q r
  | exc c fs ρ' => exact fun k d σ' H' f s x r => k d σ' H' f s (up x) r
  | stuck => exact fun k => k
end
section
variable {X : Cx} {ct : Cn} {W : WX} {fx : List Nat} {s1 : CStm} {pos : Pos} {tg : Expr}
/-- a local list, looped over while it is owned -/
theorem cs_forL (i : Nat) {x : Str} {p1 : Pos} {body : List Stmt} {tgm : D → Sl → Option Sl} (hp : PassesOwn (model X.prog X.w) X.A X.env X.xe) (hc : X.calm = true) (hg : CG X ct (i :: fx) tg tgm) (hb : CSs X ct (i :: fx) W body s1) (hN : X.N[i]? = some x := by rfl) (hv : Vis X.env.scope x := by first | exact Or.inl rfl | exact Or.inr (Or.inl rfl) | exact Or.inr (Or.inr rfl)) (hd : (x == ("__debug__" : Str)) = false := by decide) (hcd : (x == ("__classdict__" : Str)) = false := by decide) (hs : ∀ y, foldedSetIterable (.Name x p1) X.env y = pure y := by intro _; rfl) : CS X ct fx W (.For tg (.Name x p1) body [] pos) (cForO i (fun _ d => d) (cItS (cVar i)) tgm s1) := by
  obtain ⟨t, p, q⟩ := cs_forOs (fx := i :: fx) (pos := pos) i List.mem_cons_self hp hc hg hb hN hv hd hcd hs
  exact ⟨t, p, SS.mono (fun j hj => List.mem_cons_of_mem _ hj) q⟩
theorem cs_forLe (i : Nat) {x : Str} {p p1 pos2 tpos : Pos} {elts : List Expr} {kk : Nat} {body : List Stmt} {tgm : D → Sl → Option Sl} (hg0 : Gl X "enumerate") (hm : X.mg "enumerate" = none) (hp : PassesOwn (model X.prog X.w) X.A X.env X.xe) (hc : X.calm = true) (hg : CG X ct (i :: fx) (.Tuple elts kk tpos) tgm) (hb : CSs X ct (i :: fx) W body s1) (hN : X.N[i]? = some x := by rfl) (hv : Vis X.env.scope x := by first | exact Or.inl rfl | exact Or.inr (Or.inl rfl) | exact Or.inr (Or.inr rfl)) (hd : (x == ("__debug__" : Str)) = false := by decide) (hcd : (x == ("__classdict__" : Str)) = false := by decide) (h1 : starEach [.Name x p1] X.env = [(false, eval (.Name x p1) X.env)] := by rfl) (hs : ∀ y, foldedSetIterable (.Call (.Name "enumerate" p) [.Name x p1] [] pos2) X.env y = pure y := by intro _; rfl) : CS X ct fx W (.For (.Tuple elts kk tpos) (.Call (.Name "enumerate" p) [.Name x p1] [] pos2) body [] pos) (cForO i (fun k d => .tup [.int ((0 + k : Nat) : Int), d]) (cItE (cVar i)) tgm s1) := by
  obtain ⟨t, p, q⟩ := cs_forOe (fx := i :: fx) (pos := pos) i List.mem_cons_self hg0 hm hp hc hg hb hN hv hd hcd h1 hs
  exact ⟨t, p, SS.mono (fun j hj => List.mem_cons_of_mem _ hj) q⟩
theorem ce_lcO (i : Nat) {x : Str} {p1 : Pos} {elt : Expr} {ifs : List Expr} {scope : Scope} (own : List (Str × Nat)) {g : TG} {tgm : D → Sl → Option Sl} {cc : CTst} {ee : CExp} (hc : X.calm = true) (hN : X.N.Nodup) (ok : BlkOk X.N X.env.scope scope own) (hlen : LenG tgm)
    (hgs : ∀ fx', (∀ j ∈ own.map (·.2), j ∉ fx') → SG (Gx X ct) fx' g tgm) (hg : ∀ (s : Shared) (H : Hp) (C : Addr) (cl : List (Str × Addr)) (fp : List Addr), PG (X.blk s H scope (compEnvC scope cl C X.env) fp) tg g)
    (ht : ∀ (s : Shared) (H : Hp) (C : Addr) (cl : List (Str × Addr)) (fp : List Addr), CTs (X.blk s H scope (compEnvC scope cl C X.env) fp) ct WF ifs cc)
    (he : ∀ (s : Shared) (H : Hp) (C : Addr) (cl : List (Str × Addr)) (fp : List Addr), CE (X.blk s H scope (compEnvC scope cl C X.env) fp) ct WF elt ee)
    (hNi : X.N[i]? = some x := by rfl) (hv : Vis X.env.scope x := by first | exact Or.inl rfl | exact Or.inr (Or.inl rfl) | exact Or.inr (Or.inr rfl)) (hd : (x == ("__debug__" : Str)) = false := by decide) (hcd : (x == ("__classdict__" : Str)) = false := by decide)
    (hs : ∀ y, foldedSetIterable (.Name x p1) X.env y = pure y := by intro _; rfl) :
    CE X ct W (.ListComp elt [⟨tg, .Name x p1, ifs, 0⟩] scope pos) (cLcO i (cItS (cVar i)) tgm cc ee (own.map (·.2))) := by
  have h1 : ∀ (s : Shared) (H : Hp) (C : Addr) (cl : List (Str × Addr)) (fp : List Addr), PTs (X.blk s H scope (compEnvC scope cl C X.env) fp) ifs (tAllT (Gx X ct) cc) := fun s H C cl fp => ⟨fun pins s' σ H' Q I h => by
    obtain ⟨t, p, q⟩ := ht s H C cl fp
    exact p.run pins s' σ H' Q I (h t q)⟩
  have h2 : ∀ (s : Shared) (H : Hp) (C : Addr) (cl : List (Str × Addr)) (fp : List Addr), PE (X.blk s H scope (compEnvC scope cl C X.env) fp) elt (tAllE (Gx X ct) ee) := fun s H C cl fp => ⟨fun pins s' σ H' Q I h => by
    obtain ⟨t, p, q⟩ := he s H C cl fp
    exact p.run pins s' σ H' Q I (h t q)⟩
  exact ⟨_, pe_lc hc hN (pi_seq (pe_var hNi hv hd hcd)) ok hg h1 h2 hs, SE.lcO hgs hlen ST.allT SE.allE⟩
theorem cs_setLcO (j : Nat) {y : Str} {py spos : Pos} (i : Nat) {x : Str} {p1 : Pos} {elt : Expr} {ifs : List Expr} {scope : Scope} (own : List (Str × Nat)) {g : TG} {tgm : D → Sl → Option Sl} {cc : CTst} {ee : CExp} (hc : X.calm = true) (hN : X.N.Nodup) (hf : j ∉ fx) (hy : X.N[j]? = some y) (hyl : X.env.scope.names.lookup y = some .local)
    (hsw : swapsWith (.ListComp elt [⟨tg, .Name x p1, ifs, 0⟩] scope pos) (some (.Name y py)) spos.line X.env = pure true) (ok : BlkOk X.N X.env.scope scope own) (hlen : LenG tgm)
    (hgs : ∀ fx', (∀ j ∈ own.map (·.2), j ∉ fx') → SG (Gx X ct) fx' g tgm) (hg : ∀ (s : Shared) (H : Hp) (C : Addr) (cl : List (Str × Addr)) (fp : List Addr), PG (X.blk s H scope (compEnvC scope cl C X.env) fp) tg g)
    (ht : ∀ (s : Shared) (H : Hp) (C : Addr) (cl : List (Str × Addr)) (fp : List Addr), CTs (X.blk s H scope (compEnvC scope cl C X.env) fp) ct WF ifs cc)
    (he : ∀ (s : Shared) (H : Hp) (C : Addr) (cl : List (Str × Addr)) (fp : List Addr), CE (X.blk s H scope (compEnvC scope cl C X.env) fp) ct WF elt ee)
    (hNi : X.N[i]? = some x := by rfl) (hv : Vis X.env.scope x := by first | exact Or.inl rfl | exact Or.inr (Or.inl rfl) | exact Or.inr (Or.inr rfl)) (hd : (x == ("__debug__" : Str)) = false := by decide) (hcd : (x == ("__classdict__" : Str)) = false := by decide)
    (hs : ∀ y, foldedSetIterable (.Name x p1) X.env y = pure y := by intro _; rfl) :
    CS X ct fx W (.Assign [.Name y py] (.ListComp elt [⟨tg, .Name x p1, ifs, 0⟩] scope pos) spos) (cAsg j (cLcO i (cItS (cVar i)) tgm cc ee (own.map (·.2)))) := by
  have h1 : ∀ (s : Shared) (H : Hp) (C : Addr) (cl : List (Str × Addr)) (fp : List Addr), PTs (X.blk s H scope (compEnvC scope cl C X.env) fp) ifs (tAllT (Gx X ct) cc) := fun s H C cl fp => ⟨fun pins s' σ H' Q I h => by
    obtain ⟨t, p, q⟩ := ht s H C cl fp
    exact p.run pins s' σ H' Q I (h t q)⟩
  have h2 : ∀ (s : Shared) (H : Hp) (C : Addr) (cl : List (Str × Addr)) (fp : List Addr), PE (X.blk s H scope (compEnvC scope cl C X.env) fp) elt (tAllE (Gx X ct) ee) := fun s H C cl fp => ⟨fun pins s' σ H' Q I h => by
    obtain ⟨t, p, q⟩ := he s H C cl fp
    exact p.run pins s' σ H' Q I (h t q)⟩
  exact ⟨_, ps_setLc hc hN hy hyl hsw (pi_seq (pe_var hNi hv hd hcd)) ok hg h1 h2 hs, SS.asg (SE.lcO hgs hlen ST.allT SE.allE) hf⟩
end
/-! for plain laws -/
@[simp] theorem e_cLcO (i : Nat) (it : CIt) (tg : D → Sl → Option Sl) (c : CTst) (e : CExp) (vs : List Nat) (ρ : Sl) : cLcO i it tg c e vs ρ = match ownL ρ[i]? with
  | some xs => if noOwn ρ vs = true then (match lcGoO i tg c e vs xs.length 0 [] (wipeS ρ vs) with
    | .ok acc ρ2 => .ok (.lst acc, true) (backS ρ ρ2 vs)
    | _ => .stuck) else .stuck
  | none => cLc it tg c e vs ρ := rfl
/-- the frame stays: the same as over a list that is not owned -/
theorem lcGoO_eq {i : Nat} {tg : D → Sl → Option Sl} {c : CTst} {e : CExp} {vs : List Nat} {xs : List D} {ρ : Sl} (ho : ρ[i]? = some (some (.lst xs, true)))
    (hs : ∀ d ∈ xs, ∃ ρ1, tg d ρ = some ρ1 ∧ ((∃ ρ2 s ρ3, c ρ1 = .ok true ρ2 ∧ e ρ2 = .ok s ρ3 ∧ wipeS ρ3 vs = ρ) ∨ (∃ ρ2, c ρ1 = .ok false ρ2 ∧ wipeS ρ2 vs = ρ))) :
    ∀ (n k : Nat) (acc : List D), n + k = xs.length → lcGoO i tg c e vs n k acc ρ = lcGo tg c e vs (xs.drop k) acc ρ
  | 0, k, acc, hn => by
    unfold lcGoO
    rw [ho, List.drop_of_length_le (by omega)]
    simp only [e_ownL_o]
    rw [if_pos (by omega)]
    rfl
  | n + 1, k, acc, hn => by
    have hk : k < xs.length := by omega
    rw [List.drop_eq_getElem_cons hk]
    unfold lcGoO lcGo
    rw [ho]
    simp only [e_ownL_o, List.getElem?_eq_getElem hk]
    obtain ⟨ρ1, t, h⟩ := hs xs[k] (List.getElem_mem hk)
    rw [t]
    simp only
    rcases h with ⟨ρ2, s, ρ3, h1, h2, h3⟩ | ⟨ρ2, h1, h2⟩
    · rw [h1]
      simp only [h2, h3]
      split
      · exact lcGoO_eq ho hs n (k + 1) _ (by omega)
      · rfl
    · rw [h1]
      simp only [h2]
      exact lcGoO_eq ho hs n (k + 1) _ (by omega)
theorem lcO_mapN {i j : Nat} {e : CExp} {ds : List D} {ρ : Sl} (g : D → D) (ho : ρ[i]? = some (some (.lst ds, true))) (hz : ds.length ≤ 16777216) (hj : ρ[j]? = some none)
    (hs : ∀ d ∈ ds, ∃ b, e (ρ.set j (some (d, false))) = .ok (g d, b) (ρ.set j (some (d, false)))) : lcGoO i (tgN j) cYes e [j] ds.length 0 [] ρ = .ok (ds.map g) ρ := by
  rw [lcGoO_eq ho (fun d hd => by
    obtain ⟨b, h⟩ := hs d hd
    exact ⟨_, rfl, .inl ⟨_, _, _, rfl, h, set_none hj⟩⟩) _ 0 [] rfl]
  exact lc_mapN g hz hj hs
theorem lcO_filterN {i j : Nat} {c : CTst} {e : CExp} {ds : List D} {ρ : Sl} (p : D → Bool) (g : D → D) (ho : ρ[i]? = some (some (.lst ds, true))) (hz : ds.length ≤ 16777216) (hj : ρ[j]? = some none)
    (hs : ∀ d ∈ ds, c (ρ.set j (some (d, false))) = .ok (p d) (ρ.set j (some (d, false))) ∧ (p d = true → ∃ b, e (ρ.set j (some (d, false))) = .ok (g d, b) (ρ.set j (some (d, false))))) : lcGoO i (tgN j) c e [j] ds.length 0 [] ρ = .ok ((ds.filter p).map g) ρ := by
  rw [lcGoO_eq ho (fun d hd => by
    obtain ⟨h1, h2⟩ := hs d hd
    refine ⟨_, rfl, ?_⟩
    cases q : p d with
    | true =>
      obtain ⟨b, h3⟩ := h2 q
      rw [q] at h1
      exact .inl ⟨_, _, _, h1, h3, set_none hj⟩
    | false =>
      rw [q] at h1
      exact .inr ⟨_, h1, set_none hj⟩) _ 0 [] rfl]
  exact lc_filterN p g hz hj hs
end VS

namespace VS
open PySem L2 PySem.Spec PyProof.Rows
/-! ### constants of the module; defaults and keywords -/
def KRep (Γ : Gm) (v : V) (d : D) : Prop := ∀ O H, Rep Γ O H v d
inductive KReps (Γ : Gm) : List V → List D → Prop
  | nil : KReps Γ [] []
  | cons {v : V} {d : D} {vs : List V} {ds : List D} : KRep Γ v d → KReps Γ vs ds → KReps Γ (v :: vs) (d :: ds)
theorem KReps.at {Γ : Gm} {vs : List V} {ds : List D} (h : KReps Γ vs ds) (O : Addr → Prop) (H : Hp) : Reps Γ O H vs ds := by
  induction h with
  | nil => exact .nil
  | cons h _ ih => exact .cons (h O H) ih
theorem kr_int {Γ : Gm} (i : Int) : KRep Γ (.int i) (.int i) := fun _ _ => .int i
theorem kr_bl {Γ : Gm} (b : Bool) : KRep Γ (.bl b) (.bl b) := fun _ _ => .bl b
theorem kr_non {Γ : Gm} : KRep Γ .non .non := fun _ _ => .non
theorem kr_str {Γ : Gm} (x : Str) (h : PyData.strOk x = true) : KRep Γ (.str x) (.str x) := fun _ _ => .str x h
theorem kr_tup {Γ : Gm} {a : Addr} {o : Obj} {its : Array Value} {n : Nat} {vs : List V} {ds : List D} (h1 : Γ.K.lookup a = some o) (h2 : o.cls = .type "tuple") (h3 : o.data = .seq its n) (h4 : its.size ≤ sizeLine) (h5 : Vals vs its.toList) (h : KReps Γ vs ds) : KRep Γ (.ref a) (.ktup ds) :=
  fun O H => .ktup ⟨o, its, n, h1, h2, h3, h4, h5⟩ (h.at O H)
/-- the constant x of the module -/
def KC (K : PySem.W.Frag) (mg : Str → Option Value) (x : Str) (d : D) : Prop := ∃ a : Addr, mg x = some (.ref a) ∧ ∀ cn : Cn, KRep ⟨K, cn⟩ (.ref a) d
section
variable {X : Cx} {ct : Cn} {W : WX} {pos : Pos}
theorem ce_gobj {x : Str} {d : D} (hg : Gl X x) (hm : KC X.K X.mg x d) (hd : (x == ("__debug__" : Str)) = false := by decide) : CE X ct W (.Name x pos) (cC d) := by
  obtain ⟨a, hm, h⟩ := hm
  exact ce_glob (v := .ref a) hg hm rfl (h ct) hd
end
/-! what is handed over, with the defaults put in -/
def insL {α : Type} : List (Option α) → List α → List α
  | [], _ => []
  | some v :: sh, xs => v :: insL sh xs
  | none :: sh, x :: xs => x :: insL sh xs
  | none :: _, [] => []
def insO : List (Option D) → List Opd → List Opd
  | [], _ => []
  | some d :: sh, os => .e (cC d) :: insO sh os
  | none :: sh, o :: os => o :: insO sh os
  | none :: _, [] => []
def nons {α : Type} : List (Option α) → Nat
  | [] => 0
  | some _ :: sh => nons sh
  | none :: sh => nons sh + 1
inductive ShR (Γ : Gm) : List (Option V) → List (Option D) → Prop
  | nil : ShR Γ [] []
  | con {v : V} {d : D} {shV : List (Option V)} {shD : List (Option D)} : KRep Γ v d → ShR Γ shV shD → ShR Γ (some v :: shV) (some d :: shD)
  | arg {shV : List (Option V)} {shD : List (Option D)} : ShR Γ shV shD → ShR Γ (none :: shV) (none :: shD)
/-- the same for what stands in the machine -/
inductive ShU : List (Option V) → List (Option Value) → Prop
  | nil : ShU [] []
  | con {v : V} {u : Value} {shV : List (Option V)} {shU : List (Option Value)} : RelV v u → ShU shV shU → ShU (some v :: shV) (some u :: shU)
  | arg {shV : List (Option V)} {shU : List (Option Value)} : ShU shV shU → ShU (none :: shV) (none :: shU)
theorem ShU.vals {shV : List (Option V)} {shU : List (Option Value)} (h : ShU shV shU) : ∀ {vs : List V} {us : List Value}, Vals vs us → Vals (insL shV vs) (insL shU us) := by
  induction h with
  | nil => exact fun _ => .nil
  | con r _ ih => exact fun h => .cons r (ih h)
  | arg _ ih =>
    intro vs us h
    cases h with
    | nil => exact .nil
    | cons r h => exact .cons r (ih h)
def tIns (f : List V → List V) (t : TA) : TA := fun σ H Q => t σ H fun vs H1 => Q (f vs) H1
def tApp (t u : TA) : TA := fun σ H Q => t σ H fun vs H1 => u σ H1 fun zs H2 => Q (vs ++ zs) H2
section
variable {Γ : Gm} {W : WX}
theorem SA.ins {shV : List (Option V)} {shD : List (Option D)} (h : ShR Γ shV shD) : ∀ {t : TA} {os : List Opd}, SA Γ W t os → os.length = nons shD → SA Γ W (tIns (insL shV) t) (insO shD os) := by
  induction h with
  | nil =>
    intro t os a hl
    cases a with
    | nil => exact SA.nil
    | cons _ _ => cases hl
  | @con v d shV shD r _ ih => exact fun a hl => SA.cons (te := tC v) (o := .e (cC d)) (SE.c r) (ih a hl)
  | arg _ ih =>
    intro t os a hl
    cases a with
    | nil => cases hl
    | cons ho a => exact SA.cons ho (ih a (Nat.succ.inj hl))
theorem SA.app {t : TA} {os : List Opd} (h : SA Γ W t os) {u : TA} {os2 : List Opd} (h2 : SA Γ W u os2) : SA Γ W (tApp t u) (os ++ os2) := by
  induction h with
  | nil => exact h2
  | cons ho _ ih => exact SA.cons ho ih
theorem SA.len {t : TA} {os : List Opd} (h : SA Γ W t os) : True := trivial
end
/-! ### promises by positional values and keywords -/
def FnRK (P : Program) (w : World) (K : PySem.W.Frag) (mg : Str → Option Value) (base : Heap) (CX : CXT) (k : Nat) (f : Addr) (n : Nat) (ks : List Str) (sp : Sp) : Prop :=
  ∀ (A : Around) (outer : List Env) (s : Shared) (H : Hp) (us ws : List Value) (vs zs : List V) (Q : VK) (E : XK), Room k A → Env0 P w K mg base A outer s H → Vals vs us → Vals zs ws → us.length = n → ws.length = ks.length → sp (vs ++ zs) H Q E →
    codeAny (model P w) A (.call (.ref f) ⟨us, ks.zip ws⟩) (CR CX outer P w H s Q E) s
/-- how n values and the keywords ks are bound: shU the defaults between them -/
def BndK (K : PySem.W.Frag) (fd : FuncData) (ps : List Str) (n : Nat) (ks : List Str) (shU : List (Option Value)) : Prop :=
  ∀ (s : Shared) (us ws : List Value), K.In s.heap → us.length = n → ws.length = ks.length → BindsTo s fd ⟨us, ks.zip ws⟩ (ps.zip (insL shU (us ++ ws)))
section
variable {P : Program} {w : World} {K : PySem.W.Frag} {mg : Str → Option Value} {base : Heap} {CX : CXT} {k n : Nat} {f : Addr} {fd : FuncData} {ps ks : List Str} {sp : Sp} {shU : List (Option Value)} {shV : List (Option V)}
theorem fnOk_rawK (F : FnOk P w K mg base CX k f fd ps sp) (hb : BndK K fd ps n ks shU) (hd : ShU shV shU) : FnRK P w K mg base CX k f n ks (fun vs H Q E => sp (insL shV vs) H Q E) := by
  intro A outer s H us ws vs zs Q E hr e0 r rz l1 l2 hs
  have r2 : Vals (insL shV (vs ++ zs)) (insL shU (us ++ ws)) := hd.vals (r.append rz)
  exact F.run A outer s H ⟨us, ks.zip ws⟩ _ _ Q E hr e0 (hb s us ws (e0.mod.kin.keeps fun b o e => (e0.bs b o e).1) l1 l2) r2 hs
theorem FnRK.imp {sp' : Sp} (F : FnRK P w K mg base CX k f n ks sp) (h : ∀ vs H Q E, sp' vs H Q E → sp vs H Q E) : FnRK P w K mg base CX k f n ks sp' := fun A outer s H us ws vs zs Q E hr e0 r rz l1 l2 hs => F A outer s H us ws vs zs Q E hr e0 r rz l1 l2 (h _ _ _ _ hs)
/-- no keywords: a promise by positional values -/
theorem FnRK.pos (F : FnRK P w K mg base CX k f n [] sp) (hn : ∀ vs H Q E, sp vs H Q E → vs.length = n) : L2.FnR P w K mg base CX k f sp := fun A outer s H us vs Q E hr e0 r hs => by
  have := F A outer s H us [] vs [] Q E hr e0 r .nil (r.length.symm.trans (hn _ _ _ _ hs)) rfl (by rw [List.append_nil]; exact hs)
  exact this
end
/-- a def behind the top, any defaults -/
structure FunV (K : PySem.W.Frag) (x qual : Str) (st : Stmt) (dV kV : Value) (f : Addr) (fd : FuncData) : Prop where
  ex : ∃ (oc : Value) (od : Option Addr) (doc pm : Value) (an : Option Addr) (cdv ct : Value) (osl : Array (Option Value)),
    fd = PySem.W.fnOf x qual (defArgs st) (defBody st) (defScope st) dV kV doc pm an cdv ct ∧ K.lookup f = some ⟨oc, od, .func fd, osl⟩ ∧ PySem.W.codeIn K cdv qual = true
  kp : PySem.W.keepIn K (.ref f) = true
theorem funV_mk {K : PySem.W.Frag} {x qual : Str} {st : Stmt} {f : Addr} {od an : Option Addr} {osl : Array (Option Value)} {oc dV kV doc pm cdv ct : Value} (lk : K.lookup f = some ⟨oc, od, .func (PySem.W.fnOf x qual (defArgs st) (defBody st) (defScope st) dV kV doc pm an cdv ct), osl⟩) (hc : PySem.W.codeIn K cdv qual = true) (kp : PySem.W.keepIn K (.ref f) = true) :
    FunV K x qual st dV kV f (PySem.W.fnOf x qual (defArgs st) (defBody st) (defScope st) dV kV doc pm an cdv ct) := ⟨⟨oc, od, doc, pm, an, cdv, ct, osl, rfl, lk, hc⟩, kp⟩
theorem fn_okV {P : Program} {w : World} {K : PySem.W.Frag} {mg : Str → Option Value} {base : Heap} {ct : Cn} {x q : Str} {st : Stmt} {dV kV : Value} {f : Addr} {fd : FuncData} {N ps : List Str} {k : Nat} (fx : List Nat) {m : CStm} (F : FunV K x q st dV kV f fd) (S : FnScope N ps (defScope st))
    (body : ∀ (cdv : Value) (A : Around) (outer : List Env) (s : Shared) (H : Hp) (E : XK), Room k (A.deeper (envOfC q (defScope st) s.heap.objs.size f cdv)) →
      Takes (cxOf (L2.CX P w) P w K mg base N q (defScope st) f cdv A outer s H E) (fun cls d _ H => E cls d H) →
      PassesOwn (model P w) (cxOf (L2.CX P w) P w K mg base N q (defScope st) f cdv A outer s H E).A (cxOf (L2.CX P w) P w K mg base N q (defScope st) f cdv A outer s H E).env (cxOf (L2.CX P w) P w K mg base N q (defScope st) f cdv A outer s H E).xe →
      (cxOf (L2.CX P w) P w K mg base N q (defScope st) f cdv A outer s H E).A.units + 65 < cLine →
      CSs (cxOf (L2.CX P w) P w K mg base N q (defScope st) f cdv A outer s H E) ct fx (fun cls d _ H => E cls d H) (defBody st) m) : FnOk P w K mg base (L2.CX P w) (k + 1) f fd ps (spD ⟨K, ct⟩ (bodyF fx N.length m) ps.length) := by
  obtain ⟨oc, od, doc, pm, an, cdv, ct', osl, rfl, lk, hcd⟩ := F.ex
  refine fn_of lk hcd S (fun vs H Q E h => h.1) fun A outer s H vs Q E hr h => ?_
  obtain ⟨t, p, q⟩ := body cdv A outer s H E hr (takes_of rfl rfl rfl rfl) (passes_of rfl) (by have := hr.un; show (A.deeper _).units + 65 < cLine; omega)
  exact ⟨t, p, def_ok q h⟩
/-! ### the syntax rules -/
def CK (X : Cx) (ct : Cn) (W : WX) (kws : List Keyword) (os : List Opd) : Prop := ∃ t, PK X kws t ∧ SA (Gx X ct) W t os
/-- a def called by n values and the keywords ks, sh the defaults between them -/
structure FnK (P : Program) (w : World) (K : PySem.W.Frag) (mg : Str → Option Value) (base : Heap) (ct : Cn) (k : Nat) (x : Str) (n : Nat) (ks : List Str) (sh : List (Option D)) (np : Nat) (F : CFun) : Prop where
  ex : ∃ (f : Addr) (shV : List (Option V)), ShR ⟨K, ct⟩ shV sh ∧ FnRK P w K mg base (L2.CX P w) k f n ks (fun vs H Q E => spD ⟨K, ct⟩ F np (insL shV vs) H Q E) ∧ mg x = some (.ref f) ∧ PySem.W.keepIn K (.ref f) = true
/-- a class made by n values (self among them) and the keywords ks -/
structure MkK (P : Program) (w : World) (K : PySem.W.Frag) (mg : Str → Option Value) (base : Heap) (ct : Cn) (k : Nat) (x : Str) (n : Nat) (ks : List Str) (sh : List (Option D)) (np : Nat) (c : Nat) (F : CFun) : Prop where
  ex : ∃ (f : Addr) (shV : List (Option V)), ShR ⟨K, ct⟩ shV sh ∧ Mk K (ct.ct c) f ∧ mg x = some (.ref (ct.ct c)) ∧ FnRK P w K mg base (L2.CX P w) k f (n + 1) ks (fun vs H Q E => spD ⟨K, ct⟩ F np (insL (none :: shV) vs) H Q E)
section
variable {X : Cx} {ct : Cn} {W : WX} {fx : List Nat} {e : Expr} {es : List Expr} {pos p kpos : Pos} {o : Opd} {os os2 : List Opd} {k k' n np : Nat} {F : CFun} {x : Str} {ks : List Str} {kws : List Keyword} {sh : List (Option D)} {nm : Option Str}
theorem ck_nil : CK X ct W [] [] := ⟨_, pk_nil, SA.nil⟩
theorem ck_cons (h : CO X ct W e o) (t : CK X ct W kws os) : CK X ct W (⟨nm, e, kpos⟩ :: kws) (o :: os) := by
  obtain ⟨t1, p1, q1⟩ := h
  obtain ⟨t2, p2, q2⟩ := t
  exact ⟨_, pk_cons p1 p2, SA.cons q1 q2⟩
theorem run_fnRK {f : Addr} {sp : Sp} {E : XK} {pins : List (Addr × Obj)} {σ : L2.St} {H : Hp} {s : Shared} {Q : VK} {us ws : List Value} {vs zs : List V} (F : FnRK X.prog X.w X.K X.mg X.base (L2.CX X.prog X.w) k f n ks sp) (hr : Room k X.A) (hx : PassesAt (L2.CX X.prog X.w) X σ E)
    (I : L2.Inv X pins σ H s) (r : Vals vs us) (rz : Vals zs ws) (l1 : us.length = n) (l2 : ws.length = ks.length) (h : sp (vs ++ zs) H Q E) : wpAny (model X.prog X.w) X.A (call (.ref f) us (ks.zip ws)) (EP X pins σ Q) X.xe s := by
  refine wpAny_call (codeAny_mono (F X.A X.stack s H us ws vs zs Q E hr I.env0 r rz l1 l2 h) fun z s' hq => ?_)
  cases z with
  | error e => exact hx pins H s e s' I hq
  | ok fl =>
    cases fl with
    | ret u => exact I.after hq
    | next => exact hq.elim
    | brk => exact hq.elim
    | cont => exact hq.elim
def tCallK (n m : Nat) (sp : Sp) (E : L2.St → XK) (t : TA) : TE := fun σ H Q => t σ H fun vs H1 => vs.length = n + m ∧ sp vs H1 Q (E σ)
end
end VS

namespace VS
open PySem L2 PySem.Spec PyProof.Rows
def tLen (n : Nat) (t : TA) : TA := fun σ H Q => t σ H fun vs H1 => vs.length = n ∧ Q vs H1
theorem tLen_nil : tLen 0 tNil = tNil := by
  funext σ H Q
  exact propext ⟨fun h => h.2, fun h => ⟨rfl, h⟩⟩
theorem tLen_cons (n : Nat) (te : TE) (t : TA) : tLen (n + 1) (tCons te t) = tCons te (tLen n t) := by
  funext σ H Q
  show te σ H (fun x H1 => t σ H1 fun xs H2 => (x :: xs).length = n + 1 ∧ Q (x :: xs) H2) = te σ H (fun x H1 => t σ H1 fun xs H2 => xs.length = n ∧ Q (x :: xs) H2)
  congr 1
  funext x H1
  congr 1
  funext xs H2
  exact propext ⟨fun h => ⟨Nat.succ.inj h.1, h.2⟩, fun h => ⟨congrArg Nat.succ h.1, h.2⟩⟩
theorem SA.lenT {Γ : Gm} {W : WX} {t : TA} {os : List Opd} (h : SA Γ W t os) : SA Γ W (tLen os.length t) os := by
  induction h with
  | nil => rw [show tLen [].length tNil = tNil from tLen_nil]; exact SA.nil
  | @cons te ta o os ho _ ih => rw [show tLen (o :: os).length (tCons te ta) = tCons te (tLen os.length ta) from tLen_cons _ _ _]; exact SA.cons ho ih
section
variable {X : Cx} {ct : Cn} {W : WX} {fx : List Nat} {e : Expr} {es : List Expr} {pos p kpos : Pos} {o : Opd} {os os2 : List Opd} {k k' n np : Nat} {F : CFun} {x : Str} {ks : List Str} {kws : List Keyword} {sh : List (Option D)} {nm : Option Str} {shV : List (Option V)} {f C : Addr} {sp : Sp} {E : L2.St → XK} {t tk : TA}
theorem pe_callKW (G : FnRK X.prog X.w X.K X.mg X.base (L2.CX X.prog X.w) k f n ks (fun vs H Q E => sp (insL shV vs) H Q E)) (hr : Room k X.A) (hg : Gl X x) (hm : X.mg x = some (.ref f)) (hk : PySem.W.keepIn X.K (.ref f) = true) (hx : ∀ σ, PassesAt (L2.CX X.prog X.w) X σ (E σ)) (ha : PA X (e :: es) t) (hkw : PK X kws tk)
    (hall : (backToKw pos (keywordEach kws X.env)).all (·.1.isSome) = true) (hks : (backToKw pos (keywordEach kws X.env)).filterMap (·.1) = ks) (hdb : (x == ("__debug__" : Str)) = false)
    (he : starEach (e :: es) X.env = (false, eval e X.env) :: starEach es X.env) (hpl : ((backTo pos (starEach (e :: es) X.env)).any (·.1) || (backToKw pos (keywordEach kws X.env)).any (·.1.isNone)) = false) :
    PE X (.Call (.Name x p) (e :: es) kws pos) (tCallS sp E (tIns (insL shV) (tApp (tLen n t) (tLen ks.length tk)))) := by
  refine ⟨fun pins s σ H Q I h => ?_⟩
  refine wpAny_Call_Name_kw (ld_glob I hg hm ?_ hdb)
  refine PySem.W.callWith_KW (h₀ := X.base) I.ok.mod.kin hk hall (thn (ha.run pos pins s σ H _ I h) fun us s1 ⟨vs, H1, I1, r, l1, q⟩ => ?_) hpl he
  refine thn (hkw.run pos pins s1 σ H1 _ I1 q) fun ws s2 ⟨zs, H2, I2, rz, l2, q2⟩ => ⟨I2.kIn, ?_⟩
  rw [hks]
  exact run_fnRK G hr (hx σ) I2 r rz (r.length.symm.trans l1) (rz.length.symm.trans l2) q2
theorem pe_callKW0 (G : FnRK X.prog X.w X.K X.mg X.base (L2.CX X.prog X.w) k f 0 ks (fun vs H Q E => sp (insL shV vs) H Q E)) (hr : Room k X.A) (hg : Gl X x) (hm : X.mg x = some (.ref f)) (hk : PySem.W.keepIn X.K (.ref f) = true) (hx : ∀ σ, PassesAt (L2.CX X.prog X.w) X σ (E σ)) (hkw : PK X kws tk)
    (hall : (backToKw pos (keywordEach kws X.env)).all (·.1.isSome) = true) (hks : (backToKw pos (keywordEach kws X.env)).filterMap (·.1) = ks) (hdb : (x == ("__debug__" : Str)) = false)
    (hpl : ((backTo pos (starEach [] X.env)).any (·.1) || (backToKw pos (keywordEach kws X.env)).any (·.1.isNone)) = false) :
    PE X (.Call (.Name x p) [] kws pos) (tCallS sp E (tIns (insL shV) (tApp tNil (tLen ks.length tk)))) := by
  refine ⟨fun pins s σ H Q I h => ?_⟩
  refine wpAny_Call_Name_kw (ld_glob I hg hm ?_ hdb)
  refine PySem.W.callWith_KW0 (h₀ := X.base) I.ok.mod.kin hk hall ?_ hpl
  refine thn (hkw.run pos pins s σ H _ I h) fun ws s2 ⟨zs, H2, I2, rz, l2, q2⟩ => ⟨I2.kIn, ?_⟩
  rw [hks]
  exact run_fnRK (us := []) (vs := []) G hr (hx σ) I2 .nil rz rfl (rz.length.symm.trans l2) q2
theorem ce_callK (h : FnK X.prog X.w X.K X.mg X.base ct k x n ks sh np F) (hr : Room k' X.A) (hk : k ≤ k') (hg : Gl X x) (tk : Takes X W) (ha : CA X ct W (e :: es) os) (hkw : CK X ct W kws os2) (hn : os.length = n) (hn2 : os2.length = ks.length) (hsh : nons sh = os.length + os2.length) (hnp : (insO sh (os ++ os2)).length = np)
    (hall : (backToKw pos (keywordEach kws X.env)).all (·.1.isSome) = true := by rfl) (hks : (backToKw pos (keywordEach kws X.env)).filterMap (·.1) = ks := by rfl) (hdb : (x == ("__debug__" : Str)) = false := by decide)
    (he : starEach (e :: es) X.env = (false, eval e X.env) :: starEach es X.env := by rfl) (hpl : ((backTo pos (starEach (e :: es) X.env)).any (·.1) || (backToKw pos (keywordEach kws X.env)).any (·.1.isNone)) = false := by rfl) :
    CE X ct W (.Call (.Name x p) (e :: es) kws pos) (cCall F (insO sh (os ++ os2))) := by
  obtain ⟨f, shV, sr, G, hm, kp⟩ := h.ex
  obtain ⟨t1, p1, q1⟩ := ha
  obtain ⟨t2, p2, q2⟩ := hkw
  subst hn
  refine ⟨_, pe_callKW (fun A outer s H us ws vs zs Q E hr => G A outer s H us ws vs zs Q E (hr.mono hk)) hr hg hm kp (fun σ => passAt tk σ) p1 p2 hall hks hdb he hpl, ?_⟩
  have q2' := q2.lenT
  rw [hn2] at q2'
  exact SE.call (SA.ins sr (q1.lenT.app q2') (by rw [List.length_append]; exact hsh.symm)) hnp
theorem ce_callK0 (h : FnK X.prog X.w X.K X.mg X.base ct k x 0 ks sh np F) (hr : Room k' X.A) (hk : k ≤ k') (hg : Gl X x) (tk : Takes X W) (hkw : CK X ct W kws os2) (hn2 : os2.length = ks.length) (hsh : nons sh = os2.length) (hnp : (insO sh os2).length = np)
    (hall : (backToKw pos (keywordEach kws X.env)).all (·.1.isSome) = true := by rfl) (hks : (backToKw pos (keywordEach kws X.env)).filterMap (·.1) = ks := by rfl) (hdb : (x == ("__debug__" : Str)) = false := by decide)
    (hpl : ((backTo pos (starEach [] X.env)).any (·.1) || (backToKw pos (keywordEach kws X.env)).any (·.1.isNone)) = false := by rfl) :
    CE X ct W (.Call (.Name x p) [] kws pos) (cCall F (insO sh os2)) := by
  obtain ⟨f, shV, sr, G, hm, kp⟩ := h.ex
  obtain ⟨t2, p2, q2⟩ := hkw
  refine ⟨_, pe_callKW0 (fun A outer s H us ws vs zs Q E hr => G A outer s H us ws vs zs Q E (hr.mono hk)) hr hg hm kp (fun σ => passAt tk σ) p2 hall hks hdb hpl, ?_⟩
  have q2' := q2.lenT
  rw [hn2] at q2'
  exact SE.call (SA.ins sr (SA.nil.app q2') hsh.symm) hnp
theorem run_makeSK {E : XK} {pins : List (Addr × Obj)} {σ : L2.St} {H : Hp} {s : Shared} {Q : VK} {us ws : List Value} {vs zs : List V} (M : Mk X.K C f) (G : FnRK X.prog X.w X.K X.mg X.base (L2.CX X.prog X.w) k f (n + 1) ks (fun vs H Q E => sp (insL (none :: shV) vs) H Q E)) (hr : Room (k + 1) X.A) (hx : PassesAt (L2.CX X.prog X.w) X σ E) (I : L2.Inv X pins σ H s) (r : Vals vs us) (rz : Vals zs ws) (l1 : us.length = n) (l2 : ws.length = ks.length)
    (h : ∀ x dx, H x = Option.none → H dx = Option.none → dx ≠ x → sp (V.ref x :: insL shV (vs ++ zs)) (upd (upd H dx (.own x)) x (.ins C dx [])) (fun v H2 => v = .non ∧ Q (.ref x) H2) E) :
    wpAny (model X.prog X.w) X.A (call (.ref C) us (ks.zip ws)) (EP X pins σ Q) X.xe s := by
  have hq := h (s.heap.objs.size + 1) s.heap.objs.size (I.hok.fresh (Nat.le_succ _)) (I.hok.fresh (Nat.le_refl _)) (Nat.ne_of_lt (Nat.lt_succ_self _))
  have I2 := Inv.made (C := C) I
  have r1 : Vals (V.ref (s.heap.objs.size + 1) :: vs) (Value.ref (s.heap.objs.size + 1) :: us) := .cons rfl r
  refine wpAny_call (make_map (f := f) I.kIn M.makes M.init (beq_iff_eq.mp M.fn) (codeAny_mono (G _ X.stack _ _ (Value.ref (s.heap.objs.size + 1) :: us) ws _ _ _ E (hr.make C us (ks.zip ws)) (I2.env0.make C us (ks.zip ws)) r1 rz (congrArg Nat.succ l1) l2 hq) fun r s' hq' => ?_))
  cases r with
  | error e => exact hx pins _ _ e s' I2 hq'
  | ok fl =>
    cases fl with
    | ret u =>
      obtain ⟨v, H', I3, rv, ev, q3⟩ := I2.after hq'
      subst ev
      exact ⟨rv, ⟨V.ref (s.heap.objs.size + 1), H', I3, rfl, q3⟩⟩
    | next => exact False.elim hq'
    | brk => exact False.elim hq'
    | cont => exact False.elim hq'
theorem pe_makeSK (M : Mk X.K C f) (G : FnRK X.prog X.w X.K X.mg X.base (L2.CX X.prog X.w) k f (n + 1) ks (fun vs H Q E => sp (insL (none :: shV) vs) H Q E)) (hr : Room (k + 1) X.A) (hg : Gl X x) (hm : X.mg x = some (.ref C)) (hx : ∀ σ, PassesAt (L2.CX X.prog X.w) X σ (E σ)) (ha : PA X (e :: es) t) (hkw : PK X kws tk)
    (hall : (backToKw pos (keywordEach kws X.env)).all (·.1.isSome) = true) (hks : (backToKw pos (keywordEach kws X.env)).filterMap (·.1) = ks) (hdb : (x == ("__debug__" : Str)) = false)
    (he : starEach (e :: es) X.env = (false, eval e X.env) :: starEach es X.env) (hpl : ((backTo pos (starEach (e :: es) X.env)).any (·.1) || (backToKw pos (keywordEach kws X.env)).any (·.1.isNone)) = false) :
    PE X (.Call (.Name x p) (e :: es) kws pos) (tMakeS C sp E (tIns (insL shV) (tApp (tLen n t) (tLen ks.length tk)))) := by
  refine ⟨fun pins s σ H Q I h => ?_⟩
  refine wpAny_Call_Name_kw (ld_glob I hg hm ?_ hdb)
  refine PySem.W.callWith_KW (h₀ := X.base) I.ok.mod.kin M.kp hall (thn (ha.run pos pins s σ H _ I h) fun us s1 ⟨vs, H1, I1, r, l1, q⟩ => ?_) hpl he
  refine thn (hkw.run pos pins s1 σ H1 _ I1 q) fun ws s2 ⟨zs, H2, I2, rz, l2, q2⟩ => ⟨I2.kIn, ?_⟩
  rw [hks]
  exact run_makeSK M G hr (hx σ) I2 r rz (r.length.symm.trans l1) (rz.length.symm.trans l2) q2
theorem pe_makeSK0 (M : Mk X.K C f) (G : FnRK X.prog X.w X.K X.mg X.base (L2.CX X.prog X.w) k f (0 + 1) ks (fun vs H Q E => sp (insL (none :: shV) vs) H Q E)) (hr : Room (k + 1) X.A) (hg : Gl X x) (hm : X.mg x = some (.ref C)) (hx : ∀ σ, PassesAt (L2.CX X.prog X.w) X σ (E σ)) (hkw : PK X kws tk)
    (hall : (backToKw pos (keywordEach kws X.env)).all (·.1.isSome) = true) (hks : (backToKw pos (keywordEach kws X.env)).filterMap (·.1) = ks) (hdb : (x == ("__debug__" : Str)) = false)
    (hpl : ((backTo pos (starEach [] X.env)).any (·.1) || (backToKw pos (keywordEach kws X.env)).any (·.1.isNone)) = false) :
    PE X (.Call (.Name x p) [] kws pos) (tMakeS C sp E (tIns (insL shV) (tApp tNil (tLen ks.length tk)))) := by
  refine ⟨fun pins s σ H Q I h => ?_⟩
  refine wpAny_Call_Name_kw (ld_glob I hg hm ?_ hdb)
  refine PySem.W.callWith_KW0 (h₀ := X.base) I.ok.mod.kin M.kp hall ?_ hpl
  refine thn (hkw.run pos pins s σ H _ I h) fun ws s2 ⟨zs, H2, I2, rz, l2, q2⟩ => ⟨I2.kIn, ?_⟩
  rw [hks]
  exact run_makeSK (us := []) (vs := []) M G hr (hx σ) I2 .nil rz rfl (rz.length.symm.trans l2) q2
theorem ce_makeK {c : Nat} (h : MkK X.prog X.w X.K X.mg X.base ct k x n ks sh np c F) (hr : Room k' X.A) (hk : k + 1 ≤ k') (hg : Gl X x) (tk : Takes X W) (ha : CA X ct W (e :: es) os) (hkw : CK X ct W kws os2) (hn : os.length = n) (hn2 : os2.length = ks.length) (hsh : nons sh = os.length + os2.length) (hnp : (insO sh (os ++ os2)).length + 1 = np)
    (hall : (backToKw pos (keywordEach kws X.env)).all (·.1.isSome) = true := by rfl) (hks : (backToKw pos (keywordEach kws X.env)).filterMap (·.1) = ks := by rfl) (hdb : (x == ("__debug__" : Str)) = false := by decide)
    (he : starEach (e :: es) X.env = (false, eval e X.env) :: starEach es X.env := by rfl) (hpl : ((backTo pos (starEach (e :: es) X.env)).any (·.1) || (backToKw pos (keywordEach kws X.env)).any (·.1.isNone)) = false := by rfl) :
    CE X ct W (.Call (.Name x p) (e :: es) kws pos) (cMake c F (insO sh (os ++ os2))) := by
  obtain ⟨f, shV, sr, M, hm, G⟩ := h.ex
  obtain ⟨t1, p1, q1⟩ := ha
  obtain ⟨t2, p2, q2⟩ := hkw
  subst hn
  refine ⟨_, pe_makeSK M G (hr.mono hk) hg hm (fun σ => passAt tk σ) p1 p2 hall hks hdb he hpl, ?_⟩
  have q2' := q2.lenT
  rw [hn2] at q2'
  exact SE.make (Γ := Gx X ct) (SA.ins sr (q1.lenT.app q2') (by rw [List.length_append]; exact hsh.symm)) hnp
theorem ce_makeK0 {c : Nat} (h : MkK X.prog X.w X.K X.mg X.base ct k x 0 ks sh np c F) (hr : Room k' X.A) (hk : k + 1 ≤ k') (hg : Gl X x) (tk : Takes X W) (hkw : CK X ct W kws os2) (hn2 : os2.length = ks.length) (hsh : nons sh = os2.length) (hnp : (insO sh os2).length + 1 = np)
    (hall : (backToKw pos (keywordEach kws X.env)).all (·.1.isSome) = true := by rfl) (hks : (backToKw pos (keywordEach kws X.env)).filterMap (·.1) = ks := by rfl) (hdb : (x == ("__debug__" : Str)) = false := by decide)
    (hpl : ((backTo pos (starEach [] X.env)).any (·.1) || (backToKw pos (keywordEach kws X.env)).any (·.1.isNone)) = false := by rfl) :
    CE X ct W (.Call (.Name x p) [] kws pos) (cMake c F (insO sh os2)) := by
  obtain ⟨f, shV, sr, M, hm, G⟩ := h.ex
  obtain ⟨t2, p2, q2⟩ := hkw
  refine ⟨_, pe_makeSK0 M G (hr.mono hk) hg hm (fun σ => passAt tk σ) p2 hall hks hdb hpl, ?_⟩
  have q2' := q2.lenT
  rw [hn2] at q2'
  exact SE.make (Γ := Gx X ct) (SA.ins sr (SA.nil.app q2') hsh.symm) hnp
end
/-! the promises of a def with defaults, by the way it is called -/
section
variable {P : Program} {w : World} {K : PySem.W.Frag} {mg : Str → Option Value} {base : Heap} {ct : Cn} {k n np : Nat} {x : Str} {f : Addr} {fd : FuncData} {ps ks : List Str} {F : CFun} {sh : List (Option D)} {shV : List (Option V)} {shU : List (Option Value)}
theorem fnK_mk (G : FnOk P w K mg base (L2.CX P w) k f fd ps (spD ⟨K, ct⟩ F np)) (hm : mg x = some (.ref f)) (kp : PySem.W.keepIn K (.ref f) = true) (hb : BndK K fd ps n ks shU) (hu : ShU shV shU) (hr : ShR ⟨K, ct⟩ shV sh) : FnK P w K mg base ct k x n ks sh np F :=
  ⟨f, shV, hr, fnOk_rawK G hb hu, hm, kp⟩
theorem mkK_mk {c : Nat} (G : FnOk P w K mg base (L2.CX P w) k f fd ps (spD ⟨K, ct⟩ F np)) (M : Mk K (ct.ct c) f) (hm : mg x = some (.ref (ct.ct c))) (hb : BndK K fd ps (n + 1) ks (none :: shU)) (hu : ShU shV shU) (hr : ShR ⟨K, ct⟩ shV sh) : MkK P w K mg base ct k x n ks sh np c F :=
  ⟨f, shV, hr, M, hm, fnOk_rawK G hb (.arg hu)⟩
end
/-! how the values are bound -/
section
variable {K : PySem.W.Frag} {fd : FuncData} {ps ks : List Str} {n : Nat} {shU : List (Option Value)}
theorem bnd_pure (h : ∀ us ws : List Value, us.length = n → ws.length = ks.length → bindArgs fd ⟨us, ks.zip ws⟩ = pure (ps.zip (insL shU (us ++ ws)))) : BndK K fd ps n ks shU := fun s us ws _ l1 l2 => .of_eq (h us ws l1 l2)
/-- with positional defaults -/
theorem bnd_dfl {T : Addr} {o : Obj} {its : Array Value} {m : Nat} (lT : K.lookup T = some o) (oT : o.data = .seq its m)
    (h : ∀ us ws : List Value, us.length = n → ws.length = ks.length → ∃ k, bindArgs fd ⟨us, ks.zip ws⟩ = seqItems? (.ref T) >>= k ∧ k (some its) = pure (ps.zip (insL shU (us ++ ws)))) : BndK K fd ps n ks shU := fun s us ws X l1 l2 => by
  obtain ⟨k, e1, e2⟩ := h us ws l1 l2
  refine BindsTo.of_looks fun M => ?_
  rw [e1]
  exact looks_items X lT oT (.of_pure e2)
/-- with keyword-only defaults -/
theorem bnd_kwd {Dk : Addr} {l : List (Str × Value)} (hl : ∀ q ∈ l, PySem.W.nsIn K Dk q.1 = some (some q.2))
    (h : ∀ us ws : List Value, us.length = n → ws.length = ks.length → KwChain Dk l (bindArgs fd ⟨us, ks.zip ws⟩) (ps.zip (insL shU (us ++ ws)))) : BndK K fd ps n ks shU := fun s us ws X l1 l2 =>
  BindsTo.of_looks fun M => KwChain.looks X hl (h us ws l1 l2)
/-- with both -/
theorem bnd_both {T Dk : Addr} {o : Obj} {its : Array Value} {m : Nat} {l : List (Str × Value)} (lT : K.lookup T = some o) (oT : o.data = .seq its m) (hl : ∀ q ∈ l, PySem.W.nsIn K Dk q.1 = some (some q.2))
    (h : ∀ us ws : List Value, us.length = n → ws.length = ks.length → ∃ k, bindArgs fd ⟨us, ks.zip ws⟩ = seqItems? (.ref T) >>= k ∧ KwChain Dk l (k (some its)) (ps.zip (insL shU (us ++ ws)))) : BndK K fd ps n ks shU := fun s us ws X l1 l2 => by
  obtain ⟨k, e1, e2⟩ := h us ws l1 l2
  refine BindsTo.of_looks fun M => ?_
  rw [e1]
  exact looks_items X lT oT (KwChain.looks X hl e2)
end
end VS

namespace VS
open PySem L2 PySem.Spec PyProof.Rows
/-! ### own __iter__: return iter(self.f) -/
abbrev ItOb (l it : Addr) (i : Nat) : HO := ItO l it i
def spIt (K : PySem.W.Frag) (C : Addr) (fl : Str) (n : Nat) : Sp := fun vs H Q _ => ∃ a dx fs l zs, vs = [V.ref a] ∧ H a = some (.ins C dx fs) ∧ fs.lookup fl = some (.ref l) ∧ SqL K H l zs ∧ ∀ it, H it = none → n ≤ it → Q (.ref it) (upd H it (ItO l it 0))
def ItR (P : Program) (w : World) (K : PySem.W.Frag) (mg : Str → Option Value) (base : Heap) (k : Nat) (f C : Addr) (fl : Str) : Prop :=
  ∀ (A : Around) (outer : List Env) (s : Shared) (H : Hp) (us : List Value) (vs : List V) (Q : VK) (E : XK), Room k A → Env0 P w K mg base A outer s H → Vals vs us → spIt K C fl s.heap.objs.size vs H Q E →
    codeAny (model P w) A (.call (.ref f) ⟨us, []⟩) (CR (L2.CX P w) outer P w H s Q E) s
/-- a def by its body; what is promised may look at the size of the heap -/
theorem fn_atN {CX : CXT} {P : Program} {w : World} {K : PySem.W.Frag} {mg : Str → Option Value} {base : Heap} {k : Nat} {f : Addr} {name qual : Str} {params : Arguments} {body : List Stmt} {scope : Scope} {dV kV doc pm cdv ct oc : Value} {an od : Option Addr}
    {osl : Array (Option Value)} {N ps : List Str} {sp : Nat → Sp} (lk : K.lookup f = some ⟨oc, od, .func (PySem.W.fnOf name qual params body scope dV kV doc pm an cdv ct), osl⟩) (hcd : PySem.W.codeIn K cdv qual = true) (S : FnScope N ps scope)
    (len : ∀ n vs H Q E, sp n vs H Q E → vs.length = ps.length)
    (hbody : ∀ (A : Around) (outer : List Env) (s : Shared) (H : Hp) (vs : List V) (Q : VK) (E : XK), Room k (A.deeper (envOfC qual scope s.heap.objs.size f cdv)) → sp s.heap.objs.size vs H Q E →
      ∃ t, PSs (cxOf CX P w K mg base N qual scope f cdv A outer s H E) body t ∧ t { nx := fun _ H' => Q .non H', rt := Q } (start N vs) H)
    (A : Around) (outer : List Env) (s : Shared) (H : Hp) (args : Args) (us : List Value) (vs : List V) (Q : VK) (E : XK) (hr : Room (k + 1) A) (e0 : Env0 P w K mg base A outer s H) (hb : BindsTo s (PySem.W.fnOf name qual params body scope dV kV doc pm an cdv ct) args (ps.zip us)) (r : Vals vs us) (hsp : sp s.heap.objs.size vs H Q E) :
    codeAny (model P w) A (.call (.ref f) args) (CR CX outer P w H s Q E) s := by
  have hl := len _ _ _ _ _ hsp
  have KX : K.In s.heap := e0.mod.kin.keeps fun b o e => (e0.bs b o e).1
  have lim : s.heap.NoLimit := e0.mod.nolimit.keeps fun b o e => (e0.bs b o e).1
  have hkind : ∀ y ∈ ps.zip us, scope.names.lookup y.1 = some .local ∨ (scope.names.lookup y.1 = some .cell ∧ ((cellsFrom (s.heap.objs.size + 1) scope.names []).lookup y.1).isSome = true) := fun ⟨n, v⟩ hy => by
    rcases S.par n (List.of_mem_zip hy).1 with q | q
    · exact .inl q
    · exact .inr ⟨q, PySem.W.cellsFrom_some _ _ _ (.inl q)⟩
  refine codeAny_call_function hr.depth (KX _ _ lk) rfl S.co S.gen rfl (PySem.W.codeRec_of KX hcd) (hb _ _ _ _ ?_)
  refine wpAny_newFunctionEnv_cells S.kind hkind fun env he s1 x => ?_
  subst he
  refine ⟨lim.keeps x.toInCall.keep, codeAny_func ?_⟩
  obtain ⟨t, ht, hq⟩ := hbody A outer s H vs Q E (hr.deeper _) hsp
  have I : L2.Inv (cxOf CX P w K mg base N qual scope f cdv A outer s H E) [] (start N vs) H s1 := inv_start S hr.hd e0 hl r x
  refine wpAny_mono (ht.run [] s1 (start N vs) H _ I hq) (fun fl s' hs => ?_) fun e s' hs => hs
  have fin : ∀ {σ' : L2.St} {H' : Hp} {v : V} {u : Value}, L2.Inv (cxOf CX P w K mg base N qual scope f cdv A outer s H E) [] σ' H' s' → RelV v u → Q v H' → L2.CE outer P w H s Q u s' :=
    fun {σ' H' v u} J rv q => ⟨v, H', J.os, J.bare, J.base, J.hok, rv, q⟩
  cases fl with
  | ret u =>
    obtain ⟨v, σ', H', J, rv, q⟩ := hs
    exact fin J rv q
  | next =>
    obtain ⟨σ', H', J, q⟩ := hs
    exact fin (v := V.non) (u := Value.none) J rfl q
  | brk =>
    obtain ⟨_, _, _, q⟩ := hs
    exact False.elim q
  | cont =>
    obtain ⟨_, _, _, q⟩ := hs
    exact False.elim q
theorem itR_mk {P : Program} {w : World} {K : PySem.W.Frag} {mg : Str → Option Value} {base : Heap} {x q : Str} {st : Stmt} {f C : Addr} {fd : FuncData} {fl : Str} {p1 p2 p3 p4 p5 : Pos} (F : L2.Fun K x q st f fd) (S : FnScope ["self"] ["self"] (defScope st)) (hb : Binds K fd ["self"] []) (c : Cls K C) (no : NoAttr K C fl) (mi : mg "iter" = none)
    (gi : ∀ cdv A outer s H E, Gl (cxOf (L2.CX P w) P w K mg base ["self"] q (defScope st) f cdv A outer s H E) "iter")
    (hv : ∀ cdv A outer s H E, Vis (cxOf (L2.CX P w) P w K mg base ["self"] q (defScope st) f cdv A outer s H E).env.scope "self")
    (hbody : defBody st = [.Return (some (.Call (.Name "iter" p1) [.Attribute (.Name "self" p2) fl p3] [] p4)) p5]) : ItR P w K mg base 1 f C fl := by
  intro A outer s H us vs Q E hr e0 r h
  obtain ⟨oc, od, kV, doc, pm, an, cdv, ct, osl, rfl, lk, hcd⟩ := F.ex
  have hl : vs.length = 1 := by
    obtain ⟨a, dx, fs, l, zs, rfl, _⟩ := h
    rfl
  have hb' : BindsTo s (PySem.W.fnOf x q (defArgs st) (defBody st) (defScope st) .none kV doc pm an cdv ct) ⟨us, []⟩ ((["self"] : List Str).zip us) := by
    have := hb s us (e0.mod.kin.keeps fun b o e => (e0.bs b o e).1) (by rw [List.append_nil, ← r.length, hl]; rfl)
    rw [List.append_nil] at this
    exact this
  refine fn_atN (sp := spIt K C fl) (k := 0) lk hcd S (fun n vs H Q E h => ?_) (fun A outer s H vs Q E hr h => ?_) A outer s H ⟨us, []⟩ us vs Q E hr e0 hb' r h
  · obtain ⟨a, dx, fs, l, zs, rfl, _⟩ := h
    rfl
  · obtain ⟨a, dx, fs, l, zs, rfl, h1, h2, h3, h4⟩ := h
    rw [hbody]
    refine ⟨_, pss_one (ps_ret (pe_callB ItX.call_iterN (gi cdv A outer s H E) mi (by decide +kernel) (pa_cons (pe_fld (pe_var (i := 0) rfl (hv cdv A outer s H E) (by decide) (by decide)) rfl) pa_nil rfl) (by decide) (by decide) rfl rfl)), ?_⟩
    refine ⟨.ref a, rfl, a, C, dx, fs, .ref l, rfl, h1, c, no, h2, l, zs, rfl, h3, h4⟩
/-- what is known of the class c: its instances are walked by the list in the field fl -/
structure IOk (P : Program) (w : World) (K : PySem.W.Frag) (mg : Str → Option Value) (base : Heap) (ct : Cn) (k : Nat) (c : Nat) (fl : Str) : Prop where
  ex : ∃ f : Addr, PySem.W.findIn K (.ref (ct.ct c)) "__iter__" = some (some (.ref f)) ∧ PySem.W.isFn K (.ref f) = true ∧ ItR P w K mg base k f (ct.ct c) fl
def ItT (P : Program) (w : World) (K : PySem.W.Frag) (mg : Str → Option Value) (base : Heap) (ct : Cn) (k : Nat) (tb : List (Nat × Str)) : Prop := ∀ c fl, tb.lookup c = some fl → IOk P w K mg base ct k c fl
theorem it_nil {P : Program} {w : World} {K : PySem.W.Frag} {mg : Str → Option Value} {base : Heap} {ct : Cn} {k : Nat} : ItT P w K mg base ct k [] := fun _ _ h => by cases h
theorem it_cons {P : Program} {w : World} {K : PySem.W.Frag} {mg : Str → Option Value} {base : Heap} {ct : Cn} {k c : Nat} {fl : Str} {tb : List (Nat × Str)} (h : IOk P w K mg base ct k c fl) (t : ItT P w K mg base ct k tb) : ItT P w K mg base ct k ((c, fl) :: tb) := fun c' fl' e => by
  rw [List.lookup_cons] at e
  cases q : (c' == c) with
  | true =>
    rw [q] at e
    cases e
    have := beq_iff_eq.mp q
    subst this
    exact h
  | false => rw [q] at e; exact t c' fl' e
def iOwn (K : PySem.W.Frag) (ct : Cn) (tb : List (Nat × Str)) (tl : TE) : TI := fun σ H R => tl σ H fun x H1 =>
  ((∃ a, x = .ref a ∧ (∃ xs, SqL K H1 a xs) ∧ R (Itl K a) H1) ∨ (∃ a, x = .ref a ∧ (∃ xs, SqT K H1 a xs) ∧ R (Itt K a) H1) ∨ (∃ z, x = .str z ∧ R (Its z) H1)) ∨
  (∃ a c dx fs l zs fl, x = .ref a ∧ H1 a = some (.ins (ct.ct c) dx fs) ∧ tb.lookup c = some fl ∧ fs.lookup fl = some (.ref l) ∧ SqL K H1 l zs ∧ R (Itl K l) H1)
section
variable {X : Cx} {ct : Cn} {W : WX} {k k' : Nat} {tb : List (Nat × Str)} {tg l : Expr} {tl : TE}
theorem own_iter {pins : List (Addr × Obj)} {σ : L2.St} {H : Hp} {s : Shared} {A : Around} {Q : Value → Shared → Prop} {E : Value → Shared → Prop} {a c dx l : Addr} {fs : List (Str × V)} {zs : List V} {fl : Str} (hT : ItT X.prog X.w X.K X.mg X.base ct k tb) (sb : L2.Sub X k A)
    (I : L2.Inv X pins σ H s) (ha : H a = some (.ins (ct.ct c) dx fs)) (hl : tb.lookup c = some fl) (hf : fs.lookup fl = some (.ref l)) (hq : SqL X.K H l zs)
    (h : ∀ it s', L2.Inv X pins σ (upd H it (ItO l it 0)) s' → H it = none → s.heap.objs.size ≤ it → Q (.ref it) s') : wpAny (model X.prog X.w) A (pyIter (.ref a)) Q E s := by
  obtain ⟨f, e1, e2, G⟩ := (hT c fl hl).ex
  obtain ⟨mA, J, _⟩ := ins_get I.hok ha
  obtain ⟨od, J, _⟩ := J.look
  obtain ⟨m0, hF⟩ := I.fr
  refine PySem.W.owit_iter hF I.ok.mod.kin J e1 e2 ?_
  have e0 : Env0 X.prog X.w X.K X.mg X.base A X.stack s H := by
    have e := I.env0
    exact ⟨by rw [sb.fr]; exact e.frames, e.mod, e.bs, e.bsz, e.funs, e.frf, e.hok, e.bare⟩
  refine wpAny_call (codeAny_mono (G A X.stack s H [.ref a] [.ref a] (fun v H' => ∃ it, v = .ref it ∧ H' = upd H it (ItO l it 0) ∧ H it = none ∧ s.heap.objs.size ≤ it) (fun _ _ _ => False) sb.room e0 (.cons rfl .nil) ⟨a, dx, fs, l, zs, rfl, ha, hf, hq, fun it hn hz => ⟨it, rfl, rfl, hn, hz⟩⟩) fun r s' hq' => ?_)
  cases r with
  | error e =>
    obtain ⟨_, _, _, _, _, _, _, _, _, _, _, _, hE⟩ := hq'
    exact hE.elim
  | ok r =>
    cases r with
    | next => exact False.elim hq'
    | brk => exact False.elim hq'
    | cont => exact False.elim hq'
    | ret u =>
      obtain ⟨v, H', I', rv, it, ev, eH, hn, hz⟩ := I.after hq'
      subst ev
      rw [eH] at I'
      cases rv
      have eo := itO_get I' (it := it) (l := l) (i := 0) upd_same
      exact wpAny_specialOf (T := "list_iterator") ⟨_, eo, rfl⟩ slot_listiter_next.lookup (h it s' I' hn hz)
theorem pi_own (hT : ItT X.prog X.w X.K X.mg X.base ct k tb) (hr : Room k X.A) (hl : PE X l tl) : PI X tg l (iOwn X.K ct tb tl) := by
  refine ⟨fun pins s σ H R I h => ?_⟩
  have P0 := (pi_seq (X := X) (tg := tg) hl).run
  refine thn (hl.run pins s σ H _ I h) fun v s1 ⟨x, H1, I1, r1, q1⟩ => ?_
  rcases q1 with q1 | ⟨a, c, dx, fs, l, zs, fl, rfl, ha, e1, e2, e3, q⟩
  · rcases q1 with ⟨a, e, ⟨xs, hq⟩, q⟩ | ⟨a, e, ⟨xs, hq⟩, q⟩ | ⟨z, e, q⟩
    · subst e
      cases r1
      obtain ⟨its, rv, p, hz⟩ := I1.list hq
      refine wpAny_pyIter_list p.isList ?_
      refine ⟨s1.heap.objs.size, [s1.heap.objs.size], _, _, H1, rfl, I1.kept (t' := s1.toks) fun b o e => Heap.get?_push_of_some _ e, turn_list a _, ⟨_, Heap.get?_push_size _ rfl, rfl, rfl⟩, fun b hb => ?_, q⟩
      have e : b = s1.heap.objs.size := by simpa using hb
      subst e
      exact I1.fpOk (Nat.le_refl _) (I1.hok.fresh (Nat.le_refl _))
    · subst e
      cases r1
      obtain ⟨its, rv, p, hz⟩ := I1.tuple hq
      refine wpAny_pyIter_tuple (show s1.heap.IsTuple a its.toArray from p) ?_
      refine ⟨s1.heap.objs.size, [s1.heap.objs.size], _, _, H1, rfl, I1.kept (t' := s1.toks) fun b o e => Heap.get?_push_of_some _ e, turn_tuple a _, ⟨_, Heap.get?_push_size _ rfl, rfl, rfl⟩, fun b hb => ?_, q⟩
      have e : b = s1.heap.objs.size := by simpa using hb
      subst e
      exact I1.fpOk (Nat.le_refl _) (I1.hok.fresh (Nat.le_refl _))
    · subst e
      obtain ⟨t, rfl⟩ := r1
      cases ha : z.cps.all (· < 128)
      · exact wpAny_pyIter_wide ha (pi_one (tk := s1.toks) I1 _ (turn_str _ z t "str_iterator" (.inr rfl)) ⟨_, Heap.get?_push_size _ rfl, rfl, rfl⟩ q)
      · exact wpAny_pyIter_ascii ha (pi_one (tk := s1.toks) I1 _ (turn_str _ z t "str_ascii_iterator" (.inl rfl)) ⟨_, Heap.get?_push_size _ rfl, rfl, rfl⟩ q)
  · obtain rfl : v = Value.ref a := r1
    refine own_iter hT ⟨hr, rfl⟩ I1 ha e1 e2 e3 fun it s2 I2 hn hz => ?_
    have hi : upd H1 it (ItO l it 0) it = some (ItO l it 0) := upd_same
    have eo := itO_get I2 hi
    have hi' := hi
    unfold ItO at hi'
    have I3 := ItX.inv_drop I2 hi'
    have ed : ItX.dropH (upd H1 it (ItO l it 0)) it = H1 := ItX.dropH_upd hn
    have fp := ItX.inv_fp I2 hi (Nat.le_trans I1.sz hz)
    rw [ed] at fp
    rw [ed] at I3
    refine ⟨it, [it], _, _, H1, rfl, I3, turn_list l it, ⟨_, eo, rfl, rfl⟩, fun b hb => ?_, q⟩
    have e : b = it := by simpa using hb
    subst e
    exact fp
end
/-- what is walked: a list, a tuple, a text, or an object by its list -/
def seqC (tb : List (Nat × Str)) : D → Option (List D)
  | .obj c fs => match tb.lookup c with
    | some fl => (match fs.lookup fl with
      | some (.lst xs) => some xs
      | _ => none)
    | none => none
  | d => seqD d
def cItC (tb : List (Nat × Str)) (m : CExp) : CIt := fun ρ => (m ρ).bind fun s ρ1 => match seqC tb s.1 with
  | some ds => .ok ds ρ1
  | none => .stuck
section
variable {Γ : Gm} {W : WX}
theorem seqC_eq {tb : List (Nat × Str)} {d : D} (h : ∀ c fs, d ≠ .obj c fs) : seqC tb d = seqD d := by
  cases d <;> first | rfl | exact absurd rfl (h _ _)
theorem SI.own {tb : List (Nat × Str)} {tl : TE} {m : CExp} (h : SE Γ W tl m) : SI Γ W (iOwn Γ.K Γ.cn tb tl) (cItC tb m) := by
  intro Z σ ρ H R F k
  refine h.val F ?_
  unfold cItC at k
  revert k
  cases m ρ with
  | exc c fs ρ' => exact fun k => k
  | stuck => exact fun k => k
  | ok s ρ1 =>
    obtain ⟨d, b⟩ := s
    cases d with
    | obj c fs =>
      intro k v H1 f1 s1 r
      simp only [Res.bind_ok, seqC] at k
      cases q1 : tb.lookup c with
      | none => rw [q1] at k; exact k.elim
      | some fl =>
        rw [q1] at k
        simp only at k
        cases q2 : fs.lookup fl with
        | none => rw [q2] at k; exact k.elim
        | some d =>
          rw [q2] at k
          cases d with
          | lst xs =>
            simp only at k
            cases r with
            | @obj a dx vs _ _ h n e r =>
              obtain ⟨v, e1, rv⟩ := lookup_reps e r q2
              cases rv with
              | @lst l ws _ hl nl rl => exact .inr ⟨a, c, dx, vs, l, ws, fl, rfl, h, q1, e1, SqL.of hl, k _ _ H1 f1 s1 wk_list ⟨ws, SqL.of hl, rl, .inl ⟨hl, nl⟩⟩⟩
          | _ => exact k.elim
    | lst xs =>
      intro k v H1 f1 s1 r
      cases r with
      | @lst a vs _ h n r => exact .inl (.inl ⟨a, rfl, ⟨vs, SqL.of h⟩, k _ _ H1 f1 s1 wk_list ⟨vs, SqL.of h, r, .inl ⟨h, n⟩⟩⟩)
    | scr ns =>
      intro k v H1 f1 s1 r
      cases r with
      | @scr a _ h =>
        refine .inl (.inl ⟨a, rfl, ⟨_, h.sq⟩, k _ _ H1 f1 s1 wk_list ⟨_, h.sq, ints_reps ns, .inr ⟨?_, ?_⟩⟩⟩)
        · rw [ints_fm]; exact h
        · rw [ints_fm]
    | tup xs =>
      intro k v H1 f1 s1 r
      cases r with
      | @tup a vs _ h r => exact .inl (.inr (.inl ⟨a, rfl, ⟨vs, SqT.of h⟩, k _ _ H1 f1 s1 wk_tup ⟨vs, .inl h, r⟩⟩))
    | ktup xs =>
      intro k v H1 f1 s1 r
      cases r with
      | @ktup a vs _ h r => exact .inl (.inr (.inl ⟨a, rfl, ⟨vs, .inr h⟩, k _ _ H1 f1 s1 wk_tup ⟨vs, .inr h, r⟩⟩))
    | str z =>
      intro k v H1 f1 s1 r
      cases r with
      | str _ h => exact .inl (.inr (.inr ⟨z, rfl, k _ _ H1 f1 s1 (wk_str h) trivial⟩))
    | _ => exact fun k => k.elim
end
section
variable {X : Cx} {ct : Cn} {W : WX} {k k' : Nat} {tb : List (Nat × Str)} {tg e : Expr} {m : CExp}
theorem ci_own (hT : ItT X.prog X.w X.K X.mg X.base ct k tb) (hr : Room k' X.A) (hk : k ≤ k') (h : CE X ct W e m) : CI X ct W tg e (cItC tb m) := by
  obtain ⟨t, p, q⟩ := h
  exact ⟨_, pi_own hT (hr.mono hk) p, SI.own (Γ := Gx X ct) q⟩
end
@[simp] theorem e_cItC (tb : List (Nat × Str)) (m : CExp) (ρ : Sl) : cItC tb m ρ = (m ρ).bind fun s ρ1 => match seqC tb s.1 with | some ds => .ok ds ρ1 | none => .stuck := rfl
@[simp] theorem e_seqC_l (tb : List (Nat × Str)) (xs : List D) : seqC tb (.lst xs) = some xs := rfl
@[simp] theorem e_seqC_t (tb : List (Nat × Str)) (xs : List D) : seqC tb (.tup xs) = some xs := rfl
@[simp] theorem e_seqC_kt (tb : List (Nat × Str)) (xs : List D) : seqC tb (.ktup xs) = some xs := rfl
@[simp] theorem e_seqC_s (tb : List (Nat × Str)) (ns : List Int) : seqC tb (.scr ns) = some (ns.map D.int) := rfl
@[simp] theorem e_seqC_str (tb : List (Nat × Str)) (z : Str) : seqC tb (.str z) = some (signsD z) := rfl
@[simp] theorem e_seqC_o (tb : List (Nat × Str)) (c : Nat) (fs : List (Str × D)) : seqC tb (.obj c fs) = match tb.lookup c with
    | some fl => (match fs.lookup fl with
      | some (.lst xs) => some xs
      | _ => none)
    | none => none := rfl
@[simp] theorem e_lookN {β : Type} (a b : Nat) (v : β) (r : List (Nat × β)) : List.lookup a ((b, v) :: r) = if a = b then some v else List.lookup a r := by
  by_cases h : a = b
  · subst h; simp [List.lookup]
  · have : (a == b) = false := by simpa using h
    rw [List.lookup, this, if_neg h]
@[simp] theorem e_lookNN {β : Type} (a b : Nat × Nat) (v : β) (r : List ((Nat × Nat) × β)) : List.lookup a ((b, v) :: r) = if a = b then some v else List.lookup a r := by
  by_cases h : a = b
  · subst h; simp [List.lookup]
  · have : (a == b) = false := by simpa using h
    rw [List.lookup, this, if_neg h]
@[simp] theorem e_lookNS {β : Type} (a b : Nat × String) (v : β) (r : List ((Nat × String) × β)) : List.lookup a ((b, v) :: r) = if a = b then some v else List.lookup a r := by
  by_cases h : a = b
  · subst h; simp [List.lookup]
  · have : (a == b) = false := by simpa using h
    rw [List.lookup, this, if_neg h]
end VS

namespace VS
open PySem L2 PySem.Spec PyProof.Rows
/-! ### list(o), o with own __iter__ and __len__ -/
def spLn (K : PySem.W.Frag) (C : Addr) (fl : Str) : Sp := fun vs H Q _ => ∃ a dx fs l zs, vs = [V.ref a] ∧ H a = some (.ins C dx fs) ∧ fs.lookup fl = some (.ref l) ∧ H l = some (.lst zs) ∧ Q (.int zs.length) H
theorem lnR_mk {P : Program} {w : World} {K : PySem.W.Frag} {mg : Str → Option Value} {base : Heap} {x q : Str} {st : Stmt} {f C : Addr} {fd : FuncData} {fl : Str} {p1 p2 p3 p4 p5 : Pos} (F : L2.Fun K x q st f fd) (S : FnScope ["self"] ["self"] (defScope st)) (hb : Binds K fd ["self"] []) (c : Cls K C) (no : NoAttr K C fl) (mi : mg "len" = none)
    (gi : ∀ cdv A outer s H E, Gl (cxOf (L2.CX P w) P w K mg base ["self"] q (defScope st) f cdv A outer s H E) "len")
    (hv : ∀ cdv A outer s H E, Vis (cxOf (L2.CX P w) P w K mg base ["self"] q (defScope st) f cdv A outer s H E).env.scope "self")
    (hbody : defBody st = [.Return (some (.Call (.Name "len" p1) [.Attribute (.Name "self" p2) fl p3] [] p4)) p5]) : L2.FnR P w K mg base (L2.CX P w) 1 f (spLn K C fl) := by
  have G : FnOk P w K mg base (L2.CX P w) 1 f fd ["self"] (spLn K C fl) := by
    refine F.okX (k := 0) S (fun vs H Q E h => ?_) fun cdv A outer s H vs Q E hr h => ?_
    · obtain ⟨a, dx, fs, l, zs, rfl, _⟩ := h
      rfl
    · obtain ⟨a, dx, fs, l, zs, rfl, h1, h2, h3, h4⟩ := h
      rw [hbody]
      refine ⟨_, pss_one (ps_ret (pe_callB cr_len (gi cdv A outer s H E) mi (by decide +kernel) (pa_cons (pe_fld (pe_var (i := 0) rfl (hv cdv A outer s H E) (by decide) (by decide)) rfl) pa_nil rfl) (by decide) (by decide) rfl rfl)), ?_⟩
      refine ⟨.ref a, rfl, a, C, dx, fs, .ref l, rfl, h1, c, no, h2, ?_⟩
      exact .inl ⟨.ref l, zs.length, rfl, .inl ⟨zs, SqL.of h3, rfl⟩, h4⟩
  exact (G.raw hb .nil).imp fun vs H Q E h => by rw [List.append_nil]; exact h
structure LOk (P : Program) (w : World) (K : PySem.W.Frag) (mg : Str → Option Value) (base : Heap) (ct : Cn) (k : Nat) (c : Nat) (fl : Str) : Prop where
  it : IOk P w K mg base ct k c fl
  ex : ∃ f : Addr, PySem.W.findIn K (.ref (ct.ct c)) "__len__" = some (some (.ref f)) ∧ PySem.W.isFn K (.ref f) = true ∧ L2.FnR P w K mg base (L2.CX P w) k f (spLn K (ct.ct c) fl)
def LnT (P : Program) (w : World) (K : PySem.W.Frag) (mg : Str → Option Value) (base : Heap) (ct : Cn) (k : Nat) (tb : List (Nat × Str)) : Prop := ∀ c fl, tb.lookup c = some fl → LOk P w K mg base ct k c fl
theorem ln_nil {P : Program} {w : World} {K : PySem.W.Frag} {mg : Str → Option Value} {base : Heap} {ct : Cn} {k : Nat} : LnT P w K mg base ct k [] := fun _ _ h => by cases h
theorem ln_cons {P : Program} {w : World} {K : PySem.W.Frag} {mg : Str → Option Value} {base : Heap} {ct : Cn} {k c : Nat} {fl : Str} {tb : List (Nat × Str)} (h : LOk P w K mg base ct k c fl) (t : LnT P w K mg base ct k tb) : LnT P w K mg base ct k ((c, fl) :: tb) := fun c' fl' e => by
  rw [List.lookup_cons] at e
  cases q : (c' == c) with
  | true =>
    rw [q] at e
    cases e
    have := beq_iff_eq.mp q
    subst this
    exact h
  | false => rw [q] at e; exact t c' fl' e
section
variable {X : Cx} {ct : Cn} {W : WX} {k k' : Nat} {tb : List (Nat × Str)} {pins : List (Addr × Obj)} {σ : L2.St} {H : Hp} {s : Shared} {A A1 : Around}
/-- the list q takes what the iterator it of the list l still has -/
theorem listit_loop {q it l : Addr} {zs : List V} {Rs : Result → Shared → Prop} (hd : A1.in1.handled = none) (hql : q ≠ l) : ∀ (n i : Nat) (acc : List V) (H : Hp) (s : Shared), L2.Inv X pins σ H s → FpOk X pins H it → s.heap.IsListIter it l i → H l = some (.lst zs) → H q = some (.lst acc) → n + i = zs.length → acc.length + n ≤ sizeLine →
    (∀ s', L2.Inv X pins σ (upd H q (.lst (acc ++ zs.drop i))) s' → Rs (.ok (.ret .none)) s') → codeAny (model X.prog X.w) A1 (.builtin "list.extend.loop" ⟨[.ref q, .ref it, .none], []⟩) Rs s := by
  intro n
  induction n with
  | zero =>
    intro i acc H s I fp st hl hq hn hz fin
    refine codeAny_builtin PySem.F.entry_extend_loop ?_
    rw [Around.under_plainId PySem.F.plain_extend_loop _]
    show wpAny _ A1.in1 (pyNext (.ref it) >>= _) _ _ s
    obtain ⟨its, rv, p, hz'⟩ := I.list (SqL.of hl)
    obtain ⟨f0, f1, f2, f3, f4, f5⟩ := fp
    have hlen := rv.length
    refine wpAny_bind (wpAny_pyNext_list_end hd st p.isList (by simp; omega) fun h' eb => ?_)
    refine wpAny_pure (fin _ ?_)
    rw [List.drop_of_length_le (by omega), List.append_nil]
    have hH : upd H q (.lst acc) = H := by
      funext b
      by_cases hb : b = q
      · rw [hb, upd_same, hq]
      · rw [upd_ne hb]
    rw [hH]
    exact I.turned (t' := s.toks) (fun b o hb e => eb b o hb e) f0 f1 f3 f4 f5
  | succ n ih =>
    intro i acc H s I fp st hl hq hn hz fin
    refine codeAny_builtin PySem.F.entry_extend_loop ?_
    rw [Around.under_plainId PySem.F.plain_extend_loop _]
    show wpAny _ A1.in1 (pyNext (.ref it) >>= _) _ _ s
    obtain ⟨its, rv, p, hz'⟩ := I.list (SqL.of hl)
    have hi : i < zs.length := by omega
    have hx : zs[i]? = some zs[i] := List.getElem?_eq_getElem hi
    obtain ⟨u, hu, ru⟩ := rv.get hx
    obtain ⟨f0, f1, f2, f3, f4, f5⟩ := fp
    refine wpAny_bind (wpAny_pyNext_list_item st p.isList (x := u) (by simpa using hu) fun h' st' sb => ?_)
    have I1 : L2.Inv X pins σ H { s with heap := h' } := I.turned (t' := s.toks) (fun b o hb e => (sb.2 b hb).trans e) f0 f1 f3 f4 f5
    show wpAny _ A1.in1 (updateSeq q (·.push u) >>= _) _ _ _
    obtain ⟨z, its', k, r2, hl2, e⟩ := I1.lstM hq
    have hqi : it ≠ q := fun e => by rw [e, hq] at f0; cases f0
    refine wpAny_bind (wpAny_updateSeq e rfl (wpAny_pure ⟨plainId_quiet PySem.F.plain_extend_loop _, ?_⟩) (by rw [List.size_toArray, ← r2.length]; omega) (by show (its'.toArray.push u).size ≤ sizeLine + 1; rw [Array.size_push, List.size_toArray, ← r2.length]; omega))
    have I2 := I1.lset (its' := its' ++ [u]) (ys := acc ++ [zs[i]]) (t' := s.toks) (f := (·.push u)) hq e (by simp) (r2.append (.cons ru .nil)) (by rw [List.length_append, List.length_singleton]; omega)
    refine ih (i + 1) (acc ++ [zs[i]]) _ _ I2 ⟨by rw [upd_ne hqi]; exact f0, f1, f2, f3, f4, f5⟩ ?_ (by rw [upd_ne (Ne.symm hql)]; exact hl) upd_same (by omega) (by simp; omega) fun s' I' => fin s' ?_
    · exact st'.at fun o ho => (Heap.get?_update_other _ _ (Ne.symm hqi)).trans ho
    · rw [upd_upd] at I'
      rw [List.drop_eq_getElem_cons hi]
      rw [List.append_assoc] at I'
      exact I'
/-- the length is asked of the object's own __len__ -/
theorem own_hintL {c a dx l : Addr} {fs : List (Str × V)} {zs : List V} {fl : Str} {Q : Bool → Shared → Prop} {E : Value → Shared → Prop} (h1 : LOk X.prog X.w X.K X.mg X.base ct k c fl) (sb : L2.Sub X (k + 1) A) (I : L2.Inv X pins σ H s) (ha : H a = some (.ins (ct.ct c) dx fs)) (hf : fs.lookup fl = some (.ref l)) (hl : H l = some (.lst zs))
    (h : ∀ b s', L2.Inv X pins σ H s' → Q b s') : wpAny (model X.prog X.w) A (Builtin.List.listLengthHint (.ref a)) Q E s := by
  obtain ⟨f, e1, e2, G⟩ := h1.ex
  obtain ⟨mA, J, _⟩ := ins_get I.hok ha
  obtain ⟨od, J, _⟩ := J.look
  obtain ⟨m0, hF⟩ := I.fr
  unfold Builtin.List.listLengthHint
  refine wpAny_bind (wpAny_bind (J.type.here ((PySem.W.looks_findIn I.kIn e1).here ?_)))
  refine PySem.W.KFB.if_not rfl ?_
  refine PySem.W.KFB.if_so rfl ?_
  refine wpAny_bind (wpAny_rule ?_)
  refine wpAny_bind (wpAny_attempt ?_)
  refine PySem.W.len_K hF I.ok.mod.kin J e1 e2 ?_
  have e0 : Env0 X.prog X.w X.K X.mg X.base A.in1 X.stack s H := by
    have e := I.env0
    have sb1 := sb.in1
    exact ⟨by rw [sb1.fr]; exact e.frames, e.mod, e.bs, e.bsz, e.funs, e.frf, e.hok, e.bare⟩
  refine wpAny_call (codeAny_mono (G A.in1 X.stack s H [.ref a] [.ref a] (fun v H' => v = .int zs.length ∧ H' = H) (fun _ _ _ => False) sb.in1.room e0 (.cons rfl .nil) ⟨a, dx, fs, l, zs, rfl, ha, hf, hl, rfl, rfl⟩) fun r s' hq' => ?_)
  cases r with
  | error e =>
    obtain ⟨_, _, _, _, _, _, _, _, _, _, _, _, hE⟩ := hq'
    exact hE.elim
  | ok r =>
    cases r with
    | next => exact False.elim hq'
    | brk => exact False.elim hq'
    | cont => exact False.elim hq'
    | ret u =>
      obtain ⟨v, H', I', rv, ev, eH⟩ := I.after hq'
      subst ev
      rw [eH] at I'
      obtain ⟨t, rfl⟩ := rv
      obtain ⟨its, rvz, p, hz⟩ := I.list (SqL.of hl)
      have hzl : zs.length ≤ sizeLine := hz
      refine ⟨⟨by omega, ?_⟩, ?_⟩
      · rw [sizeLine_eq] at hzl
        omega
      · show wpAny _ A (asInt? (.int (zs.length : Int) _) >>= _) _ _ _
        refine wpAny_bind (wpAny_pure ?_)
        refine PySem.W.KFB.if_not (by
          unfold Builtin.List.listTooLong
          simp only [Int.toNat_natCast, decide_eq_false_iff_not]
          omega) ?_
        exact wpAny_pure (h _ _ (I'.tok _))
/-- list(o): the list in the field fl, anew -/
def rOwnL (ct : Cn) (tb : List (Nat × Str)) : List V → Hp → VK → Prop := fun xs H Q => ∃ a c dx fs l zs fl, xs = [.ref a] ∧ H a = some (.ins (ct.ct c) dx fs) ∧ tb.lookup c = some fl ∧ fs.lookup fl = some (.ref l) ∧ H l = some (.lst zs) ∧
  ∀ q, H q = none → Q (.ref q) (upd H q (.lst zs))
theorem own_extendL {Rs : Result → Shared → Prop} {c a dx l q : Addr} {fs : List (Str × V)} {zs : List V} {fl : Str} (hT : LnT X.prog X.w X.K X.mg X.base ct k tb) (hd : A1.in1.handled = none) (sb : L2.Sub X (k + 1) A1.in1) (e1 : tb.lookup c = some fl)
    (I : L2.Inv X pins σ H s) (ha : H a = some (.ins (ct.ct c) dx fs)) (hf : fs.lookup fl = some (.ref l)) (hl : H l = some (.lst zs)) (hq : H q = some (.lst [])) (hql : q ≠ l)
    (fin : ∀ s', L2.Inv X pins σ (upd H q (.lst zs)) s' → Rs (.ok (.ret .none)) s') :
    wpAny (model X.prog X.w) A1.in1 (Builtin.List.listExtendWith (.ref q) (.ref a) .none)
      (fun fin s' => match fin with | .done f => Rs (.ok f) s' | .again c' => c'.quiet = true ∧ codeAny (model X.prog X.w) A1 c' Rs s') (fun e s' => Rs (.error e) s') s := by
  have hne : q ≠ a := ne_of hq ha (fun z => nomatch z)
  obtain ⟨mA, J, _⟩ := ins_get I.hok ha
  obtain ⟨od, J, _⟩ := J.look
  unfold Builtin.List.listExtendWith
  refine wpAny_bind (J.type.here ?_)
  have h1 : Builtin.List.listSameRef (.ref q) (.ref a) = false := by simp [Builtin.List.listSameRef, hne]
  have h2 : (Value.ref (ct.ct c) == Value.type "list") = false := rfl
  have h3 : (Value.ref (ct.ct c) == Value.type "tuple") = false := rfl
  simp only [h1, h2, h3, Bool.or_false, Bool.false_eq_true, if_false]
  refine wpAny_bind (own_iter (fun c fl h => (hT c fl h).it) (⟨sb.room.mono (Nat.le_succ _), sb.fr⟩ : L2.Sub X k A1.in1) I ha e1 hf (SqL.of hl) fun it s' I' hn hz => ?_)
  have hi : upd H it (ItO l it 0) it = some (ItO l it 0) := upd_same
  have ha' : upd H it (ItO l it 0) a = some (.ins (ct.ct c) dx fs) := by rw [upd_ne (ne_of_none ha hn)]; exact ha
  have hl' : upd H it (ItO l it 0) l = some (.lst zs) := by rw [upd_ne (ne_of_none hl hn)]; exact hl
  refine wpAny_bind (wpAny_holding (own_hintL (hT c fl e1) sb I' ha' hf hl' fun b s2 I2 => ?_))
  have eo := itO_get I2 hi
  have hi' := hi
  unfold ItO at hi'
  have I3 := ItX.inv_drop I2 hi'
  have ed : ItX.dropH (upd H it (ItO l it 0)) it = H := ItX.dropH_upd hn
  have fp := ItX.inv_fp I2 hi (Nat.le_trans I.sz hz)
  rw [ed] at fp I3
  have hit : it ≠ q := fun e => by rw [e, hq] at hn; cases hn
  have st : s2.heap.IsListIter it l 0 := ⟨_, eo, rfl, rfl⟩
  obtain ⟨its, rvz, p, hzz⟩ := I3.list (SqL.of hl)
  have hzl : zs.length ≤ sizeLine := hzz
  obtain ⟨z, its3, k3, r3, hl3, e3⟩ := I3.lstM hq
  cases r3
  have go : ∀ s4, L2.Inv X pins σ H s4 → s4.heap.IsListIter it l 0 → codeAny (model X.prog X.w) A1 (.builtin "list.extend.loop" ⟨[.ref q, .ref it, .none], []⟩) Rs s4 := fun s4 I4 st4 =>
    listit_loop hd hql zs.length 0 [] H s4 I4 fp st4 hl hq rfl (by simpa using hzl) fun s5 I5 => fin s5 (by simpa using I5)
  refine wpAny_ite_split (fun _ => ?_) (fun _ => wpAny_pure ⟨plainId_quiet PySem.F.plain_extend_loop _, go s2 I3 st⟩)
  refine wpAny_bind (wpAny_rule ?_)
  refine wpAny_bind ?_
  show wpAny _ _ (updateSeq q (·.push .none) >>= fun _ => updateSeq q (·.pop)) _ _ _
  refine wpAny_bind (wpAny_updateSeq e3 rfl ?_)
  have I4 := I3.lset (f := (·.push Value.none)) (its' := [Value.none]) (ys := [.non]) (t' := s2.toks) hq e3 (by simp) (.cons rfl .nil) (by rw [List.length_singleton, sizeLine_eq]; decide)
  obtain ⟨z4, its4, k4, r4, hl4, e4⟩ := I4.lstM upd_same
  obtain ⟨u4, rfl, ru4⟩ := r4.one
  refine wpAny_updateSeq e4 rfl ?_ (by show 1 ≤ sizeLine; rw [sizeLine_eq]; decide) (by show 0 ≤ sizeLine + 1; exact Nat.zero_le _)
  refine wpAny_pure ⟨plainId_quiet PySem.F.plain_extend_loop _, go _ ?_ ?_⟩
  · have I5 := I4.lset (f := (·.pop)) (its := [u4]) (its' := []) (ys := []) (t' := s2.toks) upd_same e4 (by rfl) .nil (Nat.zero_le _)
    rw [upd_upd] at I5
    have hH : upd H q (.lst []) = H := by
      funext b
      by_cases hb : b = q
      · rw [hb, upd_same, hq]
      · rw [upd_ne hb]
    rw [hH] at I5
    exact I5
  · exact (st.at fun o ho => (Heap.get?_update_other _ _ (Ne.symm hit)).trans ho).at fun o ho => (Heap.get?_update_other _ _ (Ne.symm hit)).trans ho
theorem call_listC (hT : LnT X.prog X.w X.K X.mg X.base ct k tb) (hr : Room (k + 3) X.A) (hc : X.calm = true) : CallR X (.type "list") (rOwnL ct tb) := by
  intro pins s σ H xs us Q I rv h
  obtain ⟨a, c, dx, fs, l, zs, fl, rfl, ha, e1, hf, hl, hq⟩ := h
  obtain ⟨u, rfl, ru⟩ := rv.one
  cases ru
  have sb : L2.Sub X (k + 1) X.A.in1.in1 := (L2.Sub.in1 (L2.Sub.in1 (⟨hr, rfl⟩ : L2.Sub X (k + 1 + 2) X.A)))
  have hdl : X.A.in1.in1.handled = none := I.ok.hd hc
  refine callType_codes (Q₁ := fun obj s₁ => obj = .ref s.heap.objs.size ∧ s₁ = { s with heap := s.heap.push { cls := .type "list", data := .seq #[] } }) PySem.F.called_list (PySem.F.typeCall_list_1 _) PySem.F.entry_list_init
    (code_list_new _ ⟨rfl, rfl⟩) fun obj s₁ h₁ => ?_
  obtain ⟨rfl, rfl⟩ := h₁
  have hS : (s.heap.push { cls := .type "list", data := .seq #[] }).get? s.heap.objs.size = some { cls := .type "list", data := .seq #[] } := Heap.get?_push_size _ rfl
  refine ⟨⟨_, hS, rfl⟩, PySem.F.args_list_init_2 _ _, ?_⟩
  have fr : H s.heap.objs.size = none := I.hok.fresh (Nat.le_refl _)
  have I1 : L2.Inv X pins σ (upd H s.heap.objs.size (.lst [])) { s with heap := s.heap.push { cls := .type "list", data := .seq #[] } } := I.lnew (its := []) (t' := s.toks) .nil (Nat.zero_le _)
  show wpAny _ _ (do let old ← Builtin.List.listItems (.ref s.heap.objs.size); Builtin.List.listUpdate (.ref s.heap.objs.size) (fun _ => #[]); letGo old.toList.reverse; Builtin.List.listExtendWith (.ref s.heap.objs.size) (.ref a) .none) _ _ _
  refine wpAny_bind ?_
  unfold Builtin.List.listItems
  refine wpAny_bind (wpAny_seqItems hS rfl (wpAny_pure ?_))
  show wpAny _ _ (updateSeq s.heap.objs.size (fun _ => #[]) >>= fun _ => letGo (#[] : Array Value).toList.reverse >>= fun _ => Builtin.List.listExtendWith (.ref s.heap.objs.size) (.ref a) .none) _ _ _
  refine wpAny_bind (wpAny_updateSeq hS rfl ?_)
  have I2 := I1.lset (f := fun _ => #[]) (its := []) (its' := []) (ys := []) (t' := s.toks) upd_same hS rfl .nil (Nat.zero_le _)
  rw [upd_upd] at I2
  refine wpAny_bind (wpAny_letGo ?_)
  have ha2 : upd H s.heap.objs.size (.lst []) a = some (.ins (ct.ct c) dx fs) := by rw [upd_ne (ne_of_none ha fr)]; exact ha
  have hl2 : upd H s.heap.objs.size (.lst []) l = some (.lst zs) := by rw [upd_ne (ne_of_none hl fr)]; exact hl
  exact own_extendL (A1 := X.A.in1) (Rs := wants (fun r s₂ => r = .none ∧ EP X pins σ Q (.ref s.heap.objs.size) s₂) X.xe) hT hdl sb e1 I2 ha2 hf hl2 upd_same (Ne.symm (ne_of_none hl fr))
    (fun s' I' => ⟨rfl, .ref s.heap.objs.size, _, I', rfl, by rw [upd_upd]; exact hq _ fr⟩)
end
def pListC (tb : List (Nat × Str)) : List D → Option Slot
  | [.obj c fs] => match tb.lookup c with
    | some fl => (match fs.lookup fl with
      | some (.lst xs) => some (.lst xs, true)
      | _ => none)
    | none => none
  | ds => pListA ds
theorem prListC {Γ : Gm} {tb : List (Nat × Str)} : PrimR Γ (fun xs H Q => rListA Γ.K xs H Q ∨ rOwnL Γ.cn tb xs H Q) (pListC tb) := by
  intro O H vs ds s Q m b e k
  unfold pListC at e
  split at e
  · rename_i c fs
    obtain ⟨v, rfl, h1⟩ := bors1 b
    cases q1 : tb.lookup c with
    | none => rw [q1] at e; cases e
    | some fl =>
      rw [q1] at e
      simp only at e
      cases q2 : fs.lookup fl with
      | none => rw [q2] at e; cases e
      | some d =>
        rw [q2] at e
        cases d with
        | lst xs =>
          simp only [Option.some.injEq] at e
          subst e
          obtain ⟨a, dx, gs, rfl, ha, hk, hr⟩ := h1.obj_inv
          obtain ⟨w, e1, rw'⟩ := lookup_reps hk hr q2
          cases rw' with
          | @lst l us _ hl nl rl => exact .inr ⟨a, c, dx, gs, l, us, fl, rfl, ha, q1, e1, hl, fun p hp => new_lst m rl k p hp⟩
        | _ => cases e
  · exact .inl (prListA O H vs _ s Q m b e k)
section
variable {X : Cx} {ct : Cn} {W : WX} {k k' : Nat} {tb : List (Nat × Str)} {e : Expr} {o : Opd} {p pos : Pos}
theorem ce_listC (hT : LnT X.prog X.w X.K X.mg X.base ct k tb) (hr : Room k' X.A) (hk : k + 3 ≤ k') (hc : X.calm = true) (hg : Gl X "list") (hm : X.mg "list" = none) (h : CO X ct W e o) (he : starEach [e] X.env = (false, eval e X.env) :: starEach [] X.env := by rfl) : CE X ct W (.Call (.Name "list" p) [e] [] pos) (cPrim (pListC tb) [o]) := by
  obtain ⟨t, p1, q1⟩ := h
  exact ce_bT (callOr (cr_list hc) (call_listC hT (hr.mono hk) hc)) (prListC (Γ := Gx X ct)) hg hm (by decide +kernel) ⟨_, pa_cons p1 pa_nil he, SA.cons q1 SA.nil⟩ (he := he)
end
@[simp] theorem e_listC_o (tb : List (Nat × Str)) (c : Nat) (fs : List (Str × D)) : pListC tb [.obj c fs] = match tb.lookup c with
    | some fl => (match fs.lookup fl with
      | some (.lst xs) => some (.lst xs, true)
      | _ => none)
    | none => none := rfl
@[simp] theorem e_listC_l (tb : List (Nat × Str)) (xs : List D) : pListC tb [.lst xs] = some (.lst xs, true) := rfl
@[simp] theorem e_listC_t (tb : List (Nat × Str)) (xs : List D) : pListC tb [.tup xs] = some (.lst xs, true) := rfl
end VS

namespace VS
open PySem L2 PySem.Spec PyProof.Rows
/-! ### x is True -/
def pIsB : List D → Option Slot
  | [.bl a, .bl b] => some (.bl (decide (a = b)), false)
  | _ => none
def pNotB : List D → Option Slot
  | [.bl a, .bl b] => some (.bl (!decide (a = b)), false)
  | _ => none
section
variable {Γ : Gm}
theorem prIsB : PrimR Γ (r2l (fun x y H Q => ∃ a b : Bool, x = .bl a ∧ y = .bl b ∧ Q (.bl (decide (a = b))) H)) pIsB := by
  intro O H vs ds s Q m b e k
  match ds, e with
  | [.bl x, .bl y], e =>
    obtain ⟨v, w, rfl, h1, h2⟩ := bors2 b
    cases e
    exact ⟨x, y, h1.bl_inv, h2.bl_inv, k _ H (Ext.refl H) (.bl _)⟩
theorem prNotB : PrimR Γ (r2l (fun x y H Q => ∃ a b : Bool, x = .bl a ∧ y = .bl b ∧ Q (.bl (!decide (a = b))) H)) pNotB := by
  intro O H vs ds s Q m b e k
  match ds, e with
  | [.bl x, .bl y], e =>
    obtain ⟨v, w, rfl, h1, h2⟩ := bors2 b
    cases e
    exact ⟨x, y, h1.bl_inv, h2.bl_inv, k _ H (Ext.refl H) (.bl _)⟩
end
section
variable {X : Cx} {ct : Cn} {W : WX} {a b : Expr} {o1 o2 : Opd} {pos : Pos}
theorem ce_isB (h1 : CO X ct W a o1) (h2 : CO X ct W b o2) : CE X ct W (.Compare a [.Is] [b] pos) (cPrim pIsB [o1, o2]) := cmp op_isBl prIsB h1 h2 (nomark _)
theorem ce_notB (h1 : CO X ct W a o1) (h2 : CO X ct W b o2) : CE X ct W (.Compare a [.IsNot] [b] pos) (cPrim pNotB [o1, o2]) := cmp op_notBl prNotB h1 h2 (nomark _)
end
@[simp] theorem e_isB (a b : Bool) : pIsB [.bl a, .bl b] = some (.bl (decide (a = b)), false) := rfl
@[simp] theorem e_notB (a b : Bool) : pNotB [.bl a, .bl b] = some (.bl (!decide (a = b)), false) := rfl
end VS

namespace K33
open PySem L2 PySem.Spec PyProof.Rows VS
def topS (i : Nat) : Stmt := PySem.Challenge.pw_coretower_k33_pairs_as_sets.main.body.getD i (.Pass ⟨0, 0, 0, 0⟩)
def inS (s : Stmt) (k : Nat) : Stmt := match s with
  | .ClassDef _ _ _ b _ _ _ _ _ _ _ => b.getD k (.Pass ⟨0, 0, 0, 0⟩)
  | _ => .Pass ⟨0, 0, 0, 0⟩
/-- the built-in names that the text leaves alone -/
structure Tx (mg : Str → Option Value) : Prop where
  b_ValueError : mg "ValueError" = none
  b_int : mg "int" = none
  b_isinstance : mg "isinstance" = none
  b_iter : mg "iter" = none
  b_len : mg "len" = none
  b_list : mg "list" = none
  b_range : mg "range" = none
  b_tuple : mg "tuple" = none
/-- what is needed of the classes and constants -/
def k_KINDS : D := (.ktup [(.str "read"), (.str "acquire"), (.str "write"), (.str "release"), (.str "both")])
def k_PAIRS : D := (.ktup [(.ktup [(.str "read"), (.str "read")]), (.ktup [(.str "read"), (.str "acquire")]), (.ktup [(.str "read"), (.str "write")]), (.ktup [(.str "read"), (.str "release")]), (.ktup [(.str "read"), (.str "both")]), (.ktup [(.str "acquire"), (.str "read")]), (.ktup [(.str "acquire"), (.str "acquire")]), (.ktup [(.str "acquire"), (.str "write")]), (.ktup [(.str "acquire"), (.str "release")]), (.ktup [(.str "acquire"), (.str "both")]), (.ktup [(.str "write"), (.str "read")]), (.ktup [(.str "write"), (.str "acquire")]), (.ktup [(.str "write"), (.str "write")]), (.ktup [(.str "write"), (.str "release")]), (.ktup [(.str "write"), (.str "both")]), (.ktup [(.str "write"), (.str "return")]), (.ktup [(.str "release"), (.str "read")]), (.ktup [(.str "release"), (.str "acquire")]), (.ktup [(.str "release"), (.str "write")]), (.ktup [(.str "release"), (.str "release")]), (.ktup [(.str "release"), (.str "both")]), (.ktup [(.str "release"), (.str "return")]), (.ktup [(.str "both"), (.str "read")]), (.ktup [(.str "both"), (.str "acquire")]), (.ktup [(.str "both"), (.str "write")]), (.ktup [(.str "both"), (.str "release")]), (.ktup [(.str "both"), (.str "both")])])
def k_READS : D := (.ktup [(.str "read"), (.str "acquire")])
def k_WRITES : D := (.ktup [(.str "write"), (.str "release")])
structure Xc (P : Program) (K : PySem.W.Frag) (mg : Str → Option Value) (cf fi : Nat → Addr) : Prop where
  ok : True
  su : mg "super" = none
  m_0 : mg "CoreError" = some (.ref (cf 0))
  m_1 : mg "BadPair" = some (.ref (cf 1))
  m_2 : mg "BadFence" = some (.ref (cf 2))
  m_3 : mg "Pairs" = some (.ref (cf 3))
  x_1 : XCls P K (cf 1) (fi 1) ["pair"]
  e_1_0 : PySem.W.exmOne K (.ref (cf 1)) (.ref (cf 0)) = some true
  t_1 : XTy K (cf 1)
  f_1_pair : PySem.W.findIn K (.ref (cf 1)) "pair" = some none
  k_1_ValueError : PySem.W.kitOne K (.ref (cf 1)) (.type "ValueError") = some true
  k_1_1 : PySem.W.kitOne K (.ref (cf 1)) (.ref (cf 1)) = some true
  k_1_2 : PySem.W.kitOne K (.ref (cf 1)) (.ref (cf 2)) = some false
  cl_3 : Cls K (cf 3)
  sf_3 : PySem.W.selfFirst K (cf 3) = true
  nf_3_own_rows : NoAttr K (cf 3) "own_rows"
  is_3 : ∀ x, IsOk K ⟨cf, x⟩ 3
  ki_3_3 : PySem.W.kitOne K (.ref (cf 3)) (.ref (cf 3)) = some true
  c_KINDS : KC K mg "KINDS" k_KINDS
  c_PAIRS : KC K mg "PAIRS" k_PAIRS
  c_READS : KC K mg "READS" k_READS
  c_WRITES : KC K mg "WRITES" k_WRITES
abbrev s_l_great : Stmt := topS 11
abbrev N_l_great : List Str := ["_law_cell", "_law_k", "_law_total", "_law_seed", "_law_turn"]
def b_l_great_1 : CStm := (cSeq (cAsg 3 (cPrim pMod [.e (cPrim pIntA [.e (cPrim pAdd [.e (cPrim pAdd [.e (cPrim pMul [.v 3, .e (cC (.int 48271))]), .e (cPrim pMul [.e (cC (.int 7)), .v 4])]), .e (cC (.int 11))])]), .e (cC (.int 2147483647))]))
  (cSeq (cAsg 3 (cPrim pMod [.e (cPrim pIntA [.e (cPrim pAdd [.e (cPrim pMul [.v 3, .e (cC (.int 69621))]), .v 1])]), .e (cC (.int 2147483629))]))
  (cAsg 2 (cPrim pAdd [.e (cPrim pMul [.v 2, .e (cC (.int 2147483629))]), .v 3]))))
def m_l_great : CStm := (cSeq (cIf (cTst (cPrim pGe [.v 0, .e (cPrim pPow [.e (cC (.int 10)), .e (cC (.int 18))])])) (cRet (cPrim pSub [.v 0, .e (cPrim pPow [.e (cC (.int 10)), .e (cC (.int 18))])])) cNext)
  (cSeq (cAsg 2 (cC (.int 0)))
  (cSeq (cAsg 3 (cPrim pAdd [.e (cPrim pIntA [.v 0]), .e (cPrim pMul [.e (cC (.int 1009)), .v 1])]))
  (cSeq (cFor (cItR1 (.e (cC (.int 3)))) (tgN 4) b_l_great_1)
  (cRet (cMove 2))))))
def F_l_great : CFun := bodyF [0, 1] 5 m_l_great
abbrev s_l_draw : Stmt := topS 12
abbrev N_l_draw : List Str := ["_law_script", "_law_k", "_law_seed", "_law_cell"]
def b_l_draw_1 : CStm := (cAsg 2 (cPrim pMod [.e (cPrim pIntA [.e (cPrim pAdd [.e (cPrim pMul [.v 2, .e (cC (.int 31))]), .v 3])]), .e (cC (.int 1000003))]))
def m_l_draw : CStm := (cSeq (cIf (cTst (cPrim pEqA [.e (cPrim pLen [.v 0]), .e (cC (.int 0))])) (cRet (cC (.int 0))) cNext)
  (cSeq (cIf (cTst (cPrim pLt [.v 1, .e (cPrim pLen [.v 0])])) (cRet (cCall F_l_great [.e (cPrim pIdx [.v 0, .v 1]), .v 1])) cNext)
  (cSeq (cAsg 2 (cPrim pAdd [.e (cC (.int 5)), .e (cPrim pLen [.v 0])]))
  (cSeq (cFor (cItS (cSl (.v 0) none (some (cC (.int 9))))) (tgN 3) b_l_draw_1)
  (cRet (cCall F_l_great [.v 2, .v 1]))))))
def F_l_draw : CFun := bodyF [0, 1] 4 m_l_draw
abbrev s_l_pairs : Stmt := topS 13
abbrev N_l_pairs : List Str := ["_law_rows", "_law_one", "_law_two"]
def b_l_pairs_1 : CStm := (cDrop (cApp 0 (cPrim pTup [.e (cVar 1), .e (cVar 2)])))
def b_l_pairs_2 : CStm := (cSeq (cFor (cItS (cPrim pLst [.e (cC (.str "read")), .e (cC (.str "acquire")), .e (cC (.str "write")), .e (cC (.str "release")), .e (cC (.str "both"))])) (tgN 2) b_l_pairs_1)
  (cIf (cOr (cTst (cPrim pEqA [.v 1, .e (cC (.str "write"))])) (cTst (cPrim pEqA [.v 1, .e (cC (.str "release"))]))) (cDrop (cApp 0 (cPrim pTup [.e (cVar 1), .e (cC (.str "return"))]))) cNext))
def m_l_pairs : CStm := (cSeq (cAsg 0 (cPrim pLst []))
  (cSeq (cFor (cItS (cPrim pLst [.e (cC (.str "read")), .e (cC (.str "acquire")), .e (cC (.str "write")), .e (cC (.str "release")), .e (cC (.str "both"))])) (tgN 1) b_l_pairs_2)
  (cRet (cMove 0))))
def F_l_pairs : CFun := bodyF [] 3 m_l_pairs
abbrev s_l_items : Stmt := topS 14
abbrev N_l_items : List Str := ["_law_number", "_law_rows", "_law_way", "_law_many", "_law_seed", "_law_items_here", "_law_k"]
def e_l_items_1 : CExp := (cPrim pIdx [.v 1, .e (cPrim pSub [.e (cC (.int 26)), .v 6])])
def b_l_items_2 : CStm := (cIf (cTst (cPrim pGt [.v 0, .e (cC (.int 0))])) (cSeq (cDrop (cApp 5 (cPrim pIdx [.v 1, .e (cPrim pMod [.e (cPrim pIntA [.v 0]), .e (cC (.int 27))])])))
  (cAsg 0 (cPrim pDiv [.v 0, .e (cC (.int 27))]))) (cSeq (cAsg 4 (cPrim pMod [.e (cPrim pIntA [.e (cPrim pAdd [.e (cPrim pAdd [.e (cPrim pMul [.v 4, .e (cC (.int 48271))]), .e (cPrim pMul [.e (cC (.int 2)), .v 6])]), .e (cC (.int 11))])]), .e (cC (.int 2147483647))]))
  (cSeq (cAsg 4 (cPrim pMod [.e (cPrim pIntA [.e (cPrim pAdd [.e (cPrim pMul [.v 4, .e (cC (.int 69621))]), .e (cC (.int 5))])]), .e (cC (.int 2147483629))]))
  (cDrop (cApp 5 (cPrim pIdx [.v 1, .e (cPrim pMod [.e (cPrim pIntA [.e (cPrim pDiv [.v 4, .e (cC (.int 7))])]), .e (cC (.int 27))])]))))))
def m_l_items : CStm := (cSeq (cAsg 1 (cCall F_l_pairs []))
  (cSeq (cAsg 2 (cPrim pMod [.e (cPrim pIntA [.v 0]), .e (cC (.int 8))]))
  (cSeq (cAsg 0 (cPrim pDiv [.v 0, .e (cC (.int 8))]))
  (cSeq (cIf (cTst (cPrim pEqA [.v 2, .e (cC (.int 1))])) (cRet (cPrim pLst [])) cNext)
  (cSeq (cIf (cTst (cPrim pEqA [.v 2, .e (cC (.int 2))])) (cRet (cLc (cItR1 (.e (cC (.int 27)))) (tgN 6) cYes e_l_items_1 [6])) cNext)
  (cSeq (cAsg 3 (cPrim pMod [.e (cPrim pIntA [.v 0]), .e (cC (.int 41))]))
  (cSeq (cAsg 0 (cPrim pDiv [.v 0, .e (cC (.int 41))]))
  (cSeq (cAsg 4 (cVar 0))
  (cSeq (cAsg 5 (cPrim pLst []))
  (cSeq (cFor (cItR1 (.v 3)) (tgN 6) b_l_items_2)
  (cRet (cMove 5))))))))))))
def F_l_items : CFun := bodyF [] 7 m_l_items
abbrev s_p_Pairs___init__ : Stmt := inS (topS 9) 0
abbrev N_p_Pairs___init__ : List Str := ["self", "pairs", "item", "pair"]
def b_p_Pairs___init___1 : CStm := (cIf (cTst (cPrim pNi [.v 2, .e (cC k_PAIRS)])) (cRaise 1 ["pair"] [.e (cVar 2)]) cNext)
def c_p_Pairs___init___2 : CTst := (cTst (cPrim pIn [.v 3, .v 1]))
def e_p_Pairs___init___3 : CExp := (cVar 3)
def m_p_Pairs___init__ : CStm := (cSeq (cForO 1 (fun _ d => d) (cItS (cVar 1)) (tgN 2) b_p_Pairs___init___1)
  (cFst 0 "own_rows" [3] (cLc (cItS (cC k_PAIRS)) (tgN 3) c_p_Pairs___init___2 e_p_Pairs___init___3 [3])))
def F_p_Pairs___init__ : CFun := bodyF [0, 1] 4 m_p_Pairs___init__
abbrev s_p_Pairs___contains__ : Stmt := inS (topS 9) 3
abbrev N_p_Pairs___contains__ : List Str := ["self", "pair"]
def m_p_Pairs___contains__ : CStm := (cRet (cPrim pIn [.v 1, .e (cPrim (pFld "own_rows" [3]) [.v 0])]))
def F_p_Pairs___contains__ : CFun := bodyF [0, 1] 2 m_p_Pairs___contains__
abbrev s_p_Pairs___and__ : Stmt := inS (topS 9) 4
abbrev N_p_Pairs___and__ : List Str := ["self", "other", "pair"]
def c_p_Pairs___and___1 : CTst := (cTst (cInC pIn false [(3, F_p_Pairs___contains__)] (.v 2) (.v 1)))
def e_p_Pairs___and___2 : CExp := (cVar 2)
def m_p_Pairs___and__ : CStm := (cRet (cMake 3 F_p_Pairs___init__ [.e (cLc (cItS (cPrim (pFld "own_rows" [3]) [.v 0])) (tgN 2) c_p_Pairs___and___1 e_p_Pairs___and___2 [2])]))
def F_p_Pairs___and__ : CFun := bodyF [0, 1] 3 m_p_Pairs___and__
abbrev s_p_Pairs___or__ : Stmt := inS (topS 9) 5
abbrev N_p_Pairs___or__ : List Str := ["self", "other", "pair"]
def c_p_Pairs___or___1 : CTst := (cOr (cTst (cPrim pIn [.v 2, .e (cPrim (pFld "own_rows" [3]) [.v 0])])) (cTst (cInC pIn false [(3, F_p_Pairs___contains__)] (.v 2) (.v 1))))
def e_p_Pairs___or___2 : CExp := (cVar 2)
def m_p_Pairs___or__ : CStm := (cRet (cMake 3 F_p_Pairs___init__ [.e (cLc (cItS (cC k_PAIRS)) (tgN 2) c_p_Pairs___or___1 e_p_Pairs___or___2 [2])]))
def F_p_Pairs___or__ : CFun := bodyF [0, 1] 3 m_p_Pairs___or__
abbrev s_p_Pairs___sub__ : Stmt := inS (topS 9) 6
abbrev N_p_Pairs___sub__ : List Str := ["self", "other", "pair"]
def c_p_Pairs___sub___1 : CTst := (cTst (cInC pNi true [(3, F_p_Pairs___contains__)] (.v 2) (.v 1)))
def e_p_Pairs___sub___2 : CExp := (cVar 2)
def m_p_Pairs___sub__ : CStm := (cRet (cMake 3 F_p_Pairs___init__ [.e (cLc (cItS (cPrim (pFld "own_rows" [3]) [.v 0])) (tgN 2) c_p_Pairs___sub___1 e_p_Pairs___sub___2 [2])]))
def F_p_Pairs___sub__ : CFun := bodyF [0, 1] 3 m_p_Pairs___sub__
abbrev s_p_Pairs___len__ : Stmt := inS (topS 9) 1
abbrev N_p_Pairs___len__ : List Str := ["self"]
def m_p_Pairs___len__ : CStm := (cRet (cPrim pLen [.e (cPrim (pFld "own_rows" [3]) [.v 0])]))
def F_p_Pairs___len__ : CFun := bodyF [0] 1 m_p_Pairs___len__
abbrev s_iter_Pairs : Stmt := inS (topS 9) 2
abbrev N_iter_Pairs : List Str := ["self"]
abbrev s_lnl_Pairs : Stmt := inS (topS 9) 1
abbrev N_lnl_Pairs : List Str := ["self"]
abbrev s_l_is_set : Stmt := topS 20
abbrev N_l_is_set : List Str := ["_law_told", "_law_due", "_law_pair"]
def b_l_is_set_1 : CStm := (cIf (cTst (cPrim pNe [.e (cInC pIn false [(3, F_p_Pairs___contains__)] (.v 2) (.v 0)), .e (cPrim pIn [.v 2, .v 1])])) (cRet (cC (.bl false))) cNext)
def m_l_is_set : CStm := (cSeq (cIf (cOr (cNot (cTst (cPrim (pIsC [((3, 3), true)] []) [.v 0, .e (cC (.cls 3))]))) (cTst (cPrim pNe [.e (cLenC [(3, F_p_Pairs___len__)] (.v 0)), .e (cPrim pLen [.v 1])]))) (cRet (cC (.bl false))) cNext)
  (cSeq (cIf (cOr (cTst (cPrim pNe [.e (cPrim (pListC [(3, "own_rows")]) [.v 0]), .v 1])) (cTst (cPrim pNe [.e (cPrim (pListC [(3, "own_rows")]) [.v 0]), .v 1]))) (cRet (cC (.bl false))) cNext)
  (cSeq (cFor (cItS (cPrim pAdd [.e (cCall F_l_pairs []), .e (cPrim pLst [.e (cPrim pTup [.e (cC (.str "read")), .e (cC (.str "return"))]), .e (cPrim pTup [.e (cC (.str "return")), .e (cC (.str "write"))]), .e (cPrim pTup [.e (cC (.str "both")), .e (cC (.str "return"))])])])) (tgN 2) b_l_is_set_1)
  (cRet (cC (.bl true))))))
def F_l_is_set : CFun := bodyF [0, 1] 3 m_l_is_set
abbrev s_l_made : Stmt := topS 22
abbrev N_l_made : List Str := ["_law_a", "_law_b", "_law_none", "_law_one", "_law_two", "_law_rows", "_law_same", "_law_either", "_law_left", "_law_right", "_law_made_here", "_law_told", "_law_due", "_law_pair"]
def c_l_made_1 : CTst := (cTst (cPrim pIn [.v 13, .v 4]))
def e_l_made_2 : CExp := (cVar 13)
def c_l_made_3 : CTst := (cOr (cTst (cPrim pIn [.v 13, .v 3])) (cTst (cPrim pIn [.v 13, .v 4])))
def e_l_made_4 : CExp := (cVar 13)
def c_l_made_5 : CTst := (cTst (cPrim pNi [.v 13, .v 4]))
def e_l_made_6 : CExp := (cVar 13)
def c_l_made_7 : CTst := (cTst (cPrim pNi [.v 13, .v 3]))
def e_l_made_8 : CExp := (cVar 13)
def b_l_made_9 : CStm := (cIf (cNot (cTst (cCall F_l_is_set [.v 11, .v 12]))) (cRet (cC (.bl false))) cNext)
def m_l_made : CStm := (cSeq (cAsg 6 (cLc (cItS (cVar 3)) (tgN 13) c_l_made_1 e_l_made_2 [13]))
  (cSeq (cAsg 7 (cLc (cItS (cVar 5)) (tgN 13) c_l_made_3 e_l_made_4 [13]))
  (cSeq (cAsg 8 (cLc (cItS (cVar 3)) (tgN 13) c_l_made_5 e_l_made_6 [13]))
  (cSeq (cAsg 9 (cLc (cItS (cVar 4)) (tgN 13) c_l_made_7 e_l_made_8 [13]))
  (cSeq (cAsg 10 (cPrim pLst [.e (cPrim pTup [.e (cVar 0), .e (cVar 3)]), .e (cPrim pTup [.e (cVar 1), .e (cVar 4)]), .e (cPrim pTup [.e (cVar 2), .e (cPrim pLst [])]), .e (cPrim pTup [.e (cOpC pNo [(3, F_p_Pairs___and__)] (.v 0) (.v 1)), .e (cVar 6)]), .e (cPrim pTup [.e (cOpC pNo [(3, F_p_Pairs___and__)] (.v 1) (.v 0)), .e (cVar 6)]), .e (cPrim pTup [.e (cOpC pNo [(3, F_p_Pairs___and__)] (.v 0) (.v 2)), .e (cPrim pLst [])]), .e (cPrim pTup [.e (cOpC pNo [(3, F_p_Pairs___or__)] (.v 0) (.v 2)), .e (cVar 3)])]))
  (cSeq (cAsg 10 (cPrim pAdd [.v 10, .e (cPrim pLst [.e (cPrim pTup [.e (cOpC pSub [(3, F_p_Pairs___sub__)] (.v 0) (.v 2)), .e (cVar 3)]), .e (cPrim pTup [.e (cOpC pNo [(3, F_p_Pairs___or__)] (.v 0) (.v 1)), .e (cVar 7)]), .e (cPrim pTup [.e (cOpC pSub [(3, F_p_Pairs___sub__)] (.v 2) (.v 0)), .e (cPrim pLst [])]), .e (cPrim pTup [.e (cOpC pSub [(3, F_p_Pairs___sub__)] (.v 0) (.v 0)), .e (cPrim pLst [])]), .e (cPrim pTup [.e (cOpC pNo [(3, F_p_Pairs___or__)] (.v 0) (.v 0)), .e (cVar 3)]), .e (cPrim pTup [.e (cOpC pSub [(3, F_p_Pairs___sub__)] (.v 0) (.v 1)), .e (cVar 8)])])]))
  (cSeq (cAsg 10 (cPrim pAdd [.v 10, .e (cPrim pLst [.e (cPrim pTup [.e (cOpC pSub [(3, F_p_Pairs___sub__)] (.v 1) (.v 0)), .e (cVar 9)]), .e (cPrim pTup [.e (cVar 0), .e (cVar 3)]), .e (cPrim pTup [.e (cVar 1), .e (cVar 4)]), .e (cPrim pTup [.e (cVar 2), .e (cPrim pLst [])])])]))
  (cSeq (cFor (cItS (cVar 10)) (tgTup 2 (tgCons (tgN 11) (tgCons (tgN 12) tgNil))) b_l_made_9)
  (cRet (cC (.bl true)))))))))))
def F_l_made : CFun := bodyF [0, 1, 2, 3, 4, 5] 14 m_l_made
abbrev s_p_Pairs_within : Stmt := inS (topS 9) 7
abbrev N_p_Pairs_within : List Str := ["self", "other", "pair"]
def b_p_Pairs_within_1 : CStm := (cIf (cTst (cInC pNi true [(3, F_p_Pairs___contains__)] (.v 2) (.v 1))) (cRet (cC (.bl false))) cNext)
def m_p_Pairs_within : CStm := (cSeq (cFor (cItS (cPrim (pFld "own_rows" [3]) [.v 0])) (tgN 2) b_p_Pairs_within_1)
  (cRet (cC (.bl true))))
def F_p_Pairs_within : CFun := bodyF [0, 1] 3 m_p_Pairs_within
abbrev s_l_says : Stmt := topS 21
abbrev N_l_says : List Str := ["_law_told", "_law_due"]
def m_l_says : CStm := (cSeq (cIf (cTst (cVar 1)) (cRet (cPrim pIsB [.v 0, .e (cC (.bl true))])) cNext)
  (cRet (cPrim pIsB [.v 0, .e (cC (.bl false))])))
def F_l_says : CFun := bodyF [0, 1] 2 m_l_says
abbrev s_l_within : Stmt := topS 23
abbrev N_l_within : List Str := ["_law_a", "_law_b", "_law_none", "_law_one", "_law_two", "_law_same", "_law_asked", "_law_told", "_law_due"]
def b_l_within_1 : CStm := (cIf (cNot (cTst (cCall F_l_says [.v 7, .v 8]))) (cRet (cC (.bl false))) cNext)
def m_l_within : CStm := (cSeq (cAsg 6 (cPrim pLst [.e (cPrim pTup [.e (cMeth "within" [(3, F_p_Pairs_within)] (.v 0) [.v 1]), .e (cPrim pEqA [.e (cPrim pLen [.v 5]), .e (cPrim pLen [.v 3])])]), .e (cPrim pTup [.e (cMeth "within" [(3, F_p_Pairs_within)] (.v 1) [.v 0]), .e (cPrim pEqA [.e (cPrim pLen [.v 5]), .e (cPrim pLen [.v 4])])]), .e (cPrim pTup [.e (cMeth "within" [(3, F_p_Pairs_within)] (.v 0) [.v 0]), .e (cC (.bl true))])]))
  (cSeq (cAsg 6 (cPrim pAdd [.v 6, .e (cPrim pLst [.e (cPrim pTup [.e (cMeth "within" [(3, F_p_Pairs_within)] (.v 2) [.v 0]), .e (cC (.bl true))]), .e (cPrim pTup [.e (cMeth "within" [(3, F_p_Pairs_within)] (.v 0) [.v 2]), .e (cPrim pEqA [.e (cPrim pLen [.v 3]), .e (cC (.int 0))])]), .e (cPrim pTup [.e (cMeth "within" [(3, F_p_Pairs_within)] (.e (cOpC pNo [(3, F_p_Pairs___and__)] (.v 0) (.v 1))) [.v 1]), .e (cC (.bl true))])])]))
  (cSeq (cAsg 6 (cPrim pAdd [.v 6, .e (cPrim pLst [.e (cPrim pTup [.e (cMeth "within" [(3, F_p_Pairs_within)] (.v 0) [.e (cOpC pNo [(3, F_p_Pairs___or__)] (.v 0) (.v 1))]), .e (cC (.bl true))]), .e (cPrim pTup [.e (cMeth "within" [(3, F_p_Pairs_within)] (.v 1) [.e (cOpC pNo [(3, F_p_Pairs___or__)] (.v 0) (.v 1))]), .e (cC (.bl true))])])]))
  (cSeq (cFor (cItS (cVar 6)) (tgTup 2 (tgCons (tgN 7) (tgCons (tgN 8) tgNil))) b_l_within_1)
  (cRet (cC (.bl true)))))))
def F_l_within : CFun := bodyF [0, 1, 2, 3, 4, 5] 9 m_l_within
abbrev s_l_words : Stmt := topS 15
abbrev N_l_words : List Str := ["_law_number", "_law_words_here", "_law_many", "_law_k"]
def b_l_words_1 : CStm := (cSeq (cDrop (cApp 1 (cPrim pIdx [.e (cPrim pLst [.e (cC (.str "read")), .e (cC (.str "acquire")), .e (cC (.str "write")), .e (cC (.str "release")), .e (cC (.str "both")), .e (cC (.str "return"))]), .e (cPrim pMod [.e (cPrim pIntA [.v 0]), .e (cC (.int 6))])])))
  (cAsg 0 (cPrim pDiv [.v 0, .e (cC (.int 6))])))
def m_l_words : CStm := (cSeq (cAsg 1 (cPrim pLst []))
  (cSeq (cAsg 2 (cPrim pMod [.e (cPrim pIntA [.v 0]), .e (cC (.int 8))]))
  (cSeq (cAsg 0 (cPrim pDiv [.v 0, .e (cC (.int 8))]))
  (cSeq (cFor (cItR1 (.v 2)) (tgN 3) b_l_words_1)
  (cRet (cPrim pTuple [.v 1]))))))
def F_l_words : CFun := bodyF [] 4 m_l_words
abbrev s_p_Pairs_between : Stmt := inS (topS 9) 8
abbrev N_p_Pairs_between : List Str := ["firsts", "seconds", "pair"]
def c_p_Pairs_between_1 : CTst := (cAnd (cTst (cPrim pIn [.e (cPrim pIdx [.v 2, .e (cC (.int 0))]), .v 0])) (cTst (cPrim pIn [.e (cPrim pIdx [.v 2, .e (cC (.int 1))]), .v 1])))
def e_p_Pairs_between_2 : CExp := (cVar 2)
def m_p_Pairs_between : CStm := (cRet (cMake 3 F_p_Pairs___init__ [.e (cLc (cItS (cC k_PAIRS)) (tgN 2) c_p_Pairs_between_1 e_p_Pairs_between_2 [2])]))
def F_p_Pairs_between : CFun := bodyF [0, 1] 3 m_p_Pairs_between
abbrev s_l_odd : Stmt := topS 16
abbrev N_l_odd : List Str := ["_law_number", "_law_odd_here"]
def m_l_odd : CStm := (cSeq (cAsg 1 (cPrim pLst [.e (cPrim pTup [.e (cC (.str "read")), .e (cC (.str "return"))]), .e (cPrim pTup [.e (cC (.str "both")), .e (cC (.str "return"))]), .e (cPrim pTup [.e (cC (.str "return")), .e (cC (.str "read"))]), .e (cPrim pTup [.e (cC (.str "read")), .e (cC (.str "full"))]), .e (cPrim pTup [.e (cC (.str "read"))]), .e (cC (.int 7)), .e (cC .non), .e (cC (.str "read")), .e (cPrim pTup [])]))
  (cSeq (cAsg 1 (cPrim pAdd [.v 1, .e (cPrim pLst [.e (cPrim pLst [.e (cC (.str "read")), .e (cC (.str "read"))]), .e (cPrim pTup [.e (cC (.str "read")), .e (cC .non)]), .e (cPrim pTup [.e (cC (.str "Read")), .e (cC (.str "read"))]), .e (cPrim pTup [.e (cC (.str "write")), .e (cC (.str "returns"))]), .e (cPrim pTup [.e (cC (.str "")), .e (cC (.str "read"))])])]))
  (cSeq (cAsg 1 (cPrim pAdd [.v 1, .e (cPrim pLst [.e (cPrim pTup [.e (cC (.str "acquire")), .e (cC (.str "return"))]), .e (cPrim pTup [.e (cC (.str "read")), .e (cC (.str "write")), .e (cC (.str "both"))])])]))
  (cRet (cPrim pIdx [.v 1, .e (cPrim pMod [.e (cPrim pIntA [.v 0]), .e (cC (.int 16))])])))))
def F_l_odd : CFun := bodyF [0] 2 m_l_odd
abbrev s_l_spoilt : Stmt := topS 17
abbrev N_l_spoilt : List Str := ["_law_items_here", "_law_number", "_law_spoilt_here", "_law_many", "_law_k", "_law_bad", "_law_place"]
def b_l_spoilt_1 : CStm := (cSeq (cAsg 5 (cCall F_l_odd [.v 1]))
  (cSeq (cAsg 1 (cPrim pDiv [.v 1, .e (cC (.int 16))]))
  (cSeq (cAsg 6 (cPrim pMod [.e (cPrim pIntA [.v 1]), .e (cPrim pAdd [.e (cPrim pLen [.v 2]), .e (cC (.int 1))])]))
  (cSeq (cAsg 1 (cPrim pDiv [.v 1, .e (cC (.int 64))]))
  (cAsg 2 (cPrim pAdd [.e (cPrim pAdd [.e (cSl (.v 2) none (some (cVar 6))), .e (cPrim pLst [.e (cVar 5)])]), .e (cSl (.v 2) (some (cVar 6)) none)]))))))
def m_l_spoilt : CStm := (cSeq (cAsg 2 (cPrim pListA [.v 0]))
  (cSeq (cAsg 3 (cPrim pAdd [.e (cC (.int 1)), .e (cPrim pMod [.e (cPrim pIntA [.v 1]), .e (cC (.int 2))])]))
  (cSeq (cAsg 1 (cPrim pDiv [.v 1, .e (cC (.int 2))]))
  (cSeq (cFor (cItR1 (.v 3)) (tgN 4) b_l_spoilt_1)
  (cRet (cMove 2))))))
def F_l_spoilt : CFun := bodyF [0] 7 m_l_spoilt
abbrev s_l_first_bad : Stmt := topS 18
abbrev N_l_first_bad : List Str := ["_law_items_here", "_law_rows", "_law_item"]
def b_l_first_bad_1 : CStm := (cIf (cTst (cPrim pNi [.v 2, .v 1])) (cRet (cPrim pLst [.e (cVar 2)])) cNext)
def m_l_first_bad : CStm := (cSeq (cAsg 1 (cCall F_l_pairs []))
  (cSeq (cFor (cItS (cVar 0)) (tgN 2) b_l_first_bad_1)
  (cRet (cPrim pLst []))))
def F_l_first_bad : CFun := bodyF [0] 3 m_l_first_bad
abbrev s_l_refusal : Stmt := topS 19
abbrev N_l_refusal : List Str := ["_law_items_here", "e"]
def b_l_refusal_1 : CStm := (cDrop (cMake 3 F_p_Pairs___init__ [.v 0]))
def b_l_refusal_2 : CStm := (cIf (cAnd (cTst (cPrim (pXis (tblI [((1, 1), true)] [])) [.v 1, .e (cC (.cls 1))])) (cAnd (cTst (cPrim (pXis (tblI [] [((1, "ValueError"), true)])) [.v 1, .e (cC (.ty "ValueError"))])) (cNot (cTst (cPrim (pXis (tblI [((1, 2), false)] [])) [.v 1, .e (cC (.cls 2))]))))) (cRet (cPrim pLst [.e (cXf 1 "pair" [1])])) cNext)
def m_l_refusal : CStm := (cSeq (cTry b_l_refusal_1 [((tblX [(1, true)]), (some 1), b_l_refusal_2)])
  (cRet (cPrim pLst [])))
def F_l_refusal : CFun := bodyF [0] 2 m_l_refusal
abbrev s_law : Stmt := topS 24
abbrev N_law : List Str := ["_law_script", "_law_row", "_law_rows", "_law_first", "_law_second", "_law_one", "_law_two", "_law_same", "_law_handed", "_law_a", "_law_b", "_law_none", "_law_firsts", "_law_seconds", "_law_due", "_law_spoilt_here", "_law_bad", "_law_k", "_law_pair"]
def e_law_1 : CExp := (cCall F_l_draw [.v 0, .v 17])
def c_law_2 : CTst := (cTst (cPrim pIn [.v 18, .v 3]))
def e_law_3 : CExp := (cVar 18)
def c_law_4 : CTst := (cTst (cPrim pIn [.v 18, .v 4]))
def e_law_5 : CExp := (cVar 18)
def c_law_6 : CTst := (cTst (cPrim pIn [.v 18, .v 6]))
def e_law_7 : CExp := (cVar 18)
def c_law_8 : CTst := (cAnd (cTst (cPrim pIn [.e (cPrim pIdx [.v 18, .e (cC (.int 0))]), .v 12])) (cTst (cPrim pIn [.e (cPrim pIdx [.v 18, .e (cC (.int 1))]), .v 13])))
def e_law_9 : CExp := (cVar 18)
def m_law : CStm := (cSeq (cAsg 1 (cLc (cItR1 (.e (cC (.int 6)))) (tgN 17) cYes e_law_1 [17]))
  (cSeq (cAsg 2 (cCall F_l_pairs []))
  (cSeq (cIf (cOr (cTst (cPrim pNe [.e (cC k_PAIRS), .e (cPrim pTuple [.v 2])])) (cTst (cPrim pNe [.e (cC k_KINDS), .e (cPrim pTup [.e (cC (.str "read")), .e (cC (.str "acquire")), .e (cC (.str "write")), .e (cC (.str "release")), .e (cC (.str "both"))])]))) (cRet (cC (.bl false))) cNext)
  (cSeq (cIf (cOr (cTst (cPrim pNe [.e (cC k_READS), .e (cPrim pTup [.e (cC (.str "read")), .e (cC (.str "acquire"))])])) (cTst (cPrim pNe [.e (cC k_WRITES), .e (cPrim pTup [.e (cC (.str "write")), .e (cC (.str "release"))])]))) (cRet (cC (.bl false))) cNext)
  (cSeq (cAsg 3 (cCall F_l_items [.e (cPrim pIdx [.v 1, .e (cC (.int 0))])]))
  (cSeq (cAsg 4 (cCall F_l_items [.e (cPrim pIdx [.v 1, .e (cC (.int 1))])]))
  (cSeq (cAsg 5 (cLc (cItS (cVar 2)) (tgN 18) c_law_2 e_law_3 [18]))
  (cSeq (cAsg 6 (cLc (cItS (cVar 2)) (tgN 18) c_law_4 e_law_5 [18]))
  (cSeq (cAsg 7 (cLc (cItS (cVar 5)) (tgN 18) c_law_6 e_law_7 [18]))
  (cSeq (cAsg 8 (cPrim pListA [.v 3]))
  (cSeq (cAsg 9 (cMake 3 F_p_Pairs___init__ [.v 8]))
  (cSeq (cIf (cTst (cPrim pNe [.v 8, .v 3])) (cRet (cC (.bl false))) cNext)
  (cSeq (cDrop (cRevI 8))
  (cSeq (cDrop (cApp 8 (cPrim pIdx [.v 2, .e (cPrim pMod [.e (cPrim pIntA [.e (cPrim pIdx [.v 1, .e (cC (.int 2))])]), .e (cC (.int 27))])])))
  (cSeq (cAsg 10 (cMake 3 F_p_Pairs___init__ [.e (cPrim pTuple [.v 4])]))
  (cSeq (cAsg 11 (cMake 3 F_p_Pairs___init__ [.e (cC (.ktup []))]))
  (cSeq (cIf (cOr (cNot (cTst (cCall F_l_made [.v 9, .v 10, .v 11, .v 5, .v 6, .v 2]))) (cNot (cTst (cCall F_l_within [.v 9, .v 10, .v 11, .v 5, .v 6, .v 7])))) (cRet (cC (.bl false))) cNext)
  (cSeq (cAsg 12 (cCall F_l_words [.e (cPrim pIdx [.v 1, .e (cC (.int 3))])]))
  (cSeq (cAsg 13 (cCall F_l_words [.e (cPrim pIdx [.v 1, .e (cC (.int 4))])]))
  (cSeq (cAsg 14 (cLc (cItS (cVar 2)) (tgN 18) c_law_8 e_law_9 [18]))
  (cSeq (cIf (cNot (cTst (cCall F_l_is_set [.e (cCall F_p_Pairs_between [.v 12, .v 13]), .v 14]))) (cRet (cC (.bl false))) cNext)
  (cSeq (cAsg 15 (cCall F_l_spoilt [.v 3, .e (cPrim pIdx [.v 1, .e (cC (.int 5))])]))
  (cSeq (cAsg 16 (cCall F_l_first_bad [.v 15]))
  (cSeq (cIf (cOr (cTst (cPrim pNe [.e (cCall F_l_refusal [.e (cPrim pListA [.v 15])]), .v 16])) (cTst (cPrim pNe [.e (cCall F_l_refusal [.e (cPrim pTuple [.v 15])]), .v 16]))) (cRet (cC (.bl false))) cNext)
  (cRet (cCall F_l_is_set [.e (cMake 3 F_p_Pairs___init__ [.e (cPrim pListA [.v 3])]), .v 5]))))))))))))))))))))))))))
def F_law : CFun := bodyF [0] 19 m_law
section
variable {P : Program} {w : World} {K : PySem.W.Frag} {mg : Str → Option Value} {base : Heap} {ct : Cn} {fi : Nat → Addr}
theorem sc_l_great : FnScope N_l_great ["_law_cell", "_law_k"] (defScope s_l_great) := ⟨rfl, rfl, rfl, by decide +kernel, rfl, by decide +kernel, by decide +kernel⟩
theorem ok_l_great (T : Tx mg) (XC : Xc P K mg ct.ct fi) (hx0 : ct.xa = none) {f : Addr} {fd : FuncData} (F : L2.Fun K "_law_great" "_law_great" s_l_great f fd) (hm : mg "_law_great" = some (.ref f)) (hb : Binds K fd ["_law_cell", "_law_k"] [])  : Fn P w K mg base ct 1 "_law_great" 2 F_l_great := by
  refine fn_mk (k := 0) [0, 1] F sc_l_great hm hb fun cdv A outer s H E hr tk hp hu => ?_
  exact (css_cons (cs_if (ct_ge (co_v 0) (co_e (ce_pow (co_e ce_int) (co_e ce_int)))) (css_one (cs_ret (ce_sub (co_v 0) (co_e (ce_pow (co_e ce_int) (co_e ce_int)))))) css_nil)
  (css_cons (cs_set 2 sc_l_great.nd ce_int)
  (css_cons (cs_set 3 sc_l_great.nd (ce_add (co_e (ce_bT cr_intA prIntA (by rfl) T.b_int (by decide +kernel) (ca_cons (co_v 0) ca_nil))) (co_e (ce_mul (co_e ce_int) (co_v 1)))))
  (css_cons (cs_for hp rfl (ci_range1 (by rfl) T.b_range (co_e ce_int)) (cg_name 4 sc_l_great.nd) (css_cons (cs_set 3 sc_l_great.nd (ce_mod (co_e (ce_bT cr_intA prIntA (by rfl) T.b_int (by decide +kernel) (ca_cons (co_e (ce_add (co_e (ce_add (co_e (ce_mul (co_v 3) (co_e ce_int))) (co_e (ce_mul (co_e ce_int) (co_v 4))))) (co_e ce_int))) ca_nil))) (co_e ce_int)))
  (css_cons (cs_set 3 sc_l_great.nd (ce_mod (co_e (ce_bT cr_intA prIntA (by rfl) T.b_int (by decide +kernel) (ca_cons (co_e (ce_add (co_e (ce_mul (co_v 3) (co_e ce_int))) (co_v 1))) ca_nil))) (co_e ce_int)))
  (css_one (cs_set 2 sc_l_great.nd (ce_add (co_e (ce_mul (co_v 2) (co_e ce_int))) (co_v 3)))))))
  (css_one (cs_ret (ce_move 2)))))))
theorem sc_l_draw : FnScope N_l_draw ["_law_script", "_law_k"] (defScope s_l_draw) := ⟨rfl, rfl, rfl, by decide +kernel, rfl, by decide +kernel, by decide +kernel⟩
theorem ok_l_draw (T : Tx mg) (XC : Xc P K mg ct.ct fi) (hx0 : ct.xa = none) {f : Addr} {fd : FuncData} (F : L2.Fun K "_law_draw" "_law_draw" s_l_draw f fd) (hm : mg "_law_draw" = some (.ref f)) (hb : Binds K fd ["_law_script", "_law_k"] []) (h_l_great : Fn P w K mg base ct 1 "_law_great" 2 F_l_great) : Fn P w K mg base ct 2 "_law_draw" 2 F_l_draw := by
  refine fn_mk (k := 1) [0, 1] F sc_l_draw hm hb fun cdv A outer s H E hr tk hp hu => ?_
  exact (css_cons (cs_if (ct_eq hu (co_e (ce_b cr_len prLen (by rfl) T.b_len (by decide +kernel) (ca_cons (co_v 0) ca_nil))) (co_e ce_int)) (css_one (cs_ret ce_int)) css_nil)
  (css_cons (cs_if (ct_lt (co_v 1) (co_e (ce_b cr_len prLen (by rfl) T.b_len (by decide +kernel) (ca_cons (co_v 0) ca_nil)))) (css_one (cs_ret (ce_call h_l_great hr (by decide) (by rfl) tk (ca_cons (co_e (ce_idx hu (co_v 0) (co_v 1))) (ca_cons (co_v 1) ca_nil)) rfl))) css_nil)
  (css_cons (cs_set 2 sc_l_draw.nd (ce_add (co_e ce_int) (co_e (ce_b cr_len prLen (by rfl) T.b_len (by decide +kernel) (ca_cons (co_v 0) ca_nil)))))
  (css_cons (cs_for hp rfl (ci_seq (ce_sl (co_v 0) cp_none (cp_some ce_int))) (cg_name 3 sc_l_draw.nd) (css_one (cs_set 2 sc_l_draw.nd (ce_mod (co_e (ce_bT cr_intA prIntA (by rfl) T.b_int (by decide +kernel) (ca_cons (co_e (ce_add (co_e (ce_mul (co_v 2) (co_e ce_int))) (co_v 3))) ca_nil))) (co_e ce_int)))))
  (css_one (cs_ret (ce_call h_l_great hr (by decide) (by rfl) tk (ca_cons (co_v 2) (ca_cons (co_v 1) ca_nil)) rfl)))))))
theorem sc_l_pairs : FnScope N_l_pairs [] (defScope s_l_pairs) := ⟨rfl, rfl, rfl, by decide +kernel, rfl, by decide +kernel, by decide +kernel⟩
theorem ok_l_pairs (T : Tx mg) (XC : Xc P K mg ct.ct fi) (hx0 : ct.xa = none) {f : Addr} {fd : FuncData} (F : L2.Fun K "_law_pairs" "_law_pairs" s_l_pairs f fd) (hm : mg "_law_pairs" = some (.ref f)) (hb : Binds K fd [] [])  : Fn P w K mg base ct 1 "_law_pairs" 0 F_l_pairs := by
  refine fn_mk (k := 0) [] F sc_l_pairs hm hb fun cdv A outer s H E hr tk hp hu => ?_
  exact (css_cons (cs_set 0 sc_l_pairs.nd (ce_lst ca_nil))
  (css_cons (cs_for hp rfl (ci_seq (ce_lst (ca_cons (co_e ce_str) (ca_cons (co_e ce_str) (ca_cons (co_e ce_str) (ca_cons (co_e ce_str) (ca_cons (co_e ce_str) ca_nil))))))) (cg_name 1 sc_l_pairs.nd) (css_cons (cs_for hp rfl (ci_seq (ce_lst (ca_cons (co_e ce_str) (ca_cons (co_e ce_str) (ca_cons (co_e ce_str) (ca_cons (co_e ce_str) (ca_cons (co_e ce_str) ca_nil))))))) (cg_name 2 sc_l_pairs.nd) (css_one (cs_expr (ce_app 0 (ce_tup (ca_cons (co_e (ce_var 1)) (ca_cons (co_e (ce_var 2)) ca_nil)))))))
  (css_one (cs_if (CW.toT (cw_or (ct_eq hu (co_v 1) (co_e ce_str)) (cw_or1 (ct_eq hu (co_v 1) (co_e ce_str))))) (css_one (cs_expr (ce_app 0 (ce_tup (ca_cons (co_e (ce_var 1)) (ca_cons (co_e ce_str) ca_nil)))))) css_nil))))
  (css_one (cs_ret (ce_move 0)))))
theorem sc_l_items : FnScope N_l_items ["_law_number"] (defScope s_l_items) := ⟨rfl, rfl, rfl, by decide +kernel, rfl, by decide +kernel, by decide +kernel⟩
theorem ok_l_items (T : Tx mg) (XC : Xc P K mg ct.ct fi) (hx0 : ct.xa = none) {f : Addr} {fd : FuncData} (F : L2.Fun K "_law_items" "_law_items" s_l_items f fd) (hm : mg "_law_items" = some (.ref f)) (hb : Binds K fd ["_law_number"] []) (h_l_pairs : Fn P w K mg base ct 1 "_law_pairs" 0 F_l_pairs) : Fn P w K mg base ct 2 "_law_items" 1 F_l_items := by
  refine fn_mk (k := 1) [] F sc_l_items hm hb fun cdv A outer s H E hr tk hp hu => ?_
  exact (css_cons (cs_set 1 sc_l_items.nd (ce_call0 h_l_pairs hr (by decide) (by rfl) tk))
  (css_cons (cs_set 2 sc_l_items.nd (ce_mod (co_e (ce_bT cr_intA prIntA (by rfl) T.b_int (by decide +kernel) (ca_cons (co_v 0) ca_nil))) (co_e ce_int)))
  (css_cons (cs_set 0 sc_l_items.nd (ce_div (co_v 0) (co_e ce_int)))
  (css_cons (cs_if (ct_eq hu (co_v 2) (co_e ce_int)) (css_one (cs_ret (ce_lst ca_nil))) css_nil)
  (css_cons (cs_if (ct_eq hu (co_v 2) (co_e ce_int)) (css_one (cs_ret (ce_lcC [("_law_k", 6)] rfl sc_l_items.nd (ci_range1 (by rfl) T.b_range (co_e ce_int)) (blkOk_by (own := [("_law_k", 6)]) (N := N_l_items) (sc := defScope s_l_items) (by decide +kernel)) LenG.name (fun fx' hf => SG.name (hf 6 (by decide))) (fun _ _ _ _ _ => pg_name (i := 6) sc_l_items.nd rfl (by first | exact Or.inl rfl | exact Or.inr rfl)) (fun _ _ _ _ _ => cts_nil) (fun _ _ _ _ _ => (ce_idx hu (co_v 1) (co_e (ce_sub (co_e ce_int) (co_v 6)))))))) css_nil)
  (css_cons (cs_set 3 sc_l_items.nd (ce_mod (co_e (ce_bT cr_intA prIntA (by rfl) T.b_int (by decide +kernel) (ca_cons (co_v 0) ca_nil))) (co_e ce_int)))
  (css_cons (cs_set 0 sc_l_items.nd (ce_div (co_v 0) (co_e ce_int)))
  (css_cons (cs_set 4 sc_l_items.nd (ce_var 0))
  (css_cons (cs_set 5 sc_l_items.nd (ce_lst ca_nil))
  (css_cons (cs_for hp rfl (ci_range1 (by rfl) T.b_range (co_v 3)) (cg_name 6 sc_l_items.nd) (css_one (cs_if (ct_gt (co_v 0) (co_e ce_int)) (css_cons (cs_expr (ce_app 5 (ce_idx hu (co_v 1) (co_e (ce_mod (co_e (ce_bT cr_intA prIntA (by rfl) T.b_int (by decide +kernel) (ca_cons (co_v 0) ca_nil))) (co_e ce_int))))))
  (css_one (cs_set 0 sc_l_items.nd (ce_div (co_v 0) (co_e ce_int))))) (css_cons (cs_set 4 sc_l_items.nd (ce_mod (co_e (ce_bT cr_intA prIntA (by rfl) T.b_int (by decide +kernel) (ca_cons (co_e (ce_add (co_e (ce_add (co_e (ce_mul (co_v 4) (co_e ce_int))) (co_e (ce_mul (co_e ce_int) (co_v 6))))) (co_e ce_int))) ca_nil))) (co_e ce_int)))
  (css_cons (cs_set 4 sc_l_items.nd (ce_mod (co_e (ce_bT cr_intA prIntA (by rfl) T.b_int (by decide +kernel) (ca_cons (co_e (ce_add (co_e (ce_mul (co_v 4) (co_e ce_int))) (co_e ce_int))) ca_nil))) (co_e ce_int)))
  (css_one (cs_expr (ce_app 5 (ce_idx hu (co_v 1) (co_e (ce_mod (co_e (ce_bT cr_intA prIntA (by rfl) T.b_int (by decide +kernel) (ca_cons (co_e (ce_div (co_v 4) (co_e ce_int))) ca_nil))) (co_e ce_int))))))))))))
  (css_one (cs_ret (ce_move 5)))))))))))))
theorem sc_p_Pairs___init__ : FnScope N_p_Pairs___init__ ["self", "pairs"] (defScope s_p_Pairs___init__) := ⟨rfl, rfl, rfl, by decide +kernel, rfl, by decide +kernel, by decide +kernel⟩
theorem okG_p_Pairs___init__ (T : Tx mg) (XC : Xc P K mg ct.ct fi) (hx0 : ct.xa = none) {dV kV : Value} {f : Addr} {fd : FuncData} (F : FunV K "__init__" "Pairs.__init__" s_p_Pairs___init__ dV kV f fd)  : FnOk P w K mg base (L2.CX P w) 2 f fd ["self", "pairs"] (spD ⟨K, ct⟩ F_p_Pairs___init__ 2) := by
  refine fn_okV (k := 1) [0, 1] F sc_p_Pairs___init__ fun cdv A outer s H E hr tk hp hu => ?_
  exact (css_cons (cs_forOs 1 (by decide) hp rfl (cg_name 2 sc_p_Pairs___init__.nd) (css_one (cs_if (ct_ni hu (co_v 2) (co_e (ce_gobj (by rfl) XC.c_PAIRS))) (css_one (cs_raise XC.x_1 XC.su hr (by decide) (by rfl) XC.m_1 rfl tk (ca_cons (co_e (ce_var 2)) ca_nil) rfl)) css_nil)))
  (css_one (cs_fst 0 (fs_cons ⟨XC.cl_3, XC.nf_3_own_rows⟩ fs_nil) (ce_lcC [("pair", 3)] rfl sc_p_Pairs___init__.nd (ci_seq (ce_gobj (by rfl) XC.c_PAIRS)) (blkOk_by (own := [("pair", 3)]) (N := N_p_Pairs___init__) (sc := defScope s_p_Pairs___init__) (by decide +kernel)) LenG.name (fun fx' hf => SG.name (hf 3 (by decide))) (fun _ _ _ _ _ => pg_name (i := 3) sc_p_Pairs___init__.nd rfl (by first | exact Or.inl rfl | exact Or.inr rfl)) (fun _ _ _ _ _ => cts_one (ct_in hu (co_v 3) (co_v 1))) (fun _ _ _ _ _ => (ce_var 3))))))
theorem ok_p_Pairs___init___1 (T : Tx mg) (XC : Xc P K mg ct.ct fi) (hx0 : ct.xa = none) {dV kV : Value} {f : Addr} {fd : FuncData} {shU : List (Option Value)} {shV : List (Option V)} (F : FunV K "__init__" "Pairs.__init__" s_p_Pairs___init__ dV kV f fd) (hmk : Mk K (ct.ct 3) f) (hb : BndK K fd ["self", "pairs"] (1 + 1) [] (none :: shU)) (hu : ShU shV shU) (hr : ShR ⟨K, ct⟩ shV [none])  : MkK P w K mg base ct 2 "Pairs" 1 [] [none] 2 3 F_p_Pairs___init__ :=
  mkK_mk (okG_p_Pairs___init__ T XC hx0 F ) hmk XC.m_3 hb hu hr
theorem ok_p_Pairs___init___0_d (T : Tx mg) (XC : Xc P K mg ct.ct fi) (hx0 : ct.xa = none) {dV kV : Value} {f : Addr} {fd : FuncData} {shU : List (Option Value)} {shV : List (Option V)} (F : FunV K "__init__" "Pairs.__init__" s_p_Pairs___init__ dV kV f fd) (hmk : Mk K (ct.ct 3) f) (hb : BndK K fd ["self", "pairs"] (0 + 1) [] (none :: shU)) (hu : ShU shV shU) (hr : ShR ⟨K, ct⟩ shV [some (.ktup [])])  : MkK P w K mg base ct 2 "Pairs" 0 [] [some (.ktup [])] 2 3 F_p_Pairs___init__ :=
  mkK_mk (okG_p_Pairs___init__ T XC hx0 F ) hmk XC.m_3 hb hu hr
theorem sc_p_Pairs___contains__ : FnScope N_p_Pairs___contains__ ["self", "pair"] (defScope s_p_Pairs___contains__) := ⟨rfl, rfl, rfl, by decide +kernel, rfl, by decide +kernel, by decide +kernel⟩
theorem ok_p_Pairs___contains__ (T : Tx mg) (XC : Xc P K mg ct.ct fi) (hx0 : ct.xa = none) {f : Addr} {fd : FuncData} (F : L2.Fun K "__contains__" "Pairs.__contains__" s_p_Pairs___contains__ f fd) (hb : Binds K fd ["self", "pair"] []) (hat : PySem.W.findIn K (.ref (ct.ct 3)) "__contains__" = some (some (.ref f))) (hfn : PySem.W.isFn K (.ref f) = true) (hfi : PySem.W.fnIn K f = true)  : MOk P w K mg base ct 1 "__contains__" 2 3 F_p_Pairs___contains__ := by
  refine ⟨XC.cl_3, XC.sf_3, f, hat, hfn, F.kp, hfi, fn_mkM (k := 0) [0, 1] F sc_p_Pairs___contains__ hb fun cdv A outer s H E hr tk hp hu => ?_⟩
  exact (css_one (cs_ret (ce_in hu (co_v 1) (co_e (ce_fld (fs_cons ⟨XC.cl_3, XC.nf_3_own_rows⟩ fs_nil) (co_v 0))))))
theorem sc_p_Pairs___and__ : FnScope N_p_Pairs___and__ ["self", "other"] (defScope s_p_Pairs___and__) := ⟨rfl, rfl, rfl, by decide +kernel, rfl, by decide +kernel, by decide +kernel⟩
theorem ok_p_Pairs___and__ (T : Tx mg) (XC : Xc P K mg ct.ct fi) (hx0 : ct.xa = none) {f : Addr} {fd : FuncData} (F : L2.Fun K "__and__" "Pairs.__and__" s_p_Pairs___and__ f fd) (hb : Binds K fd ["self", "other"] []) (hat : PySem.W.findIn K (.ref (ct.ct 3)) "__and__" = some (some (.ref f))) (hfn : PySem.W.isFn K (.ref f) = true) (hfi : PySem.W.fnIn K f = true) (h_p_Pairs___init___1 : MkK P w K mg base ct 2 "Pairs" 1 [] [none] 2 3 F_p_Pairs___init__) (h_p_Pairs___contains__ : MOk P w K mg base ct 1 "__contains__" 2 3 F_p_Pairs___contains__) : MOk P w K mg base ct 4 "__and__" 2 3 F_p_Pairs___and__ := by
  refine ⟨XC.cl_3, XC.sf_3, f, hat, hfn, F.kp, hfi, fn_mkM (k := 3) [0, 1] F sc_p_Pairs___and__ hb fun cdv A outer s H E hr tk hp hu => ?_⟩
  exact (css_one (cs_ret (ce_makeK h_p_Pairs___init___1 hr (by decide) (by rfl) tk (ca_cons (co_e (ce_lcC [("pair", 2)] rfl sc_p_Pairs___and__.nd (ci_seq (ce_fld (fs_cons ⟨XC.cl_3, XC.nf_3_own_rows⟩ fs_nil) (co_v 0))) (blkOk_by (own := [("pair", 2)]) (N := N_p_Pairs___and__) (sc := defScope s_p_Pairs___and__) (by decide +kernel)) LenG.name (fun fx' hf => SG.name (hf 2 (by decide))) (fun _ _ _ _ _ => pg_name (i := 2) sc_p_Pairs___and__.nd rfl (by first | exact Or.inl rfl | exact Or.inr rfl)) (fun _ _ _ _ _ => cts_one (ct_inC (k := 1) hu (mt_cons h_p_Pairs___contains__ (by decide) mt_nil) hr (by decide) takes0 (co_v 2) (co_v 1))) (fun _ _ _ _ _ => (ce_var 2)))) ca_nil) ck_nil rfl rfl rfl rfl)))
theorem sc_p_Pairs___or__ : FnScope N_p_Pairs___or__ ["self", "other"] (defScope s_p_Pairs___or__) := ⟨rfl, rfl, rfl, by decide +kernel, rfl, by decide +kernel, by decide +kernel⟩
theorem ok_p_Pairs___or__ (T : Tx mg) (XC : Xc P K mg ct.ct fi) (hx0 : ct.xa = none) {f : Addr} {fd : FuncData} (F : L2.Fun K "__or__" "Pairs.__or__" s_p_Pairs___or__ f fd) (hb : Binds K fd ["self", "other"] []) (hat : PySem.W.findIn K (.ref (ct.ct 3)) "__or__" = some (some (.ref f))) (hfn : PySem.W.isFn K (.ref f) = true) (hfi : PySem.W.fnIn K f = true) (h_p_Pairs___init___1 : MkK P w K mg base ct 2 "Pairs" 1 [] [none] 2 3 F_p_Pairs___init__) (h_p_Pairs___contains__ : MOk P w K mg base ct 1 "__contains__" 2 3 F_p_Pairs___contains__) : MOk P w K mg base ct 4 "__or__" 2 3 F_p_Pairs___or__ := by
  refine ⟨XC.cl_3, XC.sf_3, f, hat, hfn, F.kp, hfi, fn_mkM (k := 3) [0, 1] F sc_p_Pairs___or__ hb fun cdv A outer s H E hr tk hp hu => ?_⟩
  exact (css_one (cs_ret (ce_makeK h_p_Pairs___init___1 hr (by decide) (by rfl) tk (ca_cons (co_e (ce_lcC [("pair", 2)] rfl sc_p_Pairs___or__.nd (ci_seq (ce_gobj (by rfl) XC.c_PAIRS)) (blkOk_by (own := [("pair", 2)]) (N := N_p_Pairs___or__) (sc := defScope s_p_Pairs___or__) (by decide +kernel)) LenG.name (fun fx' hf => SG.name (hf 2 (by decide))) (fun _ _ _ _ _ => pg_name (i := 2) sc_p_Pairs___or__.nd rfl (by first | exact Or.inl rfl | exact Or.inr rfl)) (fun _ _ _ _ _ => cts_one (CW.toT (cw_or (ct_in hu (co_v 2) (co_e (ce_fld (fs_cons ⟨XC.cl_3, XC.nf_3_own_rows⟩ fs_nil) (co_v 0)))) (cw_or1 (ct_inC (k := 1) hu (mt_cons h_p_Pairs___contains__ (by decide) mt_nil) hr (by decide) takes0 (co_v 2) (co_v 1)))))) (fun _ _ _ _ _ => (ce_var 2)))) ca_nil) ck_nil rfl rfl rfl rfl)))
theorem sc_p_Pairs___sub__ : FnScope N_p_Pairs___sub__ ["self", "other"] (defScope s_p_Pairs___sub__) := ⟨rfl, rfl, rfl, by decide +kernel, rfl, by decide +kernel, by decide +kernel⟩
theorem ok_p_Pairs___sub__ (T : Tx mg) (XC : Xc P K mg ct.ct fi) (hx0 : ct.xa = none) {f : Addr} {fd : FuncData} (F : L2.Fun K "__sub__" "Pairs.__sub__" s_p_Pairs___sub__ f fd) (hb : Binds K fd ["self", "other"] []) (hat : PySem.W.findIn K (.ref (ct.ct 3)) "__sub__" = some (some (.ref f))) (hfn : PySem.W.isFn K (.ref f) = true) (hfi : PySem.W.fnIn K f = true) (h_p_Pairs___init___1 : MkK P w K mg base ct 2 "Pairs" 1 [] [none] 2 3 F_p_Pairs___init__) (h_p_Pairs___contains__ : MOk P w K mg base ct 1 "__contains__" 2 3 F_p_Pairs___contains__) : MOk P w K mg base ct 4 "__sub__" 2 3 F_p_Pairs___sub__ := by
  refine ⟨XC.cl_3, XC.sf_3, f, hat, hfn, F.kp, hfi, fn_mkM (k := 3) [0, 1] F sc_p_Pairs___sub__ hb fun cdv A outer s H E hr tk hp hu => ?_⟩
  exact (css_one (cs_ret (ce_makeK h_p_Pairs___init___1 hr (by decide) (by rfl) tk (ca_cons (co_e (ce_lcC [("pair", 2)] rfl sc_p_Pairs___sub__.nd (ci_seq (ce_fld (fs_cons ⟨XC.cl_3, XC.nf_3_own_rows⟩ fs_nil) (co_v 0))) (blkOk_by (own := [("pair", 2)]) (N := N_p_Pairs___sub__) (sc := defScope s_p_Pairs___sub__) (by decide +kernel)) LenG.name (fun fx' hf => SG.name (hf 2 (by decide))) (fun _ _ _ _ _ => pg_name (i := 2) sc_p_Pairs___sub__.nd rfl (by first | exact Or.inl rfl | exact Or.inr rfl)) (fun _ _ _ _ _ => cts_one (ct_niC (k := 1) hu (mt_cons h_p_Pairs___contains__ (by decide) mt_nil) hr (by decide) takes0 (co_v 2) (co_v 1))) (fun _ _ _ _ _ => (ce_var 2)))) ca_nil) ck_nil rfl rfl rfl rfl)))
theorem sc_p_Pairs___len__ : FnScope N_p_Pairs___len__ ["self"] (defScope s_p_Pairs___len__) := ⟨rfl, rfl, rfl, by decide +kernel, rfl, by decide +kernel, by decide +kernel⟩
theorem ok_p_Pairs___len__ (T : Tx mg) (XC : Xc P K mg ct.ct fi) (hx0 : ct.xa = none) {f : Addr} {fd : FuncData} (F : L2.Fun K "__len__" "Pairs.__len__" s_p_Pairs___len__ f fd) (hb : Binds K fd ["self"] []) (hat : PySem.W.findIn K (.ref (ct.ct 3)) "__len__" = some (some (.ref f))) (hfn : PySem.W.isFn K (.ref f) = true) (hfi : PySem.W.fnIn K f = true)  : MOk P w K mg base ct 1 "__len__" 1 3 F_p_Pairs___len__ := by
  refine ⟨XC.cl_3, XC.sf_3, f, hat, hfn, F.kp, hfi, fn_mkM (k := 0) [0] F sc_p_Pairs___len__ hb fun cdv A outer s H E hr tk hp hu => ?_⟩
  exact (css_one (cs_ret (ce_b cr_len prLen (by rfl) T.b_len (by decide +kernel) (ca_cons (co_e (ce_fld (fs_cons ⟨XC.cl_3, XC.nf_3_own_rows⟩ fs_nil) (co_v 0))) ca_nil))))
theorem sc_iter_Pairs : FnScope N_iter_Pairs ["self"] (defScope s_iter_Pairs) := ⟨rfl, rfl, rfl, by decide +kernel, rfl, by decide +kernel, by decide +kernel⟩
theorem ok_iter_Pairs (T : Tx mg) (XC : Xc P K mg ct.ct fi) {f : Addr} {fd : FuncData} (F : L2.Fun K "__iter__" "Pairs.__iter__" s_iter_Pairs f fd) (hb : Binds K fd ["self"] []) (hat : PySem.W.findIn K (.ref (ct.ct 3)) "__iter__" = some (some (.ref f))) (hfn : PySem.W.isFn K (.ref f) = true) : IOk P w K mg base ct 1 3 "own_rows" := ⟨f, hat, hfn, itR_mk F sc_iter_Pairs hb XC.cl_3 XC.nf_3_own_rows T.b_iter (fun _ _ _ _ _ _ => rfl) (fun _ _ _ _ _ _ => by first | exact Or.inl rfl | exact Or.inr (Or.inl rfl) | exact Or.inr (Or.inr rfl)) rfl⟩
theorem sc_lnl_Pairs : FnScope N_lnl_Pairs ["self"] (defScope s_lnl_Pairs) := ⟨rfl, rfl, rfl, by decide +kernel, rfl, by decide +kernel, by decide +kernel⟩
theorem ok_lnl_Pairs (T : Tx mg) (XC : Xc P K mg ct.ct fi) {f : Addr} {fd : FuncData} (F : L2.Fun K "__len__" "Pairs.__len__" s_lnl_Pairs f fd) (hb : Binds K fd ["self"] []) (hat : PySem.W.findIn K (.ref (ct.ct 3)) "__len__" = some (some (.ref f))) (hfn : PySem.W.isFn K (.ref f) = true) (h : IOk P w K mg base ct 1 3 "own_rows") : LOk P w K mg base ct 1 3 "own_rows" := ⟨h, f, hat, hfn, lnR_mk F sc_lnl_Pairs hb XC.cl_3 XC.nf_3_own_rows T.b_len (fun _ _ _ _ _ _ => rfl) (fun _ _ _ _ _ _ => by first | exact Or.inl rfl | exact Or.inr (Or.inl rfl) | exact Or.inr (Or.inr rfl)) rfl⟩
theorem sc_l_is_set : FnScope N_l_is_set ["_law_told", "_law_due"] (defScope s_l_is_set) := ⟨rfl, rfl, rfl, by decide +kernel, rfl, by decide +kernel, by decide +kernel⟩
theorem ok_l_is_set (T : Tx mg) (XC : Xc P K mg ct.ct fi) (hx0 : ct.xa = none) {f : Addr} {fd : FuncData} (F : L2.Fun K "_law_is_set" "_law_is_set" s_l_is_set f fd) (hm : mg "_law_is_set" = some (.ref f)) (hb : Binds K fd ["_law_told", "_law_due"] []) (h_p_Pairs___len__ : MOk P w K mg base ct 1 "__len__" 1 3 F_p_Pairs___len__) (h_lnl_Pairs : LOk P w K mg base ct 1 3 "own_rows") (h_l_pairs : Fn P w K mg base ct 1 "_law_pairs" 0 F_l_pairs) (h_p_Pairs___contains__ : MOk P w K mg base ct 1 "__contains__" 2 3 F_p_Pairs___contains__) : Fn P w K mg base ct 5 "_law_is_set" 2 F_l_is_set := by
  refine fn_mk (k := 4) [0, 1] F sc_l_is_set hm hb fun cdv A outer s H E hr tk hp hu => ?_
  exact (css_cons (cs_if (CW.toT (cw_or (ct_not (ct_val (ce_b call_isi (prIsC (IsT1.cons (XC.is_3 _) XC.ki_3_3 IsT1.nil) IsT2.nil) (by rfl) T.b_isinstance (by decide +kernel) (ca_cons (co_v 0) (ca_cons (co_e (ce_cls 3 (by rfl) XC.m_3)) ca_nil))))) (cw_or1 (ct_ne hu (co_e (ce_lenC (k := 1) (mt_cons h_p_Pairs___len__ (by decide) mt_nil) hr (by decide) tk (by rfl) T.b_len (ca_cons (co_v 0) ca_nil))) (co_e (ce_b cr_len prLen (by rfl) T.b_len (by decide +kernel) (ca_cons (co_v 1) ca_nil))))))) (css_one (cs_ret ce_bl)) css_nil)
  (css_cons (cs_if (CW.toT (cw_or (ct_ne hu (co_e (ce_listC (ln_cons h_lnl_Pairs ln_nil) hr (by decide) rfl (by rfl) T.b_list (co_v 0))) (co_v 1)) (cw_or1 (ct_ne hu (co_e (ce_listC (ln_cons h_lnl_Pairs ln_nil) hr (by decide) rfl (by rfl) T.b_list (co_v 0))) (co_v 1))))) (css_one (cs_ret ce_bl)) css_nil)
  (css_cons (cs_for hp rfl (ci_seq (ce_add (co_e (ce_call0 h_l_pairs hr (by decide) (by rfl) tk)) (co_e (ce_lst (ca_cons (co_e (ce_tup (ca_cons (co_e ce_str) (ca_cons (co_e ce_str) ca_nil)))) (ca_cons (co_e (ce_tup (ca_cons (co_e ce_str) (ca_cons (co_e ce_str) ca_nil)))) (ca_cons (co_e (ce_tup (ca_cons (co_e ce_str) (ca_cons (co_e ce_str) ca_nil)))) ca_nil))))))) (cg_name 2 sc_l_is_set.nd) (css_one (cs_if (ct_ne hu (co_e (ce_inC (k := 1) hu (mt_cons h_p_Pairs___contains__ (by decide) mt_nil) hr (by decide) tk (co_v 2) (co_v 0))) (co_e (ce_in hu (co_v 2) (co_v 1)))) (css_one (cs_ret ce_bl)) css_nil)))
  (css_one (cs_ret ce_bl)))))
theorem sc_l_made : FnScope N_l_made ["_law_a", "_law_b", "_law_none", "_law_one", "_law_two", "_law_rows"] (defScope s_l_made) := ⟨rfl, rfl, rfl, by decide +kernel, rfl, by decide +kernel, by decide +kernel⟩
theorem ok_l_made (T : Tx mg) (XC : Xc P K mg ct.ct fi) (hx0 : ct.xa = none) {f : Addr} {fd : FuncData} (F : L2.Fun K "_law_made" "_law_made" s_l_made f fd) (hm : mg "_law_made" = some (.ref f)) (hb : Binds K fd ["_law_a", "_law_b", "_law_none", "_law_one", "_law_two", "_law_rows"] []) (h_p_Pairs___and__ : MOk P w K mg base ct 4 "__and__" 2 3 F_p_Pairs___and__) (h_p_Pairs___or__ : MOk P w K mg base ct 4 "__or__" 2 3 F_p_Pairs___or__) (h_p_Pairs___sub__ : MOk P w K mg base ct 4 "__sub__" 2 3 F_p_Pairs___sub__) (h_l_is_set : Fn P w K mg base ct 5 "_law_is_set" 2 F_l_is_set) : Fn P w K mg base ct 6 "_law_made" 6 F_l_made := by
  refine fn_mk (k := 5) [0, 1, 2, 3, 4, 5] F sc_l_made hm hb fun cdv A outer s H E hr tk hp hu => ?_
  exact (css_cons (cs_setLcC 6 [("_law_pair", 13)] rfl sc_l_made.nd (by decide) rfl rfl (sw_true rfl rfl rfl (by decide +kernel)) (ci_seq (ce_var 3)) (blkOk_by (own := [("_law_pair", 13)]) (N := N_l_made) (sc := defScope s_l_made) (by decide +kernel)) LenG.name (fun fx' hf => SG.name (hf 13 (by decide))) (fun _ _ _ _ _ => pg_name (i := 13) sc_l_made.nd rfl (by first | exact Or.inl rfl | exact Or.inr rfl)) (fun _ _ _ _ _ => cts_one (ct_in hu (co_v 13) (co_v 4))) (fun _ _ _ _ _ => (ce_var 13)))
  (css_cons (cs_setLcC 7 [("_law_pair", 13)] rfl sc_l_made.nd (by decide) rfl rfl (sw_true rfl rfl rfl (by decide +kernel)) (ci_seq (ce_var 5)) (blkOk_by (own := [("_law_pair", 13)]) (N := N_l_made) (sc := defScope s_l_made) (by decide +kernel)) LenG.name (fun fx' hf => SG.name (hf 13 (by decide))) (fun _ _ _ _ _ => pg_name (i := 13) sc_l_made.nd rfl (by first | exact Or.inl rfl | exact Or.inr rfl)) (fun _ _ _ _ _ => cts_one (CW.toT (cw_or (ct_in hu (co_v 13) (co_v 3)) (cw_or1 (ct_in hu (co_v 13) (co_v 4)))))) (fun _ _ _ _ _ => (ce_var 13)))
  (css_cons (cs_setLcC 8 [("_law_pair", 13)] rfl sc_l_made.nd (by decide) rfl rfl (sw_true rfl rfl rfl (by decide +kernel)) (ci_seq (ce_var 3)) (blkOk_by (own := [("_law_pair", 13)]) (N := N_l_made) (sc := defScope s_l_made) (by decide +kernel)) LenG.name (fun fx' hf => SG.name (hf 13 (by decide))) (fun _ _ _ _ _ => pg_name (i := 13) sc_l_made.nd rfl (by first | exact Or.inl rfl | exact Or.inr rfl)) (fun _ _ _ _ _ => cts_one (ct_ni hu (co_v 13) (co_v 4))) (fun _ _ _ _ _ => (ce_var 13)))
  (css_cons (cs_setLcC 9 [("_law_pair", 13)] rfl sc_l_made.nd (by decide) rfl rfl (sw_true rfl rfl rfl (by decide +kernel)) (ci_seq (ce_var 4)) (blkOk_by (own := [("_law_pair", 13)]) (N := N_l_made) (sc := defScope s_l_made) (by decide +kernel)) LenG.name (fun fx' hf => SG.name (hf 13 (by decide))) (fun _ _ _ _ _ => pg_name (i := 13) sc_l_made.nd rfl (by first | exact Or.inl rfl | exact Or.inr rfl)) (fun _ _ _ _ _ => cts_one (ct_ni hu (co_v 13) (co_v 3))) (fun _ _ _ _ _ => (ce_var 13)))
  (css_cons (cs_set 10 sc_l_made.nd (ce_lst (ca_cons (co_e (ce_tup (ca_cons (co_e (ce_var 0)) (ca_cons (co_e (ce_var 3)) ca_nil)))) (ca_cons (co_e (ce_tup (ca_cons (co_e (ce_var 1)) (ca_cons (co_e (ce_var 4)) ca_nil)))) (ca_cons (co_e (ce_tup (ca_cons (co_e (ce_var 2)) (ca_cons (co_e (ce_lst ca_nil)) ca_nil)))) (ca_cons (co_e (ce_tup (ca_cons (co_e (ce_opC (k := 4) (op := .BitAnd) op_no prNo (mt_cons h_p_Pairs___and__ (by decide) mt_nil) hr (by decide) tk (co_v 0) (co_v 1))) (ca_cons (co_e (ce_var 6)) ca_nil)))) (ca_cons (co_e (ce_tup (ca_cons (co_e (ce_opC (k := 4) (op := .BitAnd) op_no prNo (mt_cons h_p_Pairs___and__ (by decide) mt_nil) hr (by decide) tk (co_v 1) (co_v 0))) (ca_cons (co_e (ce_var 6)) ca_nil)))) (ca_cons (co_e (ce_tup (ca_cons (co_e (ce_opC (k := 4) (op := .BitAnd) op_no prNo (mt_cons h_p_Pairs___and__ (by decide) mt_nil) hr (by decide) tk (co_v 0) (co_v 2))) (ca_cons (co_e (ce_lst ca_nil)) ca_nil)))) (ca_cons (co_e (ce_tup (ca_cons (co_e (ce_opC (k := 4) (op := .BitOr) op_no prNo (mt_cons h_p_Pairs___or__ (by decide) mt_nil) hr (by decide) tk (co_v 0) (co_v 2))) (ca_cons (co_e (ce_var 3)) ca_nil)))) ca_nil)))))))))
  (css_cons (cs_set 10 sc_l_made.nd (ce_add (co_v 10) (co_e (ce_lst (ca_cons (co_e (ce_tup (ca_cons (co_e (ce_opC (k := 4) (op := .Sub) op_sub prSub (mt_cons h_p_Pairs___sub__ (by decide) mt_nil) hr (by decide) tk (co_v 0) (co_v 2))) (ca_cons (co_e (ce_var 3)) ca_nil)))) (ca_cons (co_e (ce_tup (ca_cons (co_e (ce_opC (k := 4) (op := .BitOr) op_no prNo (mt_cons h_p_Pairs___or__ (by decide) mt_nil) hr (by decide) tk (co_v 0) (co_v 1))) (ca_cons (co_e (ce_var 7)) ca_nil)))) (ca_cons (co_e (ce_tup (ca_cons (co_e (ce_opC (k := 4) (op := .Sub) op_sub prSub (mt_cons h_p_Pairs___sub__ (by decide) mt_nil) hr (by decide) tk (co_v 2) (co_v 0))) (ca_cons (co_e (ce_lst ca_nil)) ca_nil)))) (ca_cons (co_e (ce_tup (ca_cons (co_e (ce_opC (k := 4) (op := .Sub) op_sub prSub (mt_cons h_p_Pairs___sub__ (by decide) mt_nil) hr (by decide) tk (co_v 0) (co_v 0))) (ca_cons (co_e (ce_lst ca_nil)) ca_nil)))) (ca_cons (co_e (ce_tup (ca_cons (co_e (ce_opC (k := 4) (op := .BitOr) op_no prNo (mt_cons h_p_Pairs___or__ (by decide) mt_nil) hr (by decide) tk (co_v 0) (co_v 0))) (ca_cons (co_e (ce_var 3)) ca_nil)))) (ca_cons (co_e (ce_tup (ca_cons (co_e (ce_opC (k := 4) (op := .Sub) op_sub prSub (mt_cons h_p_Pairs___sub__ (by decide) mt_nil) hr (by decide) tk (co_v 0) (co_v 1))) (ca_cons (co_e (ce_var 8)) ca_nil)))) ca_nil))))))))))
  (css_cons (cs_set 10 sc_l_made.nd (ce_add (co_v 10) (co_e (ce_lst (ca_cons (co_e (ce_tup (ca_cons (co_e (ce_opC (k := 4) (op := .Sub) op_sub prSub (mt_cons h_p_Pairs___sub__ (by decide) mt_nil) hr (by decide) tk (co_v 1) (co_v 0))) (ca_cons (co_e (ce_var 9)) ca_nil)))) (ca_cons (co_e (ce_tup (ca_cons (co_e (ce_var 0)) (ca_cons (co_e (ce_var 3)) ca_nil)))) (ca_cons (co_e (ce_tup (ca_cons (co_e (ce_var 1)) (ca_cons (co_e (ce_var 4)) ca_nil)))) (ca_cons (co_e (ce_tup (ca_cons (co_e (ce_var 2)) (ca_cons (co_e (ce_lst ca_nil)) ca_nil)))) ca_nil))))))))
  (css_cons (cs_for hp rfl (ci_seq (ce_var 10)) (cg_tup rfl (cgs_cons (cg_name 11 sc_l_made.nd) (cgs_cons (cg_name 12 sc_l_made.nd) cgs_nil))) (css_one (cs_if (ct_not (ct_val (ce_call h_l_is_set hr (by decide) (by rfl) tk (ca_cons (co_v 11) (ca_cons (co_v 12) ca_nil)) rfl))) (css_one (cs_ret ce_bl)) css_nil)))
  (css_one (cs_ret ce_bl))))))))))
theorem sc_p_Pairs_within : FnScope N_p_Pairs_within ["self", "other"] (defScope s_p_Pairs_within) := ⟨rfl, rfl, rfl, by decide +kernel, rfl, by decide +kernel, by decide +kernel⟩
theorem ok_p_Pairs_within (T : Tx mg) (XC : Xc P K mg ct.ct fi) (hx0 : ct.xa = none) {f : Addr} {fd : FuncData} (F : L2.Fun K "within" "Pairs.within" s_p_Pairs_within f fd) (hb : Binds K fd ["self", "other"] []) (hat : PySem.W.findIn K (.ref (ct.ct 3)) "within" = some (some (.ref f))) (hfn : PySem.W.isFn K (.ref f) = true) (hfi : PySem.W.fnIn K f = true) (h_p_Pairs___contains__ : MOk P w K mg base ct 1 "__contains__" 2 3 F_p_Pairs___contains__) : MOk P w K mg base ct 2 "within" 2 3 F_p_Pairs_within := by
  refine ⟨XC.cl_3, XC.sf_3, f, hat, hfn, F.kp, hfi, fn_mkM (k := 1) [0, 1] F sc_p_Pairs_within hb fun cdv A outer s H E hr tk hp hu => ?_⟩
  exact (css_cons (cs_for hp rfl (ci_seq (ce_fld (fs_cons ⟨XC.cl_3, XC.nf_3_own_rows⟩ fs_nil) (co_v 0))) (cg_name 2 sc_p_Pairs_within.nd) (css_one (cs_if (ct_niC (k := 1) hu (mt_cons h_p_Pairs___contains__ (by decide) mt_nil) hr (by decide) tk (co_v 2) (co_v 1)) (css_one (cs_ret ce_bl)) css_nil)))
  (css_one (cs_ret ce_bl)))
theorem sc_l_says : FnScope N_l_says ["_law_told", "_law_due"] (defScope s_l_says) := ⟨rfl, rfl, rfl, by decide +kernel, rfl, by decide +kernel, by decide +kernel⟩
theorem ok_l_says (T : Tx mg) (XC : Xc P K mg ct.ct fi) (hx0 : ct.xa = none) {f : Addr} {fd : FuncData} (F : L2.Fun K "_law_says" "_law_says" s_l_says f fd) (hm : mg "_law_says" = some (.ref f)) (hb : Binds K fd ["_law_told", "_law_due"] [])  : Fn P w K mg base ct 1 "_law_says" 2 F_l_says := by
  refine fn_mk (k := 0) [0, 1] F sc_l_says hm hb fun cdv A outer s H E hr tk hp hu => ?_
  exact (css_cons (cs_if (ct_val (ce_var 1)) (css_one (cs_ret (ce_isB (co_v 0) (co_e ce_bl)))) css_nil)
  (css_one (cs_ret (ce_isB (co_v 0) (co_e ce_bl)))))
theorem sc_l_within : FnScope N_l_within ["_law_a", "_law_b", "_law_none", "_law_one", "_law_two", "_law_same"] (defScope s_l_within) := ⟨rfl, rfl, rfl, by decide +kernel, rfl, by decide +kernel, by decide +kernel⟩
theorem ok_l_within (T : Tx mg) (XC : Xc P K mg ct.ct fi) (hx0 : ct.xa = none) {f : Addr} {fd : FuncData} (F : L2.Fun K "_law_within" "_law_within" s_l_within f fd) (hm : mg "_law_within" = some (.ref f)) (hb : Binds K fd ["_law_a", "_law_b", "_law_none", "_law_one", "_law_two", "_law_same"] []) (h_p_Pairs_within : MOk P w K mg base ct 2 "within" 2 3 F_p_Pairs_within) (h_p_Pairs___and__ : MOk P w K mg base ct 4 "__and__" 2 3 F_p_Pairs___and__) (h_p_Pairs___or__ : MOk P w K mg base ct 4 "__or__" 2 3 F_p_Pairs___or__) (h_l_says : Fn P w K mg base ct 1 "_law_says" 2 F_l_says) : Fn P w K mg base ct 5 "_law_within" 6 F_l_within := by
  refine fn_mk (k := 4) [0, 1, 2, 3, 4, 5] F sc_l_within hm hb fun cdv A outer s H E hr tk hp hu => ?_
  exact (css_cons (cs_set 6 sc_l_within.nd (ce_lst (ca_cons (co_e (ce_tup (ca_cons (co_e (ce_meth (k := 2) (mt_cons h_p_Pairs_within (by decide) mt_nil) hr (by decide) tk (co_v 0) (ca_cons (co_v 1) ca_nil) rfl)) (ca_cons (co_e (ce_eq hu (co_e (ce_b cr_len prLen (by rfl) T.b_len (by decide +kernel) (ca_cons (co_v 5) ca_nil))) (co_e (ce_b cr_len prLen (by rfl) T.b_len (by decide +kernel) (ca_cons (co_v 3) ca_nil))))) ca_nil)))) (ca_cons (co_e (ce_tup (ca_cons (co_e (ce_meth (k := 2) (mt_cons h_p_Pairs_within (by decide) mt_nil) hr (by decide) tk (co_v 1) (ca_cons (co_v 0) ca_nil) rfl)) (ca_cons (co_e (ce_eq hu (co_e (ce_b cr_len prLen (by rfl) T.b_len (by decide +kernel) (ca_cons (co_v 5) ca_nil))) (co_e (ce_b cr_len prLen (by rfl) T.b_len (by decide +kernel) (ca_cons (co_v 4) ca_nil))))) ca_nil)))) (ca_cons (co_e (ce_tup (ca_cons (co_e (ce_meth (k := 2) (mt_cons h_p_Pairs_within (by decide) mt_nil) hr (by decide) tk (co_v 0) (ca_cons (co_v 0) ca_nil) rfl)) (ca_cons (co_e ce_bl) ca_nil)))) ca_nil)))))
  (css_cons (cs_set 6 sc_l_within.nd (ce_add (co_v 6) (co_e (ce_lst (ca_cons (co_e (ce_tup (ca_cons (co_e (ce_meth (k := 2) (mt_cons h_p_Pairs_within (by decide) mt_nil) hr (by decide) tk (co_v 2) (ca_cons (co_v 0) ca_nil) rfl)) (ca_cons (co_e ce_bl) ca_nil)))) (ca_cons (co_e (ce_tup (ca_cons (co_e (ce_meth (k := 2) (mt_cons h_p_Pairs_within (by decide) mt_nil) hr (by decide) tk (co_v 0) (ca_cons (co_v 2) ca_nil) rfl)) (ca_cons (co_e (ce_eq hu (co_e (ce_b cr_len prLen (by rfl) T.b_len (by decide +kernel) (ca_cons (co_v 3) ca_nil))) (co_e ce_int))) ca_nil)))) (ca_cons (co_e (ce_tup (ca_cons (co_e (ce_meth (k := 2) (mt_cons h_p_Pairs_within (by decide) mt_nil) hr (by decide) tk (co_e (ce_opC (k := 4) (op := .BitAnd) op_no prNo (mt_cons h_p_Pairs___and__ (by decide) mt_nil) hr (by decide) tk (co_v 0) (co_v 1))) (ca_cons (co_v 1) ca_nil) rfl)) (ca_cons (co_e ce_bl) ca_nil)))) ca_nil)))))))
  (css_cons (cs_set 6 sc_l_within.nd (ce_add (co_v 6) (co_e (ce_lst (ca_cons (co_e (ce_tup (ca_cons (co_e (ce_meth (k := 2) (mt_cons h_p_Pairs_within (by decide) mt_nil) hr (by decide) tk (co_v 0) (ca_cons (co_e (ce_opC (k := 4) (op := .BitOr) op_no prNo (mt_cons h_p_Pairs___or__ (by decide) mt_nil) hr (by decide) tk (co_v 0) (co_v 1))) ca_nil) rfl)) (ca_cons (co_e ce_bl) ca_nil)))) (ca_cons (co_e (ce_tup (ca_cons (co_e (ce_meth (k := 2) (mt_cons h_p_Pairs_within (by decide) mt_nil) hr (by decide) tk (co_v 1) (ca_cons (co_e (ce_opC (k := 4) (op := .BitOr) op_no prNo (mt_cons h_p_Pairs___or__ (by decide) mt_nil) hr (by decide) tk (co_v 0) (co_v 1))) ca_nil) rfl)) (ca_cons (co_e ce_bl) ca_nil)))) ca_nil))))))
  (css_cons (cs_for hp rfl (ci_seq (ce_var 6)) (cg_tup rfl (cgs_cons (cg_name 7 sc_l_within.nd) (cgs_cons (cg_name 8 sc_l_within.nd) cgs_nil))) (css_one (cs_if (ct_not (ct_val (ce_call h_l_says hr (by decide) (by rfl) tk (ca_cons (co_v 7) (ca_cons (co_v 8) ca_nil)) rfl))) (css_one (cs_ret ce_bl)) css_nil)))
  (css_one (cs_ret ce_bl))))))
theorem sc_l_words : FnScope N_l_words ["_law_number"] (defScope s_l_words) := ⟨rfl, rfl, rfl, by decide +kernel, rfl, by decide +kernel, by decide +kernel⟩
theorem ok_l_words (T : Tx mg) (XC : Xc P K mg ct.ct fi) (hx0 : ct.xa = none) {f : Addr} {fd : FuncData} (F : L2.Fun K "_law_words" "_law_words" s_l_words f fd) (hm : mg "_law_words" = some (.ref f)) (hb : Binds K fd ["_law_number"] [])  : Fn P w K mg base ct 1 "_law_words" 1 F_l_words := by
  refine fn_mk (k := 0) [] F sc_l_words hm hb fun cdv A outer s H E hr tk hp hu => ?_
  exact (css_cons (cs_set 1 sc_l_words.nd (ce_lst ca_nil))
  (css_cons (cs_set 2 sc_l_words.nd (ce_mod (co_e (ce_bT cr_intA prIntA (by rfl) T.b_int (by decide +kernel) (ca_cons (co_v 0) ca_nil))) (co_e ce_int)))
  (css_cons (cs_set 0 sc_l_words.nd (ce_div (co_v 0) (co_e ce_int)))
  (css_cons (cs_for hp rfl (ci_range1 (by rfl) T.b_range (co_v 2)) (cg_name 3 sc_l_words.nd) (css_cons (cs_expr (ce_app 1 (ce_idx hu (co_e (ce_lst (ca_cons (co_e ce_str) (ca_cons (co_e ce_str) (ca_cons (co_e ce_str) (ca_cons (co_e ce_str) (ca_cons (co_e ce_str) (ca_cons (co_e ce_str) ca_nil)))))))) (co_e (ce_mod (co_e (ce_bT cr_intA prIntA (by rfl) T.b_int (by decide +kernel) (ca_cons (co_v 0) ca_nil))) (co_e ce_int))))))
  (css_one (cs_set 0 sc_l_words.nd (ce_div (co_v 0) (co_e ce_int))))))
  (css_one (cs_ret (ce_bT cr_tuple prTuple (by rfl) T.b_tuple (by decide +kernel) (ca_cons (co_v 1) ca_nil))))))))
theorem sc_p_Pairs_between : FnScope N_p_Pairs_between ["firsts", "seconds"] (defScope s_p_Pairs_between) := ⟨rfl, rfl, rfl, by decide +kernel, rfl, by decide +kernel, by decide +kernel⟩
theorem ok_p_Pairs_between (T : Tx mg) (XC : Xc P K mg ct.ct fi) (hx0 : ct.xa = none) {f : Addr} {fd : FuncData} (F : L2.Fun K "between" "Pairs.between" s_p_Pairs_between f fd) (hb : Binds K fd ["firsts", "seconds"] []) {p : Addr} {mc : Value} {rest : List Value} (rd : PySem.W.readsIn K (ct.ct 3) mc = true) (ga : PySem.W.specialIn K (.ref (ct.ct 3)) "__getattribute__" = some (some (.builtin "type.__getattribute__"))) (at_ : PySem.W.findCls K (.ref (ct.ct 3)) mc "between" = some (.get (.builtin "staticmethod.__get__") (.ref p) .none (.ref (ct.ct 3)))) (rc : PySem.W.recIn K p "staticmethod" = some (.ref f :: rest)) (h_p_Pairs___init___1 : MkK P w K mg base ct 2 "Pairs" 1 [] [none] 2 3 F_p_Pairs___init__) : SOk P w K mg base ct 4 "Pairs" "between" 2 F_p_Pairs_between := by
  refine ⟨ct.ct 3, p, f, mc, rest, XC.m_3, rd, ga, at_, rc, F.kp, fn_mkM (k := 3) [0, 1] F sc_p_Pairs_between hb fun cdv A outer s H E hr tk hp hu => ?_⟩
  exact (css_one (cs_ret (ce_makeK h_p_Pairs___init___1 hr (by decide) (by rfl) tk (ca_cons (co_e (ce_lcC [("pair", 2)] rfl sc_p_Pairs_between.nd (ci_seq (ce_gobj (by rfl) XC.c_PAIRS)) (blkOk_by (own := [("pair", 2)]) (N := N_p_Pairs_between) (sc := defScope s_p_Pairs_between) (by decide +kernel)) LenG.name (fun fx' hf => SG.name (hf 2 (by decide))) (fun _ _ _ _ _ => pg_name (i := 2) sc_p_Pairs_between.nd rfl (by first | exact Or.inl rfl | exact Or.inr rfl)) (fun _ _ _ _ _ => cts_one (CW.toT (cw_and (ct_in hu (co_e (ce_idx hu (co_v 2) (co_e ce_int))) (co_v 0)) (cw_and1 (ct_in hu (co_e (ce_idx hu (co_v 2) (co_e ce_int))) (co_v 1)))))) (fun _ _ _ _ _ => (ce_var 2)))) ca_nil) ck_nil rfl rfl rfl rfl)))
theorem sc_l_odd : FnScope N_l_odd ["_law_number"] (defScope s_l_odd) := ⟨rfl, rfl, rfl, by decide +kernel, rfl, by decide +kernel, by decide +kernel⟩
theorem ok_l_odd (T : Tx mg) (XC : Xc P K mg ct.ct fi) (hx0 : ct.xa = none) {f : Addr} {fd : FuncData} (F : L2.Fun K "_law_odd" "_law_odd" s_l_odd f fd) (hm : mg "_law_odd" = some (.ref f)) (hb : Binds K fd ["_law_number"] [])  : Fn P w K mg base ct 1 "_law_odd" 1 F_l_odd := by
  refine fn_mk (k := 0) [0] F sc_l_odd hm hb fun cdv A outer s H E hr tk hp hu => ?_
  exact (css_cons (cs_set 1 sc_l_odd.nd (ce_lst (ca_cons (co_e (ce_tup (ca_cons (co_e ce_str) (ca_cons (co_e ce_str) ca_nil)))) (ca_cons (co_e (ce_tup (ca_cons (co_e ce_str) (ca_cons (co_e ce_str) ca_nil)))) (ca_cons (co_e (ce_tup (ca_cons (co_e ce_str) (ca_cons (co_e ce_str) ca_nil)))) (ca_cons (co_e (ce_tup (ca_cons (co_e ce_str) (ca_cons (co_e ce_str) ca_nil)))) (ca_cons (co_e (ce_tup (ca_cons (co_e ce_str) ca_nil))) (ca_cons (co_e ce_int) (ca_cons (co_e ce_non) (ca_cons (co_e ce_str) (ca_cons (co_e (ce_tup ca_nil)) ca_nil)))))))))))
  (css_cons (cs_set 1 sc_l_odd.nd (ce_add (co_v 1) (co_e (ce_lst (ca_cons (co_e (ce_lst (ca_cons (co_e ce_str) (ca_cons (co_e ce_str) ca_nil)))) (ca_cons (co_e (ce_tup (ca_cons (co_e ce_str) (ca_cons (co_e ce_non) ca_nil)))) (ca_cons (co_e (ce_tup (ca_cons (co_e ce_str) (ca_cons (co_e ce_str) ca_nil)))) (ca_cons (co_e (ce_tup (ca_cons (co_e ce_str) (ca_cons (co_e ce_str) ca_nil)))) (ca_cons (co_e (ce_tup (ca_cons (co_e ce_str) (ca_cons (co_e ce_str) ca_nil)))) ca_nil)))))))))
  (css_cons (cs_set 1 sc_l_odd.nd (ce_add (co_v 1) (co_e (ce_lst (ca_cons (co_e (ce_tup (ca_cons (co_e ce_str) (ca_cons (co_e ce_str) ca_nil)))) (ca_cons (co_e (ce_tup (ca_cons (co_e ce_str) (ca_cons (co_e ce_str) (ca_cons (co_e ce_str) ca_nil))))) ca_nil))))))
  (css_one (cs_ret (ce_idx hu (co_v 1) (co_e (ce_mod (co_e (ce_bT cr_intA prIntA (by rfl) T.b_int (by decide +kernel) (ca_cons (co_v 0) ca_nil))) (co_e ce_int)))))))))
theorem sc_l_spoilt : FnScope N_l_spoilt ["_law_items_here", "_law_number"] (defScope s_l_spoilt) := ⟨rfl, rfl, rfl, by decide +kernel, rfl, by decide +kernel, by decide +kernel⟩
theorem ok_l_spoilt (T : Tx mg) (XC : Xc P K mg ct.ct fi) (hx0 : ct.xa = none) {f : Addr} {fd : FuncData} (F : L2.Fun K "_law_spoilt" "_law_spoilt" s_l_spoilt f fd) (hm : mg "_law_spoilt" = some (.ref f)) (hb : Binds K fd ["_law_items_here", "_law_number"] []) (h_l_odd : Fn P w K mg base ct 1 "_law_odd" 1 F_l_odd) : Fn P w K mg base ct 2 "_law_spoilt" 2 F_l_spoilt := by
  refine fn_mk (k := 1) [0] F sc_l_spoilt hm hb fun cdv A outer s H E hr tk hp hu => ?_
  exact (css_cons (cs_set 2 sc_l_spoilt.nd (ce_bT (cr_list rfl) prListA (by rfl) T.b_list (by decide +kernel) (ca_cons (co_v 0) ca_nil)))
  (css_cons (cs_set 3 sc_l_spoilt.nd (ce_add (co_e ce_int) (co_e (ce_mod (co_e (ce_bT cr_intA prIntA (by rfl) T.b_int (by decide +kernel) (ca_cons (co_v 1) ca_nil))) (co_e ce_int)))))
  (css_cons (cs_set 1 sc_l_spoilt.nd (ce_div (co_v 1) (co_e ce_int)))
  (css_cons (cs_for hp rfl (ci_range1 (by rfl) T.b_range (co_v 3)) (cg_name 4 sc_l_spoilt.nd) (css_cons (cs_set 5 sc_l_spoilt.nd (ce_call h_l_odd hr (by decide) (by rfl) tk (ca_cons (co_v 1) ca_nil) rfl))
  (css_cons (cs_set 1 sc_l_spoilt.nd (ce_div (co_v 1) (co_e ce_int)))
  (css_cons (cs_set 6 sc_l_spoilt.nd (ce_mod (co_e (ce_bT cr_intA prIntA (by rfl) T.b_int (by decide +kernel) (ca_cons (co_v 1) ca_nil))) (co_e (ce_add (co_e (ce_b cr_len prLen (by rfl) T.b_len (by decide +kernel) (ca_cons (co_v 2) ca_nil))) (co_e ce_int)))))
  (css_cons (cs_set 1 sc_l_spoilt.nd (ce_div (co_v 1) (co_e ce_int)))
  (css_one (cs_set 2 sc_l_spoilt.nd (ce_add (co_e (ce_add (co_e (ce_sl (co_v 2) cp_none (cp_some (ce_var 6)))) (co_e (ce_lst (ca_cons (co_e (ce_var 5)) ca_nil))))) (co_e (ce_sl (co_v 2) (cp_some (ce_var 6)) cp_none))))))))))
  (css_one (cs_ret (ce_move 2)))))))
theorem sc_l_first_bad : FnScope N_l_first_bad ["_law_items_here"] (defScope s_l_first_bad) := ⟨rfl, rfl, rfl, by decide +kernel, rfl, by decide +kernel, by decide +kernel⟩
theorem ok_l_first_bad (T : Tx mg) (XC : Xc P K mg ct.ct fi) (hx0 : ct.xa = none) {f : Addr} {fd : FuncData} (F : L2.Fun K "_law_first_bad" "_law_first_bad" s_l_first_bad f fd) (hm : mg "_law_first_bad" = some (.ref f)) (hb : Binds K fd ["_law_items_here"] []) (h_l_pairs : Fn P w K mg base ct 1 "_law_pairs" 0 F_l_pairs) : Fn P w K mg base ct 2 "_law_first_bad" 1 F_l_first_bad := by
  refine fn_mk (k := 1) [0] F sc_l_first_bad hm hb fun cdv A outer s H E hr tk hp hu => ?_
  exact (css_cons (cs_set 1 sc_l_first_bad.nd (ce_call0 h_l_pairs hr (by decide) (by rfl) tk))
  (css_cons (cs_for hp rfl (ci_seq (ce_var 0)) (cg_name 2 sc_l_first_bad.nd) (css_one (cs_if (ct_ni hu (co_v 2) (co_v 1)) (css_one (cs_ret (ce_lst (ca_cons (co_e (ce_var 2)) ca_nil)))) css_nil)))
  (css_one (cs_ret (ce_lst ca_nil)))))
theorem sc_l_refusal : FnScope N_l_refusal ["_law_items_here"] (defScope s_l_refusal) := ⟨rfl, rfl, rfl, by decide +kernel, rfl, by decide +kernel, by decide +kernel⟩
theorem ok_l_refusal (T : Tx mg) (XC : Xc P K mg ct.ct fi) (hx0 : ct.xa = none) {f : Addr} {fd : FuncData} (F : L2.Fun K "_law_refusal" "_law_refusal" s_l_refusal f fd) (hm : mg "_law_refusal" = some (.ref f)) (hb : Binds K fd ["_law_items_here"] []) (h_p_Pairs___init___1 : MkK P w K mg base ct 2 "Pairs" 1 [] [none] 2 3 F_p_Pairs___init__) : Fn P w K mg base ct 4 "_law_refusal" 1 F_l_refusal := by
  refine fn_mk (k := 3) [0] F sc_l_refusal hm hb fun cdv A outer s H E hr tk hp hu => ?_
  exact (css_cons (cs_try rfl rfl sc_l_refusal.nd hx0 tk (fun _ _ _ tk hp => (css_one (cs_expr (ce_makeK h_p_Pairs___init___1 hr (by decide) (by rfl) tk (ca_cons (co_v 0) ca_nil) ck_nil rfl rfl rfl rfl)))) (CHds.cons (oi := (some 1)) ⟨rfl, by decide, Or.inl XC.m_0⟩ (show NmOk _ _ (some 1) from ⟨rfl, rfl⟩) (fun i e => by cases e <;> decide) (AllP.cons XC.e_1_0 AllP.nil).tbl (fun a oe c d pn hz hf => (css_one (cs_if (CW.toT (cw_and (ct_val (ce_isx (tblI [((1, 1), true)] []) hz hf (isTbl (AllQ.cons XC.t_1 XC.k_1_1 AllQ.nil) AllR.nil) (by rfl) T.b_isinstance (ca_cons (co_v 1) (ca_cons (co_e (ce_cls 1 (by rfl) XC.m_1)) ca_nil)))) (cw_and (ct_val (ce_isx (tblI [] [((1, "ValueError"), true)]) hz hf (isTbl AllQ.nil (AllR.cons XC.t_1 XC.k_1_ValueError AllR.nil)) (by rfl) T.b_isinstance (ca_cons (co_v 1) (ca_cons (co_e (ce_ty (n := "ValueError") (by rfl) T.b_ValueError (by decide +kernel))) ca_nil)))) (cw_and1 (ct_not (ct_val (ce_isx (tblI [((1, 2), false)] []) hz hf (isTbl (AllQ.cons XC.t_1 XC.k_1_2 AllQ.nil) AllR.nil) (by rfl) T.b_isinstance (ca_cons (co_v 1) (ca_cons (co_e (ce_cls 2 (by rfl) XC.m_2)) ca_nil))))))))) (css_one (cs_ret (ce_lst (ca_cons (co_e (ce_xf 1 [1] hz hf (AllM.cons ⟨XC.t_1, XC.f_1_pair⟩ AllM.nil).get)) ca_nil)))) css_nil))) CHds.nil))
  (css_one (cs_ret (ce_lst ca_nil))))
theorem sc_law : FnScope N_law ["_law_script"] (defScope s_law) := ⟨rfl, rfl, rfl, by decide +kernel, rfl, by decide +kernel, by decide +kernel⟩
theorem ok_law (T : Tx mg) (XC : Xc P K mg ct.ct fi) (hx0 : ct.xa = none) {f : Addr} {fd : FuncData} (F : L2.Fun K "law" "law" s_law f fd) (h_l_draw : Fn P w K mg base ct 2 "_law_draw" 2 F_l_draw) (h_l_pairs : Fn P w K mg base ct 1 "_law_pairs" 0 F_l_pairs) (h_l_items : Fn P w K mg base ct 2 "_law_items" 1 F_l_items) (h_p_Pairs___init___1 : MkK P w K mg base ct 2 "Pairs" 1 [] [none] 2 3 F_p_Pairs___init__) (h_p_Pairs___init___0_d : MkK P w K mg base ct 2 "Pairs" 0 [] [some (.ktup [])] 2 3 F_p_Pairs___init__) (h_l_made : Fn P w K mg base ct 6 "_law_made" 6 F_l_made) (h_l_within : Fn P w K mg base ct 5 "_law_within" 6 F_l_within) (h_l_words : Fn P w K mg base ct 1 "_law_words" 1 F_l_words) (h_l_is_set : Fn P w K mg base ct 5 "_law_is_set" 2 F_l_is_set) (h_p_Pairs_between : SOk P w K mg base ct 4 "Pairs" "between" 2 F_p_Pairs_between) (h_l_spoilt : Fn P w K mg base ct 2 "_law_spoilt" 2 F_l_spoilt) (h_l_first_bad : Fn P w K mg base ct 2 "_law_first_bad" 1 F_l_first_bad) (h_l_refusal : Fn P w K mg base ct 4 "_law_refusal" 1 F_l_refusal) : FnOk P w K mg base (L2.CX P w) 7 f fd ["_law_script"] (spD ⟨K, ct⟩ F_law 1) := by
  refine fn_mkL (k := 6) [0] F sc_law fun cdv A outer s H E hr tk hp hu => ?_
  exact (css_cons (cs_setLcC 1 [("_law_k", 17)] rfl sc_law.nd (by decide) rfl rfl (sw_true rfl rfl rfl (by decide +kernel)) (ci_range1 (by rfl) T.b_range (co_e ce_int)) (blkOk_by (own := [("_law_k", 17)]) (N := N_law) (sc := defScope s_law) (by decide +kernel)) LenG.name (fun fx' hf => SG.name (hf 17 (by decide))) (fun _ _ _ _ _ => pg_name (i := 17) sc_law.nd rfl (by first | exact Or.inl rfl | exact Or.inr rfl)) (fun _ _ _ _ _ => cts_nil) (fun _ _ _ _ _ => (ce_call h_l_draw hr (by decide) (by rfl) takes0 (ca_cons (co_v 0) (ca_cons (co_v 17) ca_nil)) rfl)))
  (css_cons (cs_set 2 sc_law.nd (ce_call0 h_l_pairs hr (by decide) (by rfl) tk))
  (css_cons (cs_if (CW.toT (cw_or (ct_ne hu (co_e (ce_gobj (by rfl) XC.c_PAIRS)) (co_e (ce_bT cr_tuple prTuple (by rfl) T.b_tuple (by decide +kernel) (ca_cons (co_v 2) ca_nil)))) (cw_or1 (ct_ne hu (co_e (ce_gobj (by rfl) XC.c_KINDS)) (co_e (ce_tup (ca_cons (co_e ce_str) (ca_cons (co_e ce_str) (ca_cons (co_e ce_str) (ca_cons (co_e ce_str) (ca_cons (co_e ce_str) ca_nil))))))))))) (css_one (cs_ret ce_bl)) css_nil)
  (css_cons (cs_if (CW.toT (cw_or (ct_ne hu (co_e (ce_gobj (by rfl) XC.c_READS)) (co_e (ce_tup (ca_cons (co_e ce_str) (ca_cons (co_e ce_str) ca_nil))))) (cw_or1 (ct_ne hu (co_e (ce_gobj (by rfl) XC.c_WRITES)) (co_e (ce_tup (ca_cons (co_e ce_str) (ca_cons (co_e ce_str) ca_nil)))))))) (css_one (cs_ret ce_bl)) css_nil)
  (css_cons (cs_set 3 sc_law.nd (ce_call h_l_items hr (by decide) (by rfl) tk (ca_cons (co_e (ce_idx hu (co_v 1) (co_e ce_int))) ca_nil) rfl))
  (css_cons (cs_set 4 sc_law.nd (ce_call h_l_items hr (by decide) (by rfl) tk (ca_cons (co_e (ce_idx hu (co_v 1) (co_e ce_int))) ca_nil) rfl))
  (css_cons (cs_setLcC 5 [("_law_pair", 18)] rfl sc_law.nd (by decide) rfl rfl (sw_true rfl rfl rfl (by decide +kernel)) (ci_seq (ce_var 2)) (blkOk_by (own := [("_law_pair", 18)]) (N := N_law) (sc := defScope s_law) (by decide +kernel)) LenG.name (fun fx' hf => SG.name (hf 18 (by decide))) (fun _ _ _ _ _ => pg_name (i := 18) sc_law.nd rfl (by first | exact Or.inl rfl | exact Or.inr rfl)) (fun _ _ _ _ _ => cts_one (ct_in hu (co_v 18) (co_v 3))) (fun _ _ _ _ _ => (ce_var 18)))
  (css_cons (cs_set 6 sc_law.nd (ce_lcC [("_law_pair", 18)] rfl sc_law.nd (ci_seq (ce_var 2)) (blkOk_by (own := [("_law_pair", 18)]) (N := N_law) (sc := defScope s_law) (by decide +kernel)) LenG.name (fun fx' hf => SG.name (hf 18 (by decide))) (fun _ _ _ _ _ => pg_name (i := 18) sc_law.nd rfl (by first | exact Or.inl rfl | exact Or.inr rfl)) (fun _ _ _ _ _ => cts_one (ct_in hu (co_v 18) (co_v 4))) (fun _ _ _ _ _ => (ce_var 18))))
  (css_cons (cs_setLcC 7 [("_law_pair", 18)] rfl sc_law.nd (by decide) rfl rfl (sw_true rfl rfl rfl (by decide +kernel)) (ci_seq (ce_var 5)) (blkOk_by (own := [("_law_pair", 18)]) (N := N_law) (sc := defScope s_law) (by decide +kernel)) LenG.name (fun fx' hf => SG.name (hf 18 (by decide))) (fun _ _ _ _ _ => pg_name (i := 18) sc_law.nd rfl (by first | exact Or.inl rfl | exact Or.inr rfl)) (fun _ _ _ _ _ => cts_one (ct_in hu (co_v 18) (co_v 6))) (fun _ _ _ _ _ => (ce_var 18)))
  (css_cons (cs_set 8 sc_law.nd (ce_bT (cr_list rfl) prListA (by rfl) T.b_list (by decide +kernel) (ca_cons (co_v 3) ca_nil)))
  (css_cons (cs_set 9 sc_law.nd (ce_makeK h_p_Pairs___init___1 hr (by decide) (by rfl) tk (ca_cons (co_v 8) ca_nil) ck_nil rfl rfl rfl rfl))
  (css_cons (cs_if (ct_ne hu (co_v 8) (co_v 3)) (css_one (cs_ret ce_bl)) css_nil)
  (css_cons (cs_expr (ce_revI 8))
  (css_cons (cs_expr (ce_app 8 (ce_idx hu (co_v 2) (co_e (ce_mod (co_e (ce_bT cr_intA prIntA (by rfl) T.b_int (by decide +kernel) (ca_cons (co_e (ce_idx hu (co_v 1) (co_e ce_int))) ca_nil))) (co_e ce_int))))))
  (css_cons (cs_set 10 sc_law.nd (ce_makeK h_p_Pairs___init___1 hr (by decide) (by rfl) tk (ca_cons (co_e (ce_bT cr_tuple prTuple (by rfl) T.b_tuple (by decide +kernel) (ca_cons (co_v 4) ca_nil))) ca_nil) ck_nil rfl rfl rfl rfl))
  (css_cons (cs_set 11 sc_law.nd (ce_makeK0 h_p_Pairs___init___0_d hr (by decide) (by rfl) tk ck_nil rfl rfl rfl))
  (css_cons (cs_if (CW.toT (cw_or (ct_not (ct_val (ce_call h_l_made hr (by decide) (by rfl) tk (ca_cons (co_v 9) (ca_cons (co_v 10) (ca_cons (co_v 11) (ca_cons (co_v 5) (ca_cons (co_v 6) (ca_cons (co_v 2) ca_nil)))))) rfl))) (cw_or1 (ct_not (ct_val (ce_call h_l_within hr (by decide) (by rfl) tk (ca_cons (co_v 9) (ca_cons (co_v 10) (ca_cons (co_v 11) (ca_cons (co_v 5) (ca_cons (co_v 6) (ca_cons (co_v 7) ca_nil)))))) rfl)))))) (css_one (cs_ret ce_bl)) css_nil)
  (css_cons (cs_set 12 sc_law.nd (ce_call h_l_words hr (by decide) (by rfl) tk (ca_cons (co_e (ce_idx hu (co_v 1) (co_e ce_int))) ca_nil) rfl))
  (css_cons (cs_set 13 sc_law.nd (ce_call h_l_words hr (by decide) (by rfl) tk (ca_cons (co_e (ce_idx hu (co_v 1) (co_e ce_int))) ca_nil) rfl))
  (css_cons (cs_setLcC 14 [("_law_pair", 18)] rfl sc_law.nd (by decide) rfl rfl (sw_true rfl rfl rfl (by decide +kernel)) (ci_seq (ce_var 2)) (blkOk_by (own := [("_law_pair", 18)]) (N := N_law) (sc := defScope s_law) (by decide +kernel)) LenG.name (fun fx' hf => SG.name (hf 18 (by decide))) (fun _ _ _ _ _ => pg_name (i := 18) sc_law.nd rfl (by first | exact Or.inl rfl | exact Or.inr rfl)) (fun _ _ _ _ _ => cts_one (CW.toT (cw_and (ct_in hu (co_e (ce_idx hu (co_v 18) (co_e ce_int))) (co_v 12)) (cw_and1 (ct_in hu (co_e (ce_idx hu (co_v 18) (co_e ce_int))) (co_v 13)))))) (fun _ _ _ _ _ => (ce_var 18)))
  (css_cons (cs_if (ct_not (ct_val (ce_call h_l_is_set hr (by decide) (by rfl) tk (ca_cons (co_e (ce_stat h_p_Pairs_between hr (by decide) (by rfl) tk (ca_cons (co_v 12) (ca_cons (co_v 13) ca_nil)) rfl)) (ca_cons (co_v 14) ca_nil)) rfl))) (css_one (cs_ret ce_bl)) css_nil)
  (css_cons (cs_set 15 sc_law.nd (ce_call h_l_spoilt hr (by decide) (by rfl) tk (ca_cons (co_v 3) (ca_cons (co_e (ce_idx hu (co_v 1) (co_e ce_int))) ca_nil)) rfl))
  (css_cons (cs_set 16 sc_law.nd (ce_call h_l_first_bad hr (by decide) (by rfl) tk (ca_cons (co_v 15) ca_nil) rfl))
  (css_cons (cs_if (CW.toT (cw_or (ct_ne hu (co_e (ce_call h_l_refusal hr (by decide) (by rfl) tk (ca_cons (co_e (ce_bT (cr_list rfl) prListA (by rfl) T.b_list (by decide +kernel) (ca_cons (co_v 15) ca_nil))) ca_nil) rfl)) (co_v 16)) (cw_or1 (ct_ne hu (co_e (ce_call h_l_refusal hr (by decide) (by rfl) tk (ca_cons (co_e (ce_bT cr_tuple prTuple (by rfl) T.b_tuple (by decide +kernel) (ca_cons (co_v 15) ca_nil))) ca_nil) rfl)) (co_v 16))))) (css_one (cs_ret ce_bl)) css_nil)
  (css_one (cs_ret (ce_call h_l_is_set hr (by decide) (by rfl) tk (ca_cons (co_e (ce_makeK h_p_Pairs___init___1 hr (by decide) (by rfl) tk (ca_cons (co_e (ce_bT (cr_list rfl) prListA (by rfl) T.b_list (by decide +kernel) (ca_cons (co_v 3) ca_nil))) ca_nil) ck_nil rfl rfl rfl rfl)) (ca_cons (co_v 5) ca_nil)) rfl)))))))))))))))))))))))))))
end
end K33

namespace K33
open PySem L2 VS
abbrev Pr := Str × Str
abbrev il (r : List Int) : D := .lst (r.map D.int)
def S5 : List Str := ["read", "acquire", "write", "release", "both"].map Str.ofString
def PR : List Pr := S5.flatMap fun a => (S5.map fun b => (a, b)) ++ (if a = Str.ofString "write" ∨ a = Str.ofString "release" then [(a, Str.ofString "return")] else [])
def tp (p : Pr) : D := .tup [.str p.1, .str p.2]
def kp (p : Pr) : D := .ktup [.str p.1, .str p.2]
theorem PR_len : PR.length = 27 := by decide +kernel
theorem k_PR : k_PAIRS = .ktup (PR.map kp) := by
  have h : PR = [("read", "read"), ("read", "acquire"), ("read", "write"), ("read", "release"), ("read", "both"), ("acquire", "read"), ("acquire", "acquire"), ("acquire", "write"), ("acquire", "release"), ("acquire", "both"), ("write", "read"), ("write", "acquire"), ("write", "write"), ("write", "release"), ("write", "both"), ("write", "return"), ("release", "read"), ("release", "acquire"), ("release", "write"), ("release", "release"), ("release", "both"), ("release", "return"), ("both", "read"), ("both", "acquire"), ("both", "write"), ("both", "release"), ("both", "both")].map fun (p : String × String) => (Str.ofString p.1, Str.ofString p.2) := by decide +kernel
  rw [h]
  rfl
instance decP (p : Pr) (m : List Pr) : Decidable (p ∈ m) := @List.instDecidableMemOfLawfulBEq Pr instBEqOfDecidableEq inferInstance p m
theorem eq_tt (a b : Pr) : eqD (tp a) (tp b) = decide (a = b) := by
  obtain ⟨a1, a2⟩ := a
  obtain ⟨b1, b2⟩ := b
  simp only [tp, eqD, eqDs, Bool.and_true]
  by_cases h1 : a1 = b1 <;> by_cases h2 : a2 = b2 <;> simp [h1, h2]
theorem eqD_kt (p : Pr) (d : D) : eqD (kp p) d = eqD (tp p) d := by cases d <;> rfl
theorem eqD_tk (p : Pr) (d : D) : eqD d (kp p) = eqD d (tp p) := by cases d <;> rfl
theorem any_kp (m : List Pr) (d : D) : ((m.map kp).any fun z => eqD z d) = ((m.map tp).any fun z => eqD z d) := by
  induction m with
  | nil => rfl
  | cons x r ih => rw [List.map_cons, List.any_cons, List.map_cons, List.any_cons, ih, eqD_kt]
theorem any_tp (m : List Pr) (p : Pr) : ((m.map tp).any fun z => eqD z (tp p)) = decide (p ∈ m) := by
  induction m with
  | nil => rfl
  | cons x r ih =>
    rw [List.map_cons, List.any_cons, ih, eq_tt]
    by_cases h : x = p
    · subst h; simp
    · have : ¬ p = x := fun e => h e.symm
      simp [h, this]
theorem dOk_tp (n : Nat) (p : Pr) : dOk (n + 1) (tp p) = true := by simp [tp, dOk]
theorem dOk_kp (n : Nat) (p : Pr) : dOk (n + 1) (kp p) = true := by simp [kp, dOk]
theorem dOk_tps (n : Nat) (m : List Pr) : dOk (n + 2) (.lst (m.map tp)) = true := by
  refine dOk_lstL fun d hd => ?_
  obtain ⟨x, _, rfl⟩ := List.mem_map.mp hd
  exact dOk_tp n x
theorem dOk_kps (n : Nat) (m : List Pr) : dOk (n + 2) (.lst (m.map kp)) = true := by
  refine dOk_lstL fun d hd => ?_
  obtain ⟨x, _, rfl⟩ := List.mem_map.mp hd
  exact dOk_kp n x
theorem dOk_tpsT (n : Nat) (m : List Pr) : dOk (n + 2) (.tup (m.map tp)) = true := by
  refine dOk_tupL fun d hd => ?_
  obtain ⟨x, _, rfl⟩ := List.mem_map.mp hd
  exact dOk_tp n x
theorem dOk_kpsT (n : Nat) (m : List Pr) : dOk (n + 2) (.tup (m.map kp)) = true := by
  refine dOk_tupL fun d hd => ?_
  obtain ⟨x, _, rfl⟩ := List.mem_map.mp hd
  exact dOk_kp n x
theorem e_in_kt (x : D) (xs : List D) (h1 : dOk 40 x = true) (h2 : dOk 40 (.tup xs) = true) : pIn [x, .ktup xs] = some (.bl (xs.any fun z => eqD z x), false) := by
  show (if (dOk 40 x && dOk 40 (.tup xs)) = true then some (xs.any fun z => eqD z x) else none).map _ = _
  rw [h1, h2]; rfl
theorem e_ni_kt (x : D) (xs : List D) (h1 : dOk 40 x = true) (h2 : dOk 40 (.tup xs) = true) : pNi [x, .ktup xs] = some (.bl (!xs.any fun z => eqD z x), false) := by
  show (if (dOk 40 x && dOk 40 (.tup xs)) = true then some (xs.any fun z => eqD z x) else none).map _ = _
  rw [h1, h2]; rfl
/-- is it one of the pairs? -/
def isP (d : D) : Bool := (PR.map tp).any fun z => eqD z d
theorem isP_tp {p : Pr} : isP (tp p) = decide (p ∈ PR) := any_tp PR p
theorem ni_PAIRS {d : D} (h : dOk 40 d = true) : pNi [d, k_PAIRS] = some (.bl (!isP d), false) := by
  rw [k_PR, e_ni_kt d _ h (dOk_kpsT 38 PR), any_kp]
  rfl
theorem ni_rows {d : D} (h : dOk 40 d = true) : pNi [d, .lst (PR.map tp)] = some (.bl (!isP d), false) := by
  rw [e_ni_l d _ h (dOk_tps 38 PR)]
  rfl
theorem in_tt (p : Pr) (m : List Pr) : pIn [tp p, .lst (m.map tp)] = some (.bl (decide (p ∈ m)), false) := by
  rw [e_in_l _ _ (dOk_tp 39 p) (dOk_tps 38 m), any_tp]
theorem ni_tt (p : Pr) (m : List Pr) : pNi [tp p, .lst (m.map tp)] = some (.bl (!decide (p ∈ m)), false) := by
  rw [e_ni_l _ _ (dOk_tp 39 p) (dOk_tps 38 m), any_tp]
theorem any_eqk (xs : List D) (p : Pr) : (xs.any fun z => eqD z (kp p)) = xs.any fun z => eqD z (tp p) := by
  congr 1
  funext z
  exact eqD_tk p z
theorem in_kt (p : Pr) (m : List Pr) : pIn [kp p, .lst (m.map tp)] = some (.bl (decide (p ∈ m)), false) := by
  rw [e_in_l _ _ (dOk_kp 39 p) (dOk_tps 38 m), any_eqk, any_tp]
theorem in_ktT (p : Pr) (m : List Pr) : pIn [kp p, .tup (m.map tp)] = some (.bl (decide (p ∈ m)), false) := by
  rw [e_in_t _ _ (dOk_kp 39 p) (dOk_tpsT 38 m), any_eqk, any_tp]
theorem in_kk (p : Pr) (m : List Pr) : pIn [kp p, .lst (m.map kp)] = some (.bl (decide (p ∈ m)), false) := by
  rw [e_in_l _ _ (dOk_kp 39 p) (dOk_kps 38 m), any_eqk, any_kp, any_tp]
theorem in_tk (p : Pr) (m : List Pr) : pIn [tp p, .lst (m.map kp)] = some (.bl (decide (p ∈ m)), false) := by
  rw [e_in_l _ _ (dOk_tp 39 p) (dOk_kps 38 m), any_kp, any_tp]
theorem eqDs_kt : ∀ m : List Pr, eqDs (m.map kp) (m.map tp) = true
  | [] => rfl
  | p :: r => by
    rw [List.map_cons, List.map_cons, eqDs, eqDs_kt r, eqD_kt, eq_tt]
    simp
theorem ne_kt (m : List Pr) : pNe [.lst (m.map kp), .lst (m.map tp)] = some (.bl false, false) := by
  rw [e_ne _ _ (dOk_kps 38 m) (dOk_tps 38 m)]
  have : eqD (.lst (m.map kp)) (.lst (m.map tp)) = eqDs (m.map kp) (m.map tp) := rfl
  rw [this, eqDs_kt]
  rfl
theorem ne_tt (m : List Pr) : pNe [.lst (m.map tp), .lst (m.map tp)] = some (.bl false, false) := by
  rw [e_ne _ _ (dOk_tps 38 m) (dOk_tps 38 m), eqD_refl 40 _ (dOk_tps 38 m)]
  rfl
/-! ### pairs -/
theorem pairs_ok : F_l_pairs [] = .ok (.lst (PR.map tp), true) [] := by
  have h : PR.map tp = (["read", "acquire", "write", "release", "both"].flatMap fun a => (["read", "acquire", "write", "release", "both"].map fun b => D.tup [.str (Str.ofString a), .str (Str.ofString b)]) ++ (if a = "write" ∨ a = "release" then [D.tup [.str (Str.ofString a), .str (Str.ofString "return")]] else [])) := by rfl
  have z : ∀ n : Nat, n < 40 → n < sizeLine := fun n h => by rw [szl]; omega
  rw [h]
  simp [F_l_pairs, m_l_pairs, loop, b_l_pairs_2, b_l_pairs_1, z]
end K33

namespace K33
open PySem L2 VS
theorem great_ok (x : Int) (k : Nat) : ∃ v : Int, 0 ≤ v ∧ F_l_great [(.int x, false), (.int (k : Int), false)] = .ok (.int v, false) [some (.int x, false), some (.int (k : Int), false)] := by
  by_cases h : (1000000000000000000 : Int) ≤ x
  · exact ⟨x - 1000000000000000000, by omega, by simp [F_l_great, m_l_great, h]⟩
  · obtain ⟨ρ', e, t, s, k4, t0, rfl⟩ := loop_goN (j := 4) (body := b_l_great_1) (ds := rngD 0 3) (ρ := [some (.int x, false), some (.int (k : Int), false), some (.int 0, false), some (.int (x + 1009 * (k : Int)), false), none])
      (fun i ρ => ∃ (t s : Int) (k4 : Option Slot), 0 ≤ t ∧ ρ = [some (.int x, false), some (.int (k : Int), false), some (.int t, false), some (.int s, false), k4]) ⟨0, _, none, by decide, rfl⟩ (by
        rintro i d ρ hd ⟨t, s, k4, t0, rfl⟩
        obtain ⟨hi, rfl⟩ := rngD_at hd
        have p1 := Int.emod_nonneg ((s * 48271 + 7 * (i : Int) + 11) % 2147483647 * 69621 + (k : Int)) (b := 2147483629) (by decide)
        refine ⟨[some (.int x, false), some (.int (k : Int), false), some (.int (t * 2147483629 + ((s * 48271 + 7 * (i : Int) + 11) % 2147483647 * 69621 + (k : Int)) % 2147483629), false), some (.int (((s * 48271 + 7 * (i : Int) + 11) % 2147483647 * 69621 + (k : Int)) % 2147483629), false), some (.int (i : Int), false)], by simp [b_l_great_1], _, _, _, by omega, rfl⟩)
    refine ⟨t, t0, ?_⟩
    simp [F_l_great, m_l_great, h, e]
theorem draw_ok (ns : List Int) (hn : ns.length ≤ 63) (k : Nat) : ∃ v : Int, 0 ≤ v ∧ F_l_draw [(.scr ns, false), (.int (k : Int), false)] = .ok (.int v, false) [some (.scr ns, false), some (.int (k : Int), false)] := by
  by_cases h0 : ns.length = 0
  · have : ns = [] := List.length_eq_zero_iff.mp h0
    subst this
    exact ⟨0, by decide, by simp [F_l_draw, m_l_draw]⟩
  · have h0' : ¬ ns = [] := fun e => h0 (by rw [e]; rfl)
    by_cases h : k < ns.length
    · have ha : atI ns (k : Int) = some ns[k] := by rw [VS.atI_get (by omega)]; simp [h]
      obtain ⟨v, v0, e⟩ := great_ok ns[k] k
      exact ⟨v, v0, by simp [F_l_draw, m_l_draw, h0', h, ha, e]⟩
    · have hg : ¬ ((k : Int) < (ns.length : Int)) := by omega
      obtain ⟨ρ', e, v, k3, rfl⟩ := loop_goN (j := 3) (body := b_l_draw_1) (ds := (ns.take 9).map D.int) (ρ := [some (.scr ns, false), some (.int (k : Int), false), some (.int (5 + (ns.length : Int)), false), none])
        (fun i ρ => ∃ v k3, ρ = [some (.scr ns, false), some (.int (k : Int), false), some (.int v, false), k3]) ⟨_, _, rfl⟩ (by
          rintro i d ρ hd ⟨v, k3, rfl⟩
          obtain ⟨x, _, rfl⟩ := map_some hd
          exact ⟨[some (.scr ns, false), some (.int (k : Int), false), some (.int ((v * 31 + x) % 1000003), false), some (.int x, false)], by simp [b_l_draw_1], _, _, rfl⟩)
      obtain ⟨w, w0, ew⟩ := great_ok v k
      have ct : cutL ns none (some 9) = ns.take 9 := cutL_to ns 9
      rw [List.map_take] at e
      refine ⟨w, w0, ?_⟩
      simp [F_l_draw, m_l_draw, h0', h, hg, ct, e, ew]
theorem at_rows {v : Int} (h0 : 0 ≤ v) (h1 : v < 27) : ∃ p ∈ PR, atI (PR.map tp) v = some (tp p) := by
  obtain ⟨p, e, hp⟩ := VS.atI_in (xs := PR) h0 (by rw [PR_len]; exact h1)
  exact ⟨p, hp, by rw [atI_mapI, e]; rfl⟩
theorem items_ok (x : Int) (h0 : 0 ≤ x) : ∃ X : List Pr, X.length ≤ 41 ∧ (∀ p ∈ X, p ∈ PR) ∧ F_l_items [(.int x, false)] = .ok (.lst (X.map tp), true) [some (.int x, false)] := by
  have pk := pairs_ok
  by_cases w1 : x % 8 = 1
  · exact ⟨[], by simp, by simp, by simp [F_l_items, m_l_items, pk, w1]⟩
  · by_cases w2 : x % 8 = 2
    · obtain ⟨f, hf⟩ := pick_fun (n := 27) (P := fun k (p : Pr) => p ∈ PR ∧ e_l_items_1 [some (.int (x / 8), false), some (.lst (PR.map tp), true), some (.int 2, false), none, none, none, some (.int (0 + (k : Int)), false)] = .ok (tp p, false) [some (.int (x / 8), false), some (.lst (PR.map tp), true), some (.int 2, false), none, none, none, some (.int (0 + (k : Int)), false)]) (Str.ofString "", Str.ofString "") (by
        intro k hk
        obtain ⟨p, hp, e⟩ := at_rows (v := 26 - (k : Int)) (by omega) (by omega)
        exact ⟨p, hp, by simp [e_l_items_1, e]⟩)
      have lc := lc_rngN (j := 6) (e := e_l_items_1) (lo := 0) (n := 27) (ρ := [some (.int (x / 8), false), some (.lst (PR.map tp), true), some (.int 2, false), none, none, none, none]) (fun i => tp (f i)) (by decide) rfl (fun i hi => ⟨false, (hf i hi).2⟩)
      refine ⟨(List.range 27).map f, by simp, fun p hp => ?_, ?_⟩
      · obtain ⟨i, hi, rfl⟩ := List.mem_map.mp hp
        exact (hf i (List.mem_range.mp hi)).1
      · have e2 : (List.range 27).map (fun i => tp (f i)) = ((List.range 27).map f).map tp := by rw [List.map_map]; rfl
        rw [e2] at lc
        generalize (List.range 27).map f = X at lc
        simp [F_l_items, m_l_items, pk, w1, w2, lc]
    · obtain ⟨n, hn, n41⟩ : ∃ n : Nat, x / 8 % 41 = (n : Int) ∧ n < 41 := ⟨(x / 8 % 41).toNat, by omega, by omega⟩
      obtain ⟨ρ', e, X, a, b, k6, xl, xp, a0, rfl⟩ := loop_goN (j := 6) (body := b_l_items_2) (ds := rngD 0 n) (ρ := [some (.int (x / 8 / 41), false), some (.lst (PR.map tp), true), some (.int (x % 8), false), some (.int (n : Int), false), some (.int (x / 8 / 41), false), some (.lst [], true), none])
        (fun i ρ => ∃ (X : List Pr) (a b : Int) (k6 : Option Slot), X.length = i ∧ (∀ p ∈ X, p ∈ PR) ∧ 0 ≤ a ∧ ρ = [some (.int a, false), some (.lst (PR.map tp), true), some (.int (x % 8), false), some (.int (n : Int), false), some (.int b, false), some (.lst (X.map tp), true), k6]) ⟨[], _, _, none, rfl, by simp, by omega, rfl⟩ (by
          rintro i d ρ hd ⟨X, a, b, k6, xl, xp, a0, rfl⟩
          obtain ⟨hi, rfl⟩ := rngD_at hd
          have hz : X.length < sizeLine := by rw [szl]; omega
          have ext : ∀ p ∈ PR, ∀ q ∈ X ++ [p], q ∈ PR := fun p hp q hq => by
            rcases List.mem_append.mp hq with h | h
            · exact xp q h
            · rw [List.mem_singleton.mp h]; exact hp
          by_cases hp : 0 < a
          · obtain ⟨p, hp', ep⟩ := at_rows (v := a % 27) (by omega) (by omega)
            exact ⟨[some (.int (a / 27), false), some (.lst (PR.map tp), true), some (.int (x % 8), false), some (.int (n : Int), false), some (.int b, false), some (.lst ((X ++ [p]).map tp), true), some (.int (i : Int), false)], by simp [b_l_items_2, hp, ep, hz], X ++ [p], _, _, _, by simp [xl], ext p hp', by omega, rfl⟩
          · let s1 : Int := (b * 48271 + 2 * (i : Int) + 11) % 2147483647
            let s2 : Int := (s1 * 69621 + 5) % 2147483629
            obtain ⟨p, hp', ep⟩ := at_rows (v := s2 / 7 % 27) (by omega) (by omega)
            exact ⟨[some (.int a, false), some (.lst (PR.map tp), true), some (.int (x % 8), false), some (.int (n : Int), false), some (.int s2, false), some (.lst ((X ++ [p]).map tp), true), some (.int (i : Int), false)], by simp [b_l_items_2, hp, s1, s2] at ep ⊢; simp [ep, hz], X ++ [p], _, _, _, by simp [xl], ext p hp', a0, rfl⟩)
      rw [rngD_len] at xl
      have hz : n < 4611686018427387904 := by omega
      exact ⟨X, by omega, xp, by simp [F_l_items, m_l_items, pk, w1, w2, hn, hz, e]⟩
def W6 : List Str := ["read", "acquire", "write", "release", "both", "return"].map Str.ofString
theorem words_ok (x : Int) (h0 : 0 ≤ x) : ∃ W : List Str, W.length ≤ 7 ∧ F_l_words [(.int x, false)] = .ok (.tup (W.map D.str), false) [some (.int x, false)] := by
  obtain ⟨n, hn, n8⟩ : ∃ n : Nat, x % 8 = (n : Int) ∧ n < 8 := ⟨(x % 8).toNat, by omega, by omega⟩
  obtain ⟨ρ', e, W, a, k3, wl, a0, rfl⟩ := loop_goN (j := 3) (body := b_l_words_1) (ds := rngD 0 n) (ρ := [some (.int (x / 8), false), some (.lst [], true), some (.int (n : Int), false), none])
    (fun i ρ => ∃ (W : List Str) (a : Int) (k3 : Option Slot), W.length = i ∧ 0 ≤ a ∧ ρ = [some (.int a, false), some (.lst (W.map D.str), true), some (.int (n : Int), false), k3]) ⟨[], _, none, rfl, by omega, rfl⟩ (by
      rintro i d ρ hd ⟨W, a, k3, wl, a0, rfl⟩
      obtain ⟨hi, rfl⟩ := rngD_at hd
      obtain ⟨w, ew, _⟩ := VS.atI_in (xs := W6) (v := a % 6) (by omega) (by have : W6.length = 6 := rfl; rw [this]; omega)
      have ew' : atI [D.str (Str.ofString "read"), .str (Str.ofString "acquire"), .str (Str.ofString "write"), .str (Str.ofString "release"), .str (Str.ofString "both"), .str (Str.ofString "return")] (a % 6) = some (.str w) := by
        have := atI_mapI D.str W6 (a % 6)
        rw [ew] at this
        exact this
      have hz : W.length < sizeLine := by rw [szl]; omega
      exact ⟨[some (.int (a / 6), false), some (.lst ((W ++ [w]).map D.str), true), some (.int (n : Int), false), some (.int (i : Int), false)], by simp [b_l_words_1, ew', hz], W ++ [w], _, _, by simp [wl], by omega, rfl⟩)
  rw [rngD_len] at wl
  have hz : n < 4611686018427387904 := by omega
  exact ⟨W, by omega, by simp [F_l_words, m_l_words, hn, hz, e]⟩
end K33

namespace K33
open PySem L2 VS
abbrev st (x : String) : D := .str (Str.ofString x)
def L16 : List D := [.tup [st "read", st "return"], .tup [st "both", st "return"], .tup [st "return", st "read"], .tup [st "read", st "full"], .tup [st "read"], .int 7, .non, st "read", .tup [], .lst [st "read", st "read"], .tup [st "read", .non], .tup [st "Read", st "read"], .tup [st "write", st "returns"], .tup [st "", st "read"], .tup [st "acquire", st "return"], .tup [st "read", st "write", st "both"]]
theorem L16_ok : ∀ d ∈ L16, dOk 3 d = true := by
  intro d hd
  have : L16.all (dOk 3) = true := by rfl
  exact List.all_eq_true.mp this d hd
theorem odd_ok (x : Int) (h0 : 0 ≤ x) : ∃ d, dOk 3 d = true ∧ F_l_odd [(.int x, false)] = .ok (d, false) [some (.int x, false)] := by
  obtain ⟨d, e, hd⟩ := VS.atI_in (xs := L16) (v := x % 16) (by omega) (by have : L16.length = 16 := rfl; rw [this]; omega)
  refine ⟨d, L16_ok d hd, ?_⟩
  have z1 : (14 : Nat) ≤ sizeLine := by rw [szl]; decide
  have z2 : (16 : Nat) ≤ sizeLine := by rw [szl]; decide
  unfold L16 at e
  simp [F_l_odd, m_l_odd, z1, z2, e]
theorem spoilt_ok (ds : List D) (hl : ds.length ≤ 41) (hd : ∀ d ∈ ds, dOk 3 d = true) (x : Int) (h0 : 0 ≤ x) (b : Bool) : ∃ es : List D, es.length ≤ 50 ∧ (∀ d ∈ es, dOk 3 d = true) ∧ F_l_spoilt [(.lst ds, b), (.int x, false)] = .ok (.lst es, true) [some (.lst ds, b), some (.int x, false)] := by
  obtain ⟨n, hn, n2⟩ : ∃ n : Nat, 1 + x % 2 = (n : Int) ∧ n ≤ 2 := ⟨(1 + x % 2).toNat, by omega, by omega⟩
  obtain ⟨ρ', e, es, a, k4, k5, k6, el, ed, a0, rfl⟩ := loop_goN (j := 4) (body := b_l_spoilt_1) (ds := rngD 0 n) (ρ := [some (.lst ds, b), some (.int (x / 2), false), some (.lst ds, true), some (.int (n : Int), false), none, none, none])
    (fun i ρ => ∃ (es : List D) (a : Int) (k4 k5 k6 : Option Slot), es.length = ds.length + i ∧ (∀ d ∈ es, dOk 3 d = true) ∧ 0 ≤ a ∧ ρ = [some (.lst ds, b), some (.int a, false), some (.lst es, true), some (.int (n : Int), false), k4, k5, k6]) ⟨ds, _, none, none, none, rfl, hd, by omega, rfl⟩ (by
      rintro i d ρ hd' ⟨es, a, k4, k5, k6, el, ed, a0, rfl⟩
      obtain ⟨hi, rfl⟩ := rngD_at hd'
      obtain ⟨o, ho, eo⟩ := odd_ok a a0
      obtain ⟨p, hp, pl⟩ : ∃ p : Nat, a / 16 % ((es.length : Int) + 1) = (p : Int) ∧ p ≤ es.length := by
        have := Int.emod_nonneg (a / 16) (b := (es.length : Int) + 1) (by omega)
        have := Int.emod_lt_of_pos (a / 16) (b := (es.length : Int) + 1) (by omega)
        exact ⟨(a / 16 % ((es.length : Int) + 1)).toNat, by omega, by omega⟩
      have c1 := cutL_to es p
      have c2 := cutL_from es p
      have q1 : (0 : Int) < (es.length : Int) + 1 := by omega
      have q2 : ((es.length : Int) + 1).natAbs < 1073741824 := by omega
      have z1 : min p es.length + 1 ≤ sizeLine := by rw [szl]; omega
      have z2 : min p es.length + (1 + (es.length - p)) ≤ sizeLine := by rw [szl]; omega
      have z3 : min p es.length + 1 + (es.length - p) ≤ sizeLine := by rw [szl]; omega
      refine ⟨[some (.lst ds, b), some (.int (a / 16 / 64), false), some (.lst (es.take p ++ [o] ++ es.drop p), true), some (.int (n : Int), false), some (.int (i : Int), false), some (o, false), some (.int (p : Int), false)], by simp [b_l_spoilt_1, eo, q1, q2, hp, c1, c2, z1, z2, z3], es.take p ++ [o] ++ es.drop p, _, _, _, _, by simp; omega, fun d hd'' => ?_, by omega, rfl⟩
      simp only [List.mem_append, List.mem_singleton] at hd''
      rcases hd'' with (h | h) | h
      · exact ed d (List.mem_of_mem_take h)
      · rw [h]; exact ho
      · exact ed d (List.mem_of_mem_drop h))
  rw [rngD_len] at el
  have hz : n < 4611686018427387904 := by omega
  refine ⟨es, by omega, ed, ?_⟩
  cases b <;> simp [F_l_spoilt, m_l_spoilt, hn, hz, e]
/-- the first that is no pair -/
def fb (ds : List D) : Option D := ds.find? fun d => !isP d
theorem up3 {d : D} (h : dOk 3 d = true) : dOk 40 d = true := dOk_up 37 h
theorem fb_loop (a0 : Option Slot) : ∀ (ds : List D) (k2 : Option Slot), (∀ d ∈ ds, dOk 3 d = true) → ∃ c2, loop (tgN 2) b_l_first_bad_1 ds [a0, some (.lst (PR.map tp), true), k2] = (match fb ds with
    | some d => .ok (.rt (.lst [d], true)) [a0, some (.lst (PR.map tp), true), c2]
    | none => .ok .nx [a0, some (.lst (PR.map tp), true), c2])
  | [], k2, _ => ⟨k2, rfl⟩
  | d :: ds, k2, h => by
    have ni := ni_rows (up3 (h d (by simp)))
    obtain ⟨c2, ih⟩ := fb_loop a0 ds (some (d, false)) fun x hx => h x (by simp [hx])
    unfold fb at ih ⊢
    rw [List.find?_cons]
    cases q : isP d with
    | true =>
      refine ⟨c2, ?_⟩
      rw [q] at ni
      simp only [Bool.not_true]
      rw [← ih, loop_nxN (ρ2 := [a0, some (.lst (PR.map tp), true), some (d, false)])]
      simp [b_l_first_bad_1, ni]
    | false =>
      refine ⟨some (d, false), ?_⟩
      rw [q] at ni
      simp only [Bool.not_false]
      unfold loop
      simp [b_l_first_bad_1, ni]
def fbL (ds : List D) : List D := (fb ds).toList
theorem first_bad_ok (ds : List D) (h : ∀ d ∈ ds, dOk 3 d = true) (b : Bool) : F_l_first_bad [(.lst ds, b)] = .ok (.lst (fbL ds), true) [some (.lst ds, false)] := by
  obtain ⟨c2, e⟩ := fb_loop (some (.lst ds, false)) ds none h
  unfold fbL
  cases q : fb ds with
  | none =>
    rw [q] at e
    cases b <;> simp [F_l_first_bad, m_l_first_bad, pairs_ok, e]
  | some d =>
    rw [q] at e
    cases b <;> simp [F_l_first_bad, m_l_first_bad, pairs_ok, e]
/-! ### Pairs -/
abbrev oD (S : List Pr) : D := .obj 3 [("own_rows", .lst (S.map kp))]
def memD (ds : List D) (p : Pr) : Bool := ds.any fun z => eqD z (tp p)
theorem memD_tp (X : List Pr) : memD (X.map tp) = fun p => decide (p ∈ X) := by
  funext p
  exact any_tp X p
theorem memD_kp (X : List Pr) : memD (X.map kp) = fun p => decide (p ∈ X) := by
  funext p
  unfold memD
  rw [any_kp]
  exact any_tp X p
theorem init_loop (self s1 c3 : Option Slot) : ∀ (ds : List D) (k2 : Option Slot), (∀ d ∈ ds, dOk 3 d = true) → ∃ c2, loop (tgN 2) b_p_Pairs___init___1 ds [self, s1, k2, c3] = (match fb ds with
    | some d => .exc 1 [("pair", d)] [self, s1, c2, c3]
    | none => .ok .nx [self, s1, c2, c3])
  | [], k2, _ => ⟨k2, rfl⟩
  | d :: ds, k2, h => by
    have ni := ni_PAIRS (up3 (h d (by simp)))
    obtain ⟨c2, ih⟩ := init_loop self s1 c3 ds (some (d, false)) fun x hx => h x (by simp [hx])
    unfold fb at ih ⊢
    rw [List.find?_cons]
    cases q : isP d with
    | true =>
      refine ⟨c2, ?_⟩
      rw [q] at ni
      simp only [Bool.not_true]
      rw [← ih, loop_nxN (ρ2 := [self, s1, some (d, false), c3])]
      simp [b_p_Pairs___init___1, ni]
    | false =>
      refine ⟨some (d, false), ?_⟩
      rw [q] at ni
      simp only [Bool.not_false]
      unfold loop
      simp [b_p_Pairs___init___1, ni]
theorem init_loopO (self c3 : Option Slot) (ds : List D) (h : ∀ d ∈ ds, dOk 3 d = true) : ∀ (n k : Nat) (k2 : Option Slot), n + k = ds.length → ∃ c2, loopO 1 (fun _ d => d) (tgN 2) b_p_Pairs___init___1 n k [self, some (.lst ds, true), k2, c3] = (match fb (ds.drop k) with
    | some d => .exc 1 [("pair", d)] [self, some (.lst ds, true), c2, c3]
    | none => .ok .nx [self, some (.lst ds, true), c2, c3])
  | 0, k, k2, hn => ⟨k2, by
    rw [List.drop_of_length_le (by omega)]
    unfold loopO
    simp [fb]
    omega⟩
  | n + 1, k, k2, hn => by
    have hk : k < ds.length := by omega
    have ni := ni_PAIRS (up3 (h ds[k] (List.getElem_mem hk)))
    obtain ⟨c2, ih⟩ := init_loopO self c3 ds h n (k + 1) (some (ds[k], false)) (by omega)
    unfold fb at ih ⊢
    rw [List.drop_eq_getElem_cons hk, List.find?_cons]
    have he : ds[k]? = some ds[k] := List.getElem?_eq_getElem hk
    generalize ds[k] = d at ni ih he
    cases q : isP d with
    | true =>
      refine ⟨c2, ?_⟩
      rw [q] at ni
      simp only [Bool.not_true]
      rw [← ih]
      conv => lhs; unfold loopO
      simp [b_p_Pairs___init___1, ni, he]
    | false =>
      refine ⟨some (d, false), ?_⟩
      rw [q] at ni
      simp only [Bool.not_false]
      unfold loopO
      simp [b_p_Pairs___init___1, ni, he]
theorem init_lc (self k2 : Option Slot) (S : D) (b : Bool) (f : Pr → Bool) (hf : ∀ p, pIn [kp p, S] = some (.bl (f p), false)) : lcGo (tgN 3) c_p_Pairs___init___2 e_p_Pairs___init___3 [3] (PR.map kp) [] [self, some (S, b), k2, none] = .ok ((PR.filter f).map kp) [self, some (S, b), k2, none] := by
  have h := lc_filterN (j := 3) (c := c_p_Pairs___init___2) (e := e_p_Pairs___init___3) (ds := PR.map kp) (ρ := [self, some (S, b), k2, none]) (fun d => match d with | .ktup [.str x, .str y] => f (x, y) | _ => false) id (by rw [List.length_map, PR_len]; decide) rfl (by
    intro d hd
    obtain ⟨p, _, rfl⟩ := List.mem_map.mp hd
    have hp := hf p
    refine ⟨by simp [c_p_Pairs___init___2, hp]; rfl, fun _ => ⟨false, by simp [e_p_Pairs___init___3]⟩⟩)
  rw [h, List.map_id, List.filter_map]
  rfl
theorem PRs : seqD k_PAIRS = some (PR.map kp) := by rw [k_PR]; rfl
theorem init_lst (ds : List D) (h : ∀ d ∈ ds, dOk 3 d = true) (b : Bool) (hb : fb ds = none) (hin : ∀ p, pIn [kp p, .lst ds] = some (.bl (memD ds p), false)) : F_p_Pairs___init__ [(.obj 3 [], true), (.lst ds, b)] = .ok (.non, false) [some (oD (PR.filter (memD ds)), true), some (.lst ds, b)] := by
  cases b with
  | true =>
    obtain ⟨c2, e⟩ := init_loopO (some (.obj 3 [], true)) none ds h ds.length 0 none (by omega)
    rw [List.drop_zero, hb] at e
    have lc := init_lc (some (.obj 3 [], true)) c2 (.lst ds) true _ hin
    simp [F_p_Pairs___init__, m_p_Pairs___init__, e, PRs, lc]
  | false =>
    obtain ⟨c2, e⟩ := init_loop (some (.obj 3 [], true)) (some (.lst ds, false)) none ds none h
    rw [hb] at e
    have lc := init_lc (some (.obj 3 [], true)) c2 (.lst ds) false _ hin
    simp [F_p_Pairs___init__, m_p_Pairs___init__, e, PRs, lc]
theorem init_tup (ds : List D) (h : ∀ d ∈ ds, dOk 3 d = true) (hb : fb ds = none) (hin : ∀ p, pIn [kp p, .tup ds] = some (.bl (memD ds p), false)) : F_p_Pairs___init__ [(.obj 3 [], true), (.tup ds, false)] = .ok (.non, false) [some (oD (PR.filter (memD ds)), true), some (.tup ds, false)] := by
  obtain ⟨c2, e⟩ := init_loop (some (.obj 3 [], true)) (some (.tup ds, false)) none ds none h
  rw [hb] at e
  have lc := init_lc (some (.obj 3 [], true)) c2 (.tup ds) false _ hin
  simp [F_p_Pairs___init__, m_p_Pairs___init__, e, PRs, lc]
end K33

namespace K33
open PySem L2 VS
theorem kp_ok {S : List Pr} : ∀ d ∈ S.map kp, dOk 3 d = true := fun d hd => by
  obtain ⟨p, _, rfl⟩ := List.mem_map.mp hd
  exact dOk_kp 2 p
theorem tp_ok {S : List Pr} : ∀ d ∈ S.map tp, dOk 3 d = true := fun d hd => by
  obtain ⟨p, _, rfl⟩ := List.mem_map.mp hd
  exact dOk_tp 2 p
theorem isP_kp (p : Pr) : isP (kp p) = isP (tp p) := by
  unfold isP
  exact any_eqk _ p
theorem fb_tp {X : List Pr} (h : ∀ p ∈ X, p ∈ PR) : fb (X.map tp) = none := by
  unfold fb
  rw [List.find?_eq_none]
  intro d hd
  obtain ⟨p, hp, rfl⟩ := List.mem_map.mp hd
  simp [isP_tp, h p hp]
theorem fb_kp {X : List Pr} (h : ∀ p ∈ X, p ∈ PR) : fb (X.map kp) = none := by
  unfold fb
  rw [List.find?_eq_none]
  intro d hd
  obtain ⟨p, hp, rfl⟩ := List.mem_map.mp hd
  simp [isP_kp, isP_tp, h p hp]
/-- the pairs that f takes -/
abbrev St (f : Pr → Bool) : List Pr := PR.filter f
theorem St_mem {f : Pr → Bool} {p : Pr} : p ∈ St f ↔ p ∈ PR ∧ f p = true := List.mem_filter
theorem St_congr {f g : Pr → Bool} (h : ∀ p ∈ PR, f p = g p) : St f = St g := List.filter_congr h
theorem St_St (f : Pr → Bool) : St (fun p => decide (p ∈ St f)) = St f := St_congr fun p hp => by
  cases q : f p with
  | true => exact decide_eq_true (St_mem.mpr ⟨hp, q⟩)
  | false => exact decide_eq_false fun z => by rw [(St_mem.mp z).2] at q; cases q
theorem St_filter (f g : Pr → Bool) : (St f).filter g = St (fun p => f p && g p) := by
  unfold St
  rw [List.filter_filter]
  apply List.filter_congr
  intro p _
  rw [Bool.and_comm]
theorem init_t {X : List Pr} (h : ∀ p ∈ X, p ∈ PR) (b : Bool) : F_p_Pairs___init__ [(.obj 3 [], true), (.lst (X.map tp), b)] = .ok (.non, false) [some (oD (St fun p => decide (p ∈ X)), true), some (.lst (X.map tp), b)] := by
  have := init_lst (X.map tp) tp_ok b (fb_tp h) (fun p => by rw [in_kt, memD_tp])
  rw [memD_tp] at this
  exact this
theorem init_k {X : List Pr} (h : ∀ p ∈ X, p ∈ PR) (b : Bool) : F_p_Pairs___init__ [(.obj 3 [], true), (.lst (X.map kp), b)] = .ok (.non, false) [some (oD (St fun p => decide (p ∈ X)), true), some (.lst (X.map kp), b)] := by
  have := init_lst (X.map kp) kp_ok b (fb_kp h) (fun p => by rw [in_kk, memD_kp])
  rw [memD_kp] at this
  exact this
theorem init_tT {X : List Pr} (h : ∀ p ∈ X, p ∈ PR) : F_p_Pairs___init__ [(.obj 3 [], true), (.tup (X.map tp), false)] = .ok (.non, false) [some (oD (St fun p => decide (p ∈ X)), true), some (.tup (X.map tp), false)] := by
  have := init_tup (X.map tp) tp_ok (fb_tp h) (fun p => by rw [in_ktT, memD_tp])
  rw [memD_tp] at this
  exact this
theorem init_0 : F_p_Pairs___init__ [(.obj 3 [], true), (.ktup [], false)] = .ok (.non, false) [some (oD (St fun _ => false), true), some (.ktup [], false)] := by
  have lc := init_lc (some (.obj 3 [], true)) none (.ktup []) false (fun _ => false) (fun p => by rw [e_in_kt _ _ (dOk_kp 39 p) rfl]; rfl)
  simp [F_p_Pairs___init__, m_p_Pairs___init__, loop, PRs, lc]
theorem con_t (S : List Pr) (p : Pr) (b : Bool) : F_p_Pairs___contains__ [(oD S, b), (tp p, false)] = .ok (.bl (decide (p ∈ S)), false) [some (oD S, b), some (tp p, false)] := by
  have := in_tk p S
  cases b <;> simp [F_p_Pairs___contains__, m_p_Pairs___contains__, this]
theorem con_k (S : List Pr) (p : Pr) (b : Bool) : F_p_Pairs___contains__ [(oD S, b), (kp p, false)] = .ok (.bl (decide (p ∈ S)), false) [some (oD S, b), some (kp p, false)] := by
  have := in_kk p S
  cases b <;> simp [F_p_Pairs___contains__, m_p_Pairs___contains__, this]
def toP : D → Pr
  | .ktup [.str x, .str y] => (x, y)
  | .tup [.str x, .str y] => (x, y)
  | _ => (Str.ofString "", Str.ofString "")
theorem toP_k (p : Pr) : toP (kp p) = p := rfl
theorem toP_t (p : Pr) : toP (tp p) = p := rfl
/-- a comprehension that keeps some of the pairs -/
theorem lc_keep {j : Nat} {c : CTst} {e : CExp} {ρ : Sl} (w : Pr → D) (hw : ∀ p, toP (w p) = p) (S : List Pr) (hS : S.length ≤ 27) (f : Pr → Bool) (hj : ρ[j]? = some none) (hc : ∀ p ∈ S, c (ρ.set j (some (w p, false))) = .ok (f p) (ρ.set j (some (w p, false)))) (he : ∀ p ∈ S, e (ρ.set j (some (w p, false))) = .ok (w p, false) (ρ.set j (some (w p, false)))) :
    lcGo (tgN j) c e [j] (S.map w) [] ρ = .ok ((S.filter f).map w) ρ := by
  have h := lc_filterN (j := j) (c := c) (e := e) (ds := S.map w) (ρ := ρ) (fun d => f (toP d)) id (by rw [List.length_map]; omega) hj (by
    intro d hd
    obtain ⟨p, hp, rfl⟩ := List.mem_map.mp hd
    refine ⟨by rw [hw]; exact hc p hp, fun _ => ⟨false, he p hp⟩⟩)
  rw [h, List.map_id, List.filter_map]
  congr 2
  apply List.filter_congr
  intro p _
  show f (toP (w p)) = f p
  rw [hw]
theorem St_len (f : Pr → Bool) : (St f).length ≤ 27 := by
  have := List.length_filter_le f PR
  rw [PR_len] at this
  exact this
theorem and_ok (f g : Pr → Bool) (b b2 : Bool) : F_p_Pairs___and__ [(oD (St f), b), (oD (St g), b2)] = .ok (oD (St fun p => f p && g p), true) [some (oD (St f), b), some (oD (St g), b2)] := by
  have lc := lc_keep (j := 2) (c := c_p_Pairs___and___1) (e := e_p_Pairs___and___2) (ρ := [some (oD (St f), b), some (oD (St g), b2), none]) kp toP_k (St f) (St_len f) (fun p => decide (p ∈ St g)) rfl (fun p _ => by
    have := con_k (St g) p b2
    cases b2 <;> simp [c_p_Pairs___and___1, this]) (fun p _ => by simp [e_p_Pairs___and___2])
  have e1 : (St f).filter (fun p => decide (p ∈ St g)) = St fun p => f p && g p := by
    rw [St_filter]
    apply St_congr
    intro p hp
    congr 1
    cases q : g p with
    | true => exact decide_eq_true (St_mem.mpr ⟨hp, q⟩)
    | false => exact decide_eq_false fun z => by rw [(St_mem.mp z).2] at q; cases q
  rw [e1] at lc
  have i := init_k (X := St fun p => f p && g p) (fun p hp => (St_mem.mp hp).1) false
  rw [St_St] at i
  cases b <;> cases b2 <;> simp [F_p_Pairs___and__, m_p_Pairs___and__, lc, i]
theorem sub_ok (f g : Pr → Bool) (b b2 : Bool) : F_p_Pairs___sub__ [(oD (St f), b), (oD (St g), b2)] = .ok (oD (St fun p => f p && !g p), true) [some (oD (St f), b), some (oD (St g), b2)] := by
  have lc := lc_keep (j := 2) (c := c_p_Pairs___sub___1) (e := e_p_Pairs___sub___2) (ρ := [some (oD (St f), b), some (oD (St g), b2), none]) kp toP_k (St f) (St_len f) (fun p => !decide (p ∈ St g)) rfl (fun p _ => by
    have := con_k (St g) p b2
    cases b2 <;> simp [c_p_Pairs___sub___1, this]) (fun p _ => by simp [e_p_Pairs___sub___2])
  have e1 : (St f).filter (fun p => !decide (p ∈ St g)) = St fun p => f p && !g p := by
    rw [St_filter]
    apply St_congr
    intro p hp
    congr 2
    cases q : g p with
    | true => exact decide_eq_true (St_mem.mpr ⟨hp, q⟩)
    | false => exact decide_eq_false fun z => by rw [(St_mem.mp z).2] at q; cases q
  rw [e1] at lc
  have i := init_k (X := St fun p => f p && !g p) (fun p hp => (St_mem.mp hp).1) false
  rw [St_St] at i
  cases b <;> cases b2 <;> simp [F_p_Pairs___sub__, m_p_Pairs___sub__, lc, i]
theorem or_ok (f g : Pr → Bool) (b b2 : Bool) : F_p_Pairs___or__ [(oD (St f), b), (oD (St g), b2)] = .ok (oD (St fun p => f p || g p), true) [some (oD (St f), b), some (oD (St g), b2)] := by
  have lc := lc_keep (j := 2) (c := c_p_Pairs___or___1) (e := e_p_Pairs___or___2) (ρ := [some (oD (St f), b), some (oD (St g), b2), none]) kp toP_k PR (by rw [PR_len]; decide) (fun p => decide (p ∈ St f) || decide (p ∈ St g)) rfl (fun p _ => by
    have h1 := con_k (St g) p b2
    have h2 := in_kk p (St f)
    by_cases q : p ∈ St f
    · rw [decide_eq_true q] at h2
      cases b2 <;> simp [c_p_Pairs___or___1, h1, h2, q]
    · rw [decide_eq_false q] at h2
      cases b2 <;> simp [c_p_Pairs___or___1, h1, h2, q]) (fun p _ => by simp [e_p_Pairs___or___2])
  have e1 : PR.filter (fun p => decide (p ∈ St f) || decide (p ∈ St g)) = St fun p => f p || g p := by
    apply St_congr
    intro p hp
    have k : ∀ h : Pr → Bool, decide (p ∈ St h) = h p := fun h => by
      cases q : h p with
      | true => exact decide_eq_true (St_mem.mpr ⟨hp, q⟩)
      | false => exact decide_eq_false fun z => by rw [(St_mem.mp z).2] at q; cases q
    rw [k f, k g]
  rw [e1] at lc
  have i := init_k (X := St fun p => f p || g p) (fun p hp => (St_mem.mp hp).1) false
  rw [St_St] at i
  cases b <;> cases b2 <;> simp [F_p_Pairs___or__, m_p_Pairs___or__, PRs, lc, i]
theorem len_ok (S : List Pr) (b : Bool) : F_p_Pairs___len__ [(oD S, b)] = .ok (.int (S.length : Int), false) [some (oD S, b)] := by
  cases b <;> simp [F_p_Pairs___len__, m_p_Pairs___len__]
theorem wit_loop (a0 : Option Slot) (G : List Pr) (b2 : Bool) : ∀ (S : List Pr) (k2 : Option Slot), ∃ c2, loop (tgN 2) b_p_Pairs_within_1 (S.map kp) [a0, some (oD G, b2), k2] = (if (S.all fun p => decide (p ∈ G)) = true then .ok .nx [a0, some (oD G, b2), c2] else .ok (.rt (.bl false, false)) [a0, some (oD G, b2), c2])
  | [], k2 => ⟨k2, rfl⟩
  | p :: S, k2 => by
    have h1 := con_k G p b2
    obtain ⟨c2, ih⟩ := wit_loop a0 G b2 S (some (kp p, false))
    by_cases q : p ∈ G
    · refine ⟨c2, ?_⟩
      rw [decide_eq_true q] at h1
      rw [List.all_cons, decide_eq_true q, Bool.true_and, ← ih, List.map_cons, loop_nxN (ρ2 := [a0, some (oD G, b2), some (kp p, false)])]
      cases b2 <;> simp [b_p_Pairs_within_1, h1]
    · refine ⟨some (kp p, false), ?_⟩
      rw [decide_eq_false q] at h1
      rw [List.all_cons, decide_eq_false q, Bool.false_and, if_neg (by decide), List.map_cons]
      unfold loop
      cases b2 <;> simp [b_p_Pairs_within_1, h1]
theorem within_ok (S G : List Pr) (b b2 : Bool) : F_p_Pairs_within [(oD S, b), (oD G, b2)] = .ok (.bl (S.all fun p => decide (p ∈ G)), false) [some (oD S, b), some (oD G, b2)] := by
  obtain ⟨c2, e⟩ := wit_loop (some (oD S, b)) G b2 S none
  cases q : S.all fun p => decide (p ∈ G) with
  | true =>
    rw [q, if_pos rfl] at e
    cases b <;> cases b2 <;> simp [F_p_Pairs_within, m_p_Pairs_within, e]
  | false =>
    rw [q, if_neg (by decide)] at e
    cases b <;> cases b2 <;> simp [F_p_Pairs_within, m_p_Pairs_within, e]
end K33

namespace K33
open PySem L2 VS
theorem at_k0 (p : Pr) : dAt (kp p) (.int 0) = some (.str p.1) := rfl
theorem at_k1 (p : Pr) : dAt (kp p) (.int 1) = some (.str p.2) := rfl
theorem at_t0 (p : Pr) : dAt (tp p) (.int 0) = some (.str p.1) := rfl
theorem at_t1 (p : Pr) : dAt (tp p) (.int 1) = some (.str p.2) := rfl
theorem between_ok (U V : List Str) : F_p_Pairs_between [(.tup (U.map D.str), false), (.tup (V.map D.str), false)] = .ok (oD (St fun p => decide (p.1 ∈ U) && decide (p.2 ∈ V)), true) [some (.tup (U.map D.str), false), some (.tup (V.map D.str), false)] := by
  have lc := lc_keep (j := 2) (c := c_p_Pairs_between_1) (e := e_p_Pairs_between_2) (ρ := [some (.tup (U.map D.str), false), some (.tup (V.map D.str), false), none]) kp toP_k PR (by rw [PR_len]; decide) (fun p => decide (p.1 ∈ U) && decide (p.2 ∈ V)) rfl (fun p _ => by
    by_cases q : p.1 ∈ U
    · simp [c_p_Pairs_between_1, at_k0, at_k1, q]
    · simp [c_p_Pairs_between_1, at_k0, at_k1, q]) (fun p _ => by simp [e_p_Pairs_between_2])
  have i := init_k (X := St fun p => decide (p.1 ∈ U) && decide (p.2 ∈ V)) (fun p hp => (St_mem.mp hp).1) false
  rw [St_St] at i
  simp [F_p_Pairs_between, m_p_Pairs_between, PRs, lc, i]
def X3 : List Pr := [("read", "return"), ("return", "write"), ("both", "return")].map fun (p : String × String) => (Str.ofString p.1, Str.ofString p.2)
theorem ne_bb (x : Bool) : pNe [.bl x, .bl x] = some (.bl false, false) := by
  rw [e_ne _ _ (e_dOk_bl _ _) (e_dOk_bl _ _), eqD_refl 40 _ (e_dOk_bl _ _)]
  rfl
theorem is_loop (S : List Pr) (b : Bool) : ∀ (Y : List Pr) (k2 : Option Slot), ∃ c2, loop (tgN 2) b_l_is_set_1 (Y.map tp) [some (oD S, false), some (.lst (S.map tp), b), k2] = .ok .nx [some (oD S, false), some (.lst (S.map tp), b), c2]
  | [], k2 => ⟨k2, rfl⟩
  | p :: Y, k2 => by
    obtain ⟨c2, ih⟩ := is_loop S b Y (some (tp p, false))
    have h1 := con_t S p false
    have h2 := in_tt p S
    have h3 := ne_bb (decide (p ∈ S))
    refine ⟨c2, ?_⟩
    rw [List.map_cons, loop_nxN (ρ2 := [some (oD S, false), some (.lst (S.map tp), b), some (tp p, false)]), ih]
    simp [b_l_is_set_1, h1, h2, h3]
theorem is_set_ok (S : List Pr) (hS : S.length ≤ 27) (b : Bool) : F_l_is_set [(oD S, false), (.lst (S.map tp), b)] = .ok (.bl true, false) [some (oD S, false), some (.lst (S.map tp), b)] := by
  obtain ⟨c2, e⟩ := is_loop S b (PR ++ X3) none
  have e2 : (PR ++ X3).map tp = PR.map tp ++ [.tup [.str (Str.ofString "read"), .str (Str.ofString "return")], .tup [.str (Str.ofString "return"), .str (Str.ofString "write")], .tup [.str (Str.ofString "both"), .str (Str.ofString "return")]] := by rw [List.map_append]; rfl
  rw [e2] at e
  have l := len_ok S false
  have n1 := ne_kt S
  have z : PR.length + 3 ≤ sizeLine := by rw [PR_len, szl]; decide
  have hz : S.length < 9223372036854775808 := by omega
  cases b <;> simp [F_l_is_set, m_l_is_set, pIsC, l, n1, pairs_ok, z, e, hz]
theorem says_ok (x : Bool) : F_l_says [(.bl x, false), (.bl x, false)] = .ok (.bl true, false) [some (.bl x, false), some (.bl x, false)] := by
  cases x <;> simp [F_l_says, m_l_says]
theorem St0 : St (fun _ => false) = [] := by
  unfold St
  simp
theorem made_loop (fr : Sl) (h : fr = fr) (a0 a1 a2 a3 a4 a5 a6 a7 a8 a9 a10 : Option Slot) : ∀ (Ls : List (List Pr)) (k11 k12 : Option Slot), (∀ S ∈ Ls, S.length ≤ 27) → ∃ c11 c12, loop (tgTup 2 (tgCons (tgN 11) (tgCons (tgN 12) tgNil))) b_l_made_9 (Ls.map fun S => .tup [oD S, .lst (S.map tp)]) [a0, a1, a2, a3, a4, a5, a6, a7, a8, a9, a10, k11, k12, none] = .ok .nx [a0, a1, a2, a3, a4, a5, a6, a7, a8, a9, a10, c11, c12, none]
  | [], k11, k12, _ => ⟨k11, k12, rfl⟩
  | S :: Ls, k11, k12, hl => by
    obtain ⟨c11, c12, ih⟩ := made_loop fr h a0 a1 a2 a3 a4 a5 a6 a7 a8 a9 a10 Ls (some (oD S, false)) (some (.lst (S.map tp), false)) fun T hT => hl T (by simp [hT])
    have i := is_set_ok S (hl S (by simp)) false
    refine ⟨c11, c12, ?_⟩
    rw [List.map_cons]
    unfold loop
    simp [b_l_made_9, i]
    exact ih
theorem made_ok (f g : Pr → Bool) : F_l_made [(oD (St f), true), (oD (St g), true), (oD [], true), (.lst ((St f).map tp), false), (.lst ((St g).map tp), true), (.lst (PR.map tp), false)] =
    .ok (.bl true, false) [some (oD (St f), false), some (oD (St g), false), some (oD [], false), some (.lst ((St f).map tp), false), some (.lst ((St g).map tp), false), some (.lst (PR.map tp), false)] := by
  have k : ∀ (h : Pr → Bool) (p : Pr), p ∈ PR → decide (p ∈ St h) = h p := fun h p hp => by
    cases q : h p with
    | true => exact decide_eq_true (St_mem.mpr ⟨hp, q⟩)
    | false => exact decide_eq_false fun z => by rw [(St_mem.mp z).2] at q; cases q
  have lc1 := lc_keep (j := 13) (c := c_l_made_1) (e := e_l_made_2) (ρ := [some (oD (St f), true), some (oD (St g), true), some (oD [], true), some (.lst ((St f).map tp), false), some (.lst ((St g).map tp), true), some (.lst (PR.map tp), false), none, none, none, none, none, none, none, none]) tp toP_t (St f) (St_len f) (fun p => decide (p ∈ St g)) rfl (fun p _ => by simp [c_l_made_1, in_tt]) (fun p _ => by simp [e_l_made_2])
  have e1 : (St f).filter (fun p => decide (p ∈ St g)) = St fun p => f p && g p := by
    rw [St_filter]; exact St_congr fun p hp => by rw [k g p hp]
  rw [e1] at lc1
  generalize hsm : (St fun p => f p && g p) = sm at lc1
  have lc2 := lc_keep (j := 13) (c := c_l_made_3) (e := e_l_made_4) (ρ := [some (oD (St f), true), some (oD (St g), true), some (oD [], true), some (.lst ((St f).map tp), false), some (.lst ((St g).map tp), true), some (.lst (PR.map tp), false), some (.lst (sm.map tp), true), none, none, none, none, none, none, none]) tp toP_t PR (by rw [PR_len]; decide) (fun p => decide (p ∈ St f) || decide (p ∈ St g)) rfl (fun p _ => by
    by_cases q : p ∈ St f
    · simp [c_l_made_3, in_tt, q]
    · simp [c_l_made_3, in_tt, q]) (fun p _ => by simp [e_l_made_4])
  have e2 : PR.filter (fun p => decide (p ∈ St f) || decide (p ∈ St g)) = St fun p => f p || g p := St_congr fun p hp => by rw [k f p hp, k g p hp]
  rw [e2] at lc2
  generalize hei : (St fun p => f p || g p) = ei at lc2
  have lc3 := lc_keep (j := 13) (c := c_l_made_5) (e := e_l_made_6) (ρ := [some (oD (St f), true), some (oD (St g), true), some (oD [], true), some (.lst ((St f).map tp), false), some (.lst ((St g).map tp), true), some (.lst (PR.map tp), false), some (.lst (sm.map tp), true), some (.lst (ei.map tp), true), none, none, none, none, none, none]) tp toP_t (St f) (St_len f) (fun p => !decide (p ∈ St g)) rfl (fun p _ => by simp [c_l_made_5, ni_tt]) (fun p _ => by simp [e_l_made_6])
  have e3 : (St f).filter (fun p => !decide (p ∈ St g)) = St fun p => f p && !g p := by
    rw [St_filter]; exact St_congr fun p hp => by rw [k g p hp]
  rw [e3] at lc3
  generalize hle : (St fun p => f p && !g p) = le at lc3
  have lc4 := lc_keep (j := 13) (c := c_l_made_7) (e := e_l_made_8) (ρ := [some (oD (St f), true), some (oD (St g), true), some (oD [], true), some (.lst ((St f).map tp), false), some (.lst ((St g).map tp), false), some (.lst (PR.map tp), false), some (.lst (sm.map tp), true), some (.lst (ei.map tp), true), some (.lst (le.map tp), true), none, none, none, none, none]) tp toP_t (St g) (St_len g) (fun p => !decide (p ∈ St f)) rfl (fun p _ => by simp [c_l_made_7, ni_tt]) (fun p _ => by simp [e_l_made_8])
  have e4 : (St g).filter (fun p => !decide (p ∈ St f)) = St fun p => g p && !f p := by
    rw [St_filter]; exact St_congr fun p hp => by rw [k f p hp]
  rw [e4] at lc4
  generalize hri : (St fun p => g p && !f p) = ri at lc4
  -- the operators
  have a12 := and_ok f g false false
  rw [hsm] at a12
  have a21 := and_ok g f false false
  rw [show (St fun p => g p && f p) = sm by rw [← hsm]; exact St_congr fun p _ => Bool.and_comm _ _] at a21
  have a10 := and_ok f (fun _ => false) false false
  rw [show (St fun p => f p && false) = [] by rw [← St0]; exact St_congr fun p _ => Bool.and_false _, St0] at a10
  have o10 := or_ok f (fun _ => false) false false
  rw [show (St fun p => f p || false) = St f from St_congr fun p _ => Bool.or_false _, St0] at o10
  have s10 := sub_ok f (fun _ => false) false false
  rw [show (St fun p => f p && !false) = St f from St_congr fun p _ => Bool.and_true _, St0] at s10
  have o12 := or_ok f g false false
  rw [hei] at o12
  have s01 := sub_ok (fun _ => false) f false false
  rw [show (St fun p => false && !f p) = [] by rw [← St0]; exact St_congr fun p _ => rfl, St0] at s01
  have s11 := sub_ok f f false false
  rw [show (St fun p => f p && !f p) = [] by rw [← St0]; exact St_congr fun p _ => Bool.and_not_self _] at s11
  have o11 := or_ok f f false false
  rw [show (St fun p => f p || f p) = St f from St_congr fun p _ => Bool.or_self _] at o11
  have s12 := sub_ok f g false false
  rw [hle] at s12
  have s21 := sub_ok g f false false
  rw [hri] at s21
  have lsm : sm.length ≤ 27 := by rw [← hsm]; exact St_len _
  have lei : ei.length ≤ 27 := by rw [← hei]; exact St_len _
  have lle : le.length ≤ 27 := by rw [← hle]; exact St_len _
  have lri : ri.length ≤ 27 := by rw [← hri]; exact St_len _
  have lf : (St f).length ≤ 27 := St_len f
  have lg : (St g).length ≤ 27 := St_len g
  generalize St f = sf at *
  generalize St g = sg at *
  have z1 : (13 : Nat) ≤ sizeLine := by rw [szl]; decide
  have z2 : (17 : Nat) ≤ sizeLine := by rw [szl]; decide
  obtain ⟨c11, c12, el⟩ := made_loop [] rfl (some (oD sf, false)) (some (oD sg, false)) (some (oD [], false)) (some (.lst (sf.map tp), false)) (some (.lst (sg.map tp), false)) (some (.lst (PR.map tp), false)) (some (.lst (sm.map tp), false)) (some (.lst (ei.map tp), false)) (some (.lst (le.map tp), false)) (some (.lst (ri.map tp), false)) (some (.lst ([sf, sg, [], sm, sm, [], sf, sf, ei, [], [], sf, le, ri, sf, sg, []].map fun S => .tup [oD S, .lst (S.map tp)]), false)) [sf, sg, [], sm, sm, [], sf, sf, ei, [], [], sf, le, ri, sf, sg, []] none none (by
    intro S hS
    simp only [List.mem_cons, List.mem_nil_iff, or_false] at hS
    rcases hS with rfl | rfl | rfl | rfl | rfl | rfl | rfl | rfl | rfl | rfl | rfl | rfl | rfl | rfl | rfl | rfl | rfl <;> first | assumption | simp)
  simp only [List.map_cons, List.map_nil] at el
  have main : ∃ ρ, m_l_made [some (oD sf, true), some (oD sg, true), some (oD [], true), some (.lst (sf.map tp), false), some (.lst (sg.map tp), true), some (.lst (PR.map tp), false), none, none, none, none, none, none, none, none] = .ok (.rt (.bl true, false)) ρ ∧ ρ[0]? = some (some (oD sf, false)) ∧ ρ[1]? = some (some (oD sg, false)) ∧ ρ[2]? = some (some (oD [], false)) ∧ ρ[3]? = some (some (.lst (sf.map tp), false)) ∧ ρ[4]? = some (some (.lst (sg.map tp), false)) ∧ ρ[5]? = some (some (.lst (PR.map tp), false)) := by
    unfold m_l_made
    rw [cSeq_nx (ρ1 := [some (oD sf, true), some (oD sg, true), some (oD [], true), some (.lst (sf.map tp), false), some (.lst (sg.map tp), true), some (.lst (PR.map tp), false), some (.lst (sm.map tp), true), none, none, none, none, none, none, none]) (by simp [lc1])]
    rw [cSeq_nx (ρ1 := [some (oD sf, true), some (oD sg, true), some (oD [], true), some (.lst (sf.map tp), false), some (.lst (sg.map tp), true), some (.lst (PR.map tp), false), some (.lst (sm.map tp), true), some (.lst (ei.map tp), true), none, none, none, none, none, none]) (by simp [lc2])]
    rw [cSeq_nx (ρ1 := [some (oD sf, true), some (oD sg, true), some (oD [], true), some (.lst (sf.map tp), false), some (.lst (sg.map tp), true), some (.lst (PR.map tp), false), some (.lst (sm.map tp), true), some (.lst (ei.map tp), true), some (.lst (le.map tp), true), none, none, none, none, none]) (by simp [lc3])]
    rw [cSeq_nx (ρ1 := [some (oD sf, true), some (oD sg, true), some (oD [], true), some (.lst (sf.map tp), false), some (.lst (sg.map tp), false), some (.lst (PR.map tp), false), some (.lst (sm.map tp), true), some (.lst (ei.map tp), true), some (.lst (le.map tp), true), some (.lst (ri.map tp), true), none, none, none, none]) (by simp [lc4])]
    rw [cSeq_nx (ρ1 := [some (oD sf, false), some (oD sg, false), some (oD [], false), some (.lst (sf.map tp), false), some (.lst (sg.map tp), false), some (.lst (PR.map tp), false), some (.lst (sm.map tp), false), some (.lst (ei.map tp), true), some (.lst (le.map tp), true), some (.lst (ri.map tp), true), some (.lst ([sf, sg, [], sm, sm, [], sf].map fun S => .tup [oD S, .lst (S.map tp)]), true), none, none, none]) (by simp [a12, a21, a10, o10])]
    rw [cSeq_nx (ρ1 := [some (oD sf, false), some (oD sg, false), some (oD [], false), some (.lst (sf.map tp), false), some (.lst (sg.map tp), false), some (.lst (PR.map tp), false), some (.lst (sm.map tp), false), some (.lst (ei.map tp), false), some (.lst (le.map tp), false), some (.lst (ri.map tp), true), some (.lst ([sf, sg, [], sm, sm, [], sf, sf, ei, [], [], sf, le].map fun S => .tup [oD S, .lst (S.map tp)]), true), none, none, none]) (by simp [s10, o12, s01, s11, o11, s12, z1])]
    rw [cSeq_nx (ρ1 := [some (oD sf, false), some (oD sg, false), some (oD [], false), some (.lst (sf.map tp), false), some (.lst (sg.map tp), false), some (.lst (PR.map tp), false), some (.lst (sm.map tp), false), some (.lst (ei.map tp), false), some (.lst (le.map tp), false), some (.lst (ri.map tp), false), some (.lst ([sf, sg, [], sm, sm, [], sf, sf, ei, [], [], sf, le, ri, sf, sg, []].map fun S => .tup [oD S, .lst (S.map tp)]), true), none, none, none]) (by simp [s21, z2])]
    refine ⟨[some (oD sf, false), some (oD sg, false), some (oD [], false), some (.lst (sf.map tp), false), some (.lst (sg.map tp), false), some (.lst (PR.map tp), false), some (.lst (sm.map tp), false), some (.lst (ei.map tp), false), some (.lst (le.map tp), false), some (.lst (ri.map tp), false), some (.lst ([sf, sg, [], sm, sm, [], sf, sf, ei, [], [], sf, le, ri, sf, sg, []].map fun S => .tup [oD S, .lst (S.map tp)]), false), c11, c12, none], by simp [el], rfl, rfl, rfl, rfl, rfl, rfl⟩
  obtain ⟨ρ, h1, r0, r1, r2, r3, r4, r5⟩ := main
  simp [F_l_made, h1, r0, r1, r2, r3, r4, r5]
end K33

namespace K33
open PySem L2 VS
theorem all_St (f g : Pr → Bool) : ((St f).all fun p => decide (p ∈ St g)) = decide ((St fun p => f p && g p).length = (St f).length) := by
  have e1 : (St f).filter (fun p => decide (p ∈ St g)) = St fun p => f p && g p := by
    rw [St_filter]
    apply St_congr
    intro p hp
    congr 1
    cases q : g p with
    | true => exact decide_eq_true (St_mem.mpr ⟨hp, q⟩)
    | false => exact decide_eq_false fun z => by rw [(St_mem.mp z).2] at q; cases q
  rw [← e1, Bool.eq_iff_iff, List.all_eq_true, decide_eq_true_eq]
  constructor
  · intro h
    rw [List.filter_eq_self.mpr h]
  · intro h
    have := (List.filter_sublist (p := fun p => decide (p ∈ St g)) (l := St f)).eq_of_length h
    intro p hp
    rw [← this] at hp
    exact (List.mem_filter.mp hp).2
theorem all_in {S T : List Pr} (h : ∀ p ∈ S, p ∈ T) : (S.all fun p => decide (p ∈ T)) = true := List.all_eq_true.mpr fun p hp => decide_eq_true (h p hp)
theorem wn_loop (a0 a1 a2 a3 a4 a5 a6 : Option Slot) : ∀ (bs : List Bool) (k7 k8 : Option Slot), ∃ c7 c8, loop (tgTup 2 (tgCons (tgN 7) (tgCons (tgN 8) tgNil))) b_l_within_1 (bs.map fun x => .tup [.bl x, .bl x]) [a0, a1, a2, a3, a4, a5, a6, k7, k8] = .ok .nx [a0, a1, a2, a3, a4, a5, a6, c7, c8]
  | [], k7, k8 => ⟨k7, k8, rfl⟩
  | x :: bs, k7, k8 => by
    obtain ⟨c7, c8, ih⟩ := wn_loop a0 a1 a2 a3 a4 a5 a6 bs (some (.bl x, false)) (some (.bl x, false))
    have i := says_ok x
    refine ⟨c7, c8, ?_⟩
    rw [List.map_cons]
    unfold loop
    simp [b_l_within_1, i]
    exact ih
theorem eq_len (a b : Nat) : pEqA [.int (a : Int), .int (b : Int)] = some (.bl (decide (a = b)), false) := by
  rw [e_eq _ _ (e_dOk_int _ _) (e_dOk_int _ _)]
  have : eqD (.int (a : Int)) (.int (b : Int)) = decide (a = b) := by
    show ((a : Int) == (b : Int)) = _
    rw [Bool.eq_iff_iff, beq_iff_eq, decide_eq_true_eq]
    omega
  rw [this]
theorem wlaw_ok (f g : Pr → Bool) : F_l_within [(oD (St f), false), (oD (St g), false), (oD [], false), (.lst ((St f).map tp), false), (.lst ((St g).map tp), false), (.lst ((St fun p => f p && g p).map tp), true)] =
    .ok (.bl true, false) [some (oD (St f), false), some (oD (St g), false), some (oD [], false), some (.lst ((St f).map tp), false), some (.lst ((St g).map tp), false), some (.lst ((St fun p => f p && g p).map tp), true)] := by
  have w12 := within_ok (St f) (St g) false false
  rw [all_St] at w12
  have w21 := within_ok (St g) (St f) false false
  rw [all_St, show (St fun p => g p && f p) = (St fun p => f p && g p) from St_congr fun p _ => Bool.and_comm _ _] at w21
  have w11 := within_ok (St f) (St f) false false
  rw [all_in (fun p hp => hp)] at w11
  have w01 := within_ok [] (St f) false false
  have w10 := within_ok (St f) [] false false
  have e10 : ((St f).all fun p => decide (p ∈ [])) = decide ((St f).length = 0) := by
    cases St f <;> simp
  rw [e10] at w10
  have a12 := and_ok f g false false
  have w5 := within_ok (St fun p => f p && g p) (St g) false false
  rw [all_in (fun p hp => by
    obtain ⟨h1, h2⟩ := St_mem.mp hp
    exact St_mem.mpr ⟨h1, (Bool.and_eq_true_iff.mp h2).2⟩)] at w5
  have o12 := or_ok f g false false
  have w6 := within_ok (St f) (St fun p => f p || g p) false false
  rw [all_in (fun p hp => by
    obtain ⟨h1, h2⟩ := St_mem.mp hp
    exact St_mem.mpr ⟨h1, by rw [h2]; rfl⟩)] at w6
  have w7 := within_ok (St g) (St fun p => f p || g p) false false
  rw [all_in (fun p hp => by
    obtain ⟨h1, h2⟩ := St_mem.mp hp
    exact St_mem.mpr ⟨h1, by rw [h2]; exact Bool.or_true _⟩)] at w7
  generalize (St fun p => f p && g p) = sm at *
  generalize (St fun p => f p || g p) = ei at *
  generalize St f = sf at *
  generalize St g = sg at *
  have q1 := eq_len sm.length sf.length
  have q2 := eq_len sm.length sg.length
  have q3 := eq_len sf.length 0
  simp only [Int.natCast_zero] at q3
  have z1 : (6 : Nat) ≤ sizeLine := by rw [szl]; decide
  have z2 : (8 : Nat) ≤ sizeLine := by rw [szl]; decide
  obtain ⟨c7, c8, el⟩ := wn_loop (some (oD sf, false)) (some (oD sg, false)) (some (oD [], false)) (some (.lst (sf.map tp), false)) (some (.lst (sg.map tp), false)) (some (.lst (sm.map tp), true)) (some (.lst ([decide (sm.length = sf.length), decide (sm.length = sg.length), true, true, decide (sf.length = 0), true, true, true].map fun x => .tup [.bl x, .bl x]), false)) [decide (sm.length = sf.length), decide (sm.length = sg.length), true, true, decide (sf.length = 0), true, true, true] none none
  have main : ∃ ρ, m_l_within [some (oD sf, false), some (oD sg, false), some (oD [], false), some (.lst (sf.map tp), false), some (.lst (sg.map tp), false), some (.lst (sm.map tp), true), none, none, none] = .ok (.rt (.bl true, false)) ρ ∧ ρ[0]? = some (some (oD sf, false)) ∧ ρ[1]? = some (some (oD sg, false)) ∧ ρ[2]? = some (some (oD [], false)) ∧ ρ[3]? = some (some (.lst (sf.map tp), false)) ∧ ρ[4]? = some (some (.lst (sg.map tp), false)) ∧ ρ[5]? = some (some (.lst (sm.map tp), true)) := by
    unfold m_l_within
    rw [cSeq_nx (ρ1 := [some (oD sf, false), some (oD sg, false), some (oD [], false), some (.lst (sf.map tp), false), some (.lst (sg.map tp), false), some (.lst (sm.map tp), true), some (.lst ([decide (sm.length = sf.length), decide (sm.length = sg.length), true].map fun x => .tup [.bl x, .bl x]), true), none, none]) (by simp [w12, w21, w11, q1, q2])]
    rw [cSeq_nx (ρ1 := [some (oD sf, false), some (oD sg, false), some (oD [], false), some (.lst (sf.map tp), false), some (.lst (sg.map tp), false), some (.lst (sm.map tp), true), some (.lst ([decide (sm.length = sf.length), decide (sm.length = sg.length), true, true, decide (sf.length = 0), true].map fun x => .tup [.bl x, .bl x]), true), none, none]) (by simp [w01, w10, a12, w5, q3, z1])]
    rw [cSeq_nx (ρ1 := [some (oD sf, false), some (oD sg, false), some (oD [], false), some (.lst (sf.map tp), false), some (.lst (sg.map tp), false), some (.lst (sm.map tp), true), some (.lst ([decide (sm.length = sf.length), decide (sm.length = sg.length), true, true, decide (sf.length = 0), true, true, true].map fun x => .tup [.bl x, .bl x]), true), none, none]) (by simp [o12, w6, w7, z2])]
    refine ⟨[some (oD sf, false), some (oD sg, false), some (oD [], false), some (.lst (sf.map tp), false), some (.lst (sg.map tp), false), some (.lst (sm.map tp), true), some (.lst ([decide (sm.length = sf.length), decide (sm.length = sg.length), true, true, decide (sf.length = 0), true, true, true].map fun x => .tup [.bl x, .bl x]), false), c7, c8], ?_, rfl, rfl, rfl, rfl, rfl, rfl⟩
    simp only [List.map_cons, List.map_nil] at el ⊢
    simp [el, -List.length_eq_zero_iff]
  obtain ⟨ρ, h1, r0, r1, r2, r3, r4, r5⟩ := main
  simp [F_l_within, h1, r0, r1, r2, r3, r4, r5]
/-! ### what is refused -/
theorem noX_ds {ds : List D} (h : ∀ d ∈ ds, dOk 3 d = true) : noXs ds = true := by
  rw [noXs_all, List.all_eq_true]
  exact fun d hd => dOk_noX 3 d (h d hd)
theorem in_dsL {ds : List D} (h : ∀ d ∈ ds, dOk 3 d = true) (p : Pr) : pIn [kp p, .lst ds] = some (.bl (memD ds p), false) := by
  rw [e_in_l _ _ (dOk_kp 39 p) (dOk_lstL fun d hd => dOk_up 36 (h d hd)), any_eqk]
  rfl
theorem in_dsT {ds : List D} (h : ∀ d ∈ ds, dOk 3 d = true) (p : Pr) : pIn [kp p, .tup ds] = some (.bl (memD ds p), false) := by
  rw [e_in_t _ _ (dOk_kp 39 p) (dOk_tupL fun d hd => dOk_up 36 (h d hd)), any_eqk]
  rfl
theorem init_lst_bad (ds : List D) (h : ∀ d ∈ ds, dOk 3 d = true) (d : D) (hb : fb ds = some d) : F_p_Pairs___init__ [(.obj 3 [], true), (.lst ds, false)] = .exc 1 [("pair", d)] [some (.obj 3 [], true), some (.lst ds, false)] := by
  obtain ⟨c2, e⟩ := init_loop (some (.obj 3 [], true)) (some (.lst ds, false)) none ds none h
  rw [hb] at e
  simp [F_p_Pairs___init__, m_p_Pairs___init__, e]
theorem init_tup_bad (ds : List D) (h : ∀ d ∈ ds, dOk 3 d = true) (d : D) (hb : fb ds = some d) : F_p_Pairs___init__ [(.obj 3 [], true), (.tup ds, false)] = .exc 1 [("pair", d)] [some (.obj 3 [], true), some (.tup ds, false)] := by
  obtain ⟨c2, e⟩ := init_loop (some (.obj 3 [], true)) (some (.tup ds, false)) none ds none h
  rw [hb] at e
  simp [F_p_Pairs___init__, m_p_Pairs___init__, e]
theorem fb_ok {ds : List D} (h : ∀ d ∈ ds, dOk 3 d = true) {d : D} (hb : fb ds = some d) : dOk 3 d = true := h d (List.mem_of_find?_eq_some hb)
theorem refusal_lst (ds : List D) (h : ∀ d ∈ ds, dOk 3 d = true) : F_l_refusal [(.lst ds, false)] = .ok (.lst (fbL ds), true) [some (.lst ds, false)] := by
  have n1 := noX_ds h
  unfold fbL
  cases q : fb ds with
  | none =>
    have i := init_lst ds h false q (in_dsL h)
    simp [F_l_refusal, m_l_refusal, b_l_refusal_1, i]
  | some d =>
    have i := init_lst_bad ds h d q
    have n2 := dOk_noX 3 d (fb_ok h q)
    simp [F_l_refusal, m_l_refusal, b_l_refusal_1, b_l_refusal_2, i, n1, n2]
theorem refusal_tup (ds : List D) (h : ∀ d ∈ ds, dOk 3 d = true) : F_l_refusal [(.tup ds, false)] = .ok (.lst (fbL ds), true) [some (.tup ds, false)] := by
  have n1 := noX_ds h
  unfold fbL
  cases q : fb ds with
  | none =>
    have i := init_tup ds h q (in_dsT h)
    simp [F_l_refusal, m_l_refusal, b_l_refusal_1, i]
  | some d =>
    have i := init_tup_bad ds h d q
    have n2 := dOk_noX 3 d (fb_ok h q)
    simp [F_l_refusal, m_l_refusal, b_l_refusal_1, b_l_refusal_2, i, n1, n2]
theorem ne_fb {ds : List D} (h : ∀ d ∈ ds, dOk 3 d = true) : pNe [.lst (fbL ds), .lst (fbL ds)] = some (.bl false, false) := by
  have k : dOk 40 (.lst (fbL ds)) = true := by
    refine dOk_lstL fun d hd => ?_
    unfold fbL at hd
    cases q : fb ds with
    | none => rw [q] at hd; cases hd
    | some d' =>
      rw [q] at hd
      have : d = d' := by simpa using hd
      rw [this]
      exact dOk_up 36 (fb_ok h q)
  rw [e_ne _ _ k k, eqD_refl 40 _ k]
  rfl
end K33

namespace K33
open PySem L2 VS
theorem ne_PAIRS : pNe [k_PAIRS, .tup (PR.map tp)] = some (.bl false, false) := by
  have k1 : dOk 40 k_PAIRS = true := by rw [k_PR]; exact dOk_kpsT 38 PR
  rw [e_ne _ _ k1 (dOk_tpsT 38 PR), k_PR]
  have : eqD (.ktup (PR.map kp)) (.tup (PR.map tp)) = eqDs (PR.map kp) (PR.map tp) := rfl
  rw [this, eqDs_kt]
  rfl
theorem ne_KINDS : pNe [k_KINDS, .tup [.str (Str.ofString "read"), .str (Str.ofString "acquire"), .str (Str.ofString "write"), .str (Str.ofString "release"), .str (Str.ofString "both")]] = some (.bl false, false) := by
  rw [e_ne _ _ rfl rfl, show eqD k_KINDS (.tup [.str (Str.ofString "read"), .str (Str.ofString "acquire"), .str (Str.ofString "write"), .str (Str.ofString "release"), .str (Str.ofString "both")]) = true by decide +kernel]
  rfl
theorem ne_READS : pNe [k_READS, .tup [.str (Str.ofString "read"), .str (Str.ofString "acquire")]] = some (.bl false, false) := by
  rw [e_ne _ _ rfl rfl, show eqD k_READS (.tup [.str (Str.ofString "read"), .str (Str.ofString "acquire")]) = true by decide +kernel]
  rfl
theorem ne_WRITES : pNe [k_WRITES, .tup [.str (Str.ofString "write"), .str (Str.ofString "release")]] = some (.bl false, false) := by
  rw [e_ne _ _ rfl rfl, show eqD k_WRITES (.tup [.str (Str.ofString "write"), .str (Str.ofString "release")]) = true by decide +kernel]
  rfl
theorem law_ok (ns : List Int) (hn : ns.length ≤ 63) : F_law [(.scr ns, false)] = .ok (.bl true, false) [some (.scr ns, false)] := by
  obtain ⟨r, hr⟩ := pick_fun (n := 6) (P := fun k (v : Int) => 0 ≤ v ∧ e_law_1 [some (.scr ns, false), none, none, none, none, none, none, none, none, none, none, none, none, none, none, none, none, some (.int (0 + (k : Int)), false), none] = .ok (.int v, false) [some (.scr ns, false), none, none, none, none, none, none, none, none, none, none, none, none, none, none, none, none, some (.int (0 + (k : Int)), false), none]) 0 (by
    intro k hk
    obtain ⟨v, v0, e⟩ := draw_ok ns hn k
    exact ⟨v, v0, by simp [e_law_1, e]⟩)
  have lc := lc_rngN (j := 17) (e := e_law_1) (lo := 0) (n := 6) (ρ := [some (.scr ns, false), none, none, none, none, none, none, none, none, none, none, none, none, none, none, none, none, none, none]) (fun i => D.int (r i)) (by decide) rfl (fun i hi => ⟨false, (hr i hi).2⟩)
  have lc : lcGo (tgN 17) cYes e_law_1 [17] (rngD 0 6) [] [some (.scr ns, false), none, none, none, none, none, none, none, none, none, none, none, none, none, none, none, none, none, none] = .ok [.int (r 0), .int (r 1), .int (r 2), .int (r 3), .int (r 4), .int (r 5)] [some (.scr ns, false), none, none, none, none, none, none, none, none, none, none, none, none, none, none, none, none, none, none] := lc
  have p0 := (hr 0 (by decide)).1
  have p1 := (hr 1 (by decide)).1
  have p2 := (hr 2 (by decide)).1
  have p3 := (hr 3 (by decide)).1
  have p4 := (hr 4 (by decide)).1
  have p5 := (hr 5 (by decide)).1
  generalize r 0 = r0 at *
  generalize r 1 = r1 at *
  generalize r 2 = r2 at *
  generalize r 3 = r3 at *
  generalize r 4 = r4 at *
  generalize r 5 = r5 at *
  obtain ⟨X, xl, xp, ex⟩ := items_ok r0 p0
  obtain ⟨Y, yl, yp, ey⟩ := items_ok r1 p1
  obtain ⟨U, ul, eu⟩ := words_ok r3 p3
  obtain ⟨V, vl, ev⟩ := words_ok r4 p4
  obtain ⟨q, hq, eq⟩ := at_rows (v := r2 % 27) (by omega) (by omega)
  obtain ⟨es, esl, eso, ee⟩ := spoilt_ok (X.map tp) (by simpa using xl) tp_ok r5 p5 true
  have hfb := first_bad_ok es eso true
  have rl := refusal_lst es eso
  have rt := refusal_tup es eso
  have nfb := ne_fb eso
  let f : Pr → Bool := fun p => decide (p ∈ X)
  let g : Pr → Bool := fun p => decide (p ∈ Y)
  have ia : F_p_Pairs___init__ [(.obj 3 [], true), (.lst (X.map tp), true)] = .ok (.non, false) [some (oD (St f), true), some (.lst (X.map tp), true)] := init_t xp true
  have ia2 : F_p_Pairs___init__ [(.obj 3 [], true), (.lst (X.map tp), false)] = .ok (.non, false) [some (oD (St f), true), some (.lst (X.map tp), false)] := init_t xp false
  have ib : F_p_Pairs___init__ [(.obj 3 [], true), (.tup (Y.map tp), false)] = .ok (.non, false) [some (oD (St g), true), some (.tup (Y.map tp), false)] := init_tT yp
  have i0 := init_0
  rw [St0] at i0
  let R : List D := [.int r0, .int r1, .int r2, .int r3, .int r4, .int r5]
  have l5 : lcGo (tgN 18) c_law_2 e_law_3 [18] (PR.map tp) [] [some (.scr ns, false), some (.lst R, true), some (.lst (PR.map tp), false), some (.lst (X.map tp), true), some (.lst (Y.map tp), true), none, none, none, none, none, none, none, none, none, none, none, none, none, none] = .ok ((St f).map tp) [some (.scr ns, false), some (.lst R, true), some (.lst (PR.map tp), false), some (.lst (X.map tp), true), some (.lst (Y.map tp), true), none, none, none, none, none, none, none, none, none, none, none, none, none, none] :=
    lc_keep (j := 18) tp toP_t PR (by rw [PR_len]; decide) f rfl (fun p _ => by simp [c_law_2, in_tt, f]) (fun p _ => by simp [e_law_3])
  have l6 : lcGo (tgN 18) c_law_4 e_law_5 [18] (PR.map tp) [] [some (.scr ns, false), some (.lst R, true), some (.lst (PR.map tp), false), some (.lst (X.map tp), true), some (.lst (Y.map tp), true), some (.lst ((St f).map tp), true), none, none, none, none, none, none, none, none, none, none, none, none, none] = .ok ((St g).map tp) [some (.scr ns, false), some (.lst R, true), some (.lst (PR.map tp), false), some (.lst (X.map tp), true), some (.lst (Y.map tp), true), some (.lst ((St f).map tp), true), none, none, none, none, none, none, none, none, none, none, none, none, none] :=
    lc_keep (j := 18) tp toP_t PR (by rw [PR_len]; decide) g rfl (fun p _ => by simp [c_law_4, in_tt, g]) (fun p _ => by simp [e_law_5])
  have l7 := lc_keep (j := 18) (c := c_law_6) (e := e_law_7) (ρ := [some (.scr ns, false), some (.lst R, true), some (.lst (PR.map tp), false), some (.lst (X.map tp), true), some (.lst (Y.map tp), true), some (.lst ((St f).map tp), false), some (.lst ((St g).map tp), true), none, none, none, none, none, none, none, none, none, none, none, none]) tp toP_t (St f) (St_len f) (fun p => decide (p ∈ St g)) rfl (fun p _ => by simp [c_law_6, in_tt]) (fun p _ => by simp [e_law_7])
  have e7 : (St f).filter (fun p => decide (p ∈ St g)) = St fun p => f p && g p := by
    rw [St_filter]
    apply St_congr
    intro p hp
    congr 1
    cases q : g p with
    | true => exact decide_eq_true (St_mem.mpr ⟨hp, q⟩)
    | false => exact decide_eq_false fun z => by rw [(St_mem.mp z).2] at q; cases q
  rw [e7] at l7
  have md := made_ok f g
  have wl := wlaw_ok f g
  have bt := between_ok U V
  have h : Pr → Bool := fun p => decide (p.1 ∈ U) && decide (p.2 ∈ V)
  have isD := is_set_ok (St fun p => decide (p.1 ∈ U) && decide (p.2 ∈ V)) (St_len _) true
  have isF := is_set_ok (St f) (St_len f) false
  have lf : (St f).length ≤ 27 := St_len f
  generalize hsd : (St fun p => decide (p.1 ∈ U) && decide (p.2 ∈ V)) = sd at bt isD
  generalize (St fun p => f p && g p) = sm at l7 md wl
  generalize St f = sf at *
  generalize St g = sg at *
  have l8 := lc_keep (j := 18) (c := c_law_8) (e := e_law_9) (ρ := [some (.scr ns, false), some (.lst R, true), some (.lst (PR.map tp), false), some (.lst (X.map tp), true), some (.lst (Y.map tp), true), some (.lst (sf.map tp), false), some (.lst (sg.map tp), false), some (.lst (sm.map tp), true), some (.lst ((X.map tp).reverse ++ [tp q]), true), some (oD sf, false), some (oD sg, false), some (oD [], false), some (.tup (U.map D.str), false), some (.tup (V.map D.str), false), none, none, none, none, none]) tp toP_t PR (by rw [PR_len]; decide) (fun p => decide (p.1 ∈ U) && decide (p.2 ∈ V)) rfl (fun p _ => by
    by_cases q : p.1 ∈ U
    · simp [c_law_8, at_t0, at_t1, q]
    · simp [c_law_8, at_t0, at_t1, q]) (fun p _ => by simp [e_law_9])
  rw [show PR.filter (fun p => decide (p.1 ∈ U) && decide (p.2 ∈ V)) = sd from hsd] at l8
  have nt := ne_tt X
  have z1 : X.length < sizeLine := by rw [szl]; omega
  have main : ∃ ρ, m_law [some (.scr ns, false), none, none, none, none, none, none, none, none, none, none, none, none, none, none, none, none, none, none] = .ok (.rt (.bl true, false)) ρ ∧ ρ[0]? = some (some (.scr ns, false)) := by
    unfold m_law
    rw [cSeq_nx (ρ1 := [some (.scr ns, false), some (.lst R, true), none, none, none, none, none, none, none, none, none, none, none, none, none, none, none, none, none]) (by simp [lc, R])]
    rw [cSeq_nx (ρ1 := [some (.scr ns, false), some (.lst R, true), some (.lst (PR.map tp), true), none, none, none, none, none, none, none, none, none, none, none, none, none, none, none, none]) (by simp [pairs_ok])]
    rw [cSeq_nx (ρ1 := [some (.scr ns, false), some (.lst R, true), some (.lst (PR.map tp), true), none, none, none, none, none, none, none, none, none, none, none, none, none, none, none, none]) (by simp [ne_PAIRS, ne_KINDS])]
    rw [cSeq_nx (ρ1 := [some (.scr ns, false), some (.lst R, true), some (.lst (PR.map tp), true), none, none, none, none, none, none, none, none, none, none, none, none, none, none, none, none]) (by simp [ne_READS, ne_WRITES])]
    rw [cSeq_nx (ρ1 := [some (.scr ns, false), some (.lst R, true), some (.lst (PR.map tp), true), some (.lst (X.map tp), true), none, none, none, none, none, none, none, none, none, none, none, none, none, none, none]) (by simp [R, ex])]
    rw [cSeq_nx (ρ1 := [some (.scr ns, false), some (.lst R, true), some (.lst (PR.map tp), true), some (.lst (X.map tp), true), some (.lst (Y.map tp), true), none, none, none, none, none, none, none, none, none, none, none, none, none, none]) (by simp [R, ey])]
    rw [cSeq_nx (ρ1 := [some (.scr ns, false), some (.lst R, true), some (.lst (PR.map tp), false), some (.lst (X.map tp), true), some (.lst (Y.map tp), true), some (.lst (sf.map tp), true), none, none, none, none, none, none, none, none, none, none, none, none, none]) (by simp [l5])]
    rw [cSeq_nx (ρ1 := [some (.scr ns, false), some (.lst R, true), some (.lst (PR.map tp), false), some (.lst (X.map tp), true), some (.lst (Y.map tp), true), some (.lst (sf.map tp), true), some (.lst (sg.map tp), true), none, none, none, none, none, none, none, none, none, none, none, none]) (by simp [l6])]
    rw [cSeq_nx (ρ1 := [some (.scr ns, false), some (.lst R, true), some (.lst (PR.map tp), false), some (.lst (X.map tp), true), some (.lst (Y.map tp), true), some (.lst (sf.map tp), false), some (.lst (sg.map tp), true), some (.lst (sm.map tp), true), none, none, none, none, none, none, none, none, none, none, none]) (by simp [l7])]
    rw [cSeq_nx (ρ1 := [some (.scr ns, false), some (.lst R, true), some (.lst (PR.map tp), false), some (.lst (X.map tp), true), some (.lst (Y.map tp), true), some (.lst (sf.map tp), false), some (.lst (sg.map tp), true), some (.lst (sm.map tp), true), some (.lst (X.map tp), true), none, none, none, none, none, none, none, none, none, none]) (by simp)]
    rw [cSeq_nx (ρ1 := [some (.scr ns, false), some (.lst R, true), some (.lst (PR.map tp), false), some (.lst (X.map tp), true), some (.lst (Y.map tp), true), some (.lst (sf.map tp), false), some (.lst (sg.map tp), true), some (.lst (sm.map tp), true), some (.lst (X.map tp), true), some (oD sf, true), none, none, none, none, none, none, none, none, none]) (by simp [ia])]
    rw [cSeq_nx (ρ1 := [some (.scr ns, false), some (.lst R, true), some (.lst (PR.map tp), false), some (.lst (X.map tp), true), some (.lst (Y.map tp), true), some (.lst (sf.map tp), false), some (.lst (sg.map tp), true), some (.lst (sm.map tp), true), some (.lst (X.map tp), true), some (oD sf, true), none, none, none, none, none, none, none, none, none]) (by simp [nt])]
    rw [cSeq_nx (ρ1 := [some (.scr ns, false), some (.lst R, true), some (.lst (PR.map tp), false), some (.lst (X.map tp), true), some (.lst (Y.map tp), true), some (.lst (sf.map tp), false), some (.lst (sg.map tp), true), some (.lst (sm.map tp), true), some (.lst (X.map tp).reverse, true), some (oD sf, true), none, none, none, none, none, none, none, none, none]) (by simp)]
    rw [cSeq_nx (ρ1 := [some (.scr ns, false), some (.lst R, true), some (.lst (PR.map tp), false), some (.lst (X.map tp), true), some (.lst (Y.map tp), true), some (.lst (sf.map tp), false), some (.lst (sg.map tp), true), some (.lst (sm.map tp), true), some (.lst ((X.map tp).reverse ++ [tp q]), true), some (oD sf, true), none, none, none, none, none, none, none, none, none]) (by simp [R, eq, z1])]
    rw [cSeq_nx (ρ1 := [some (.scr ns, false), some (.lst R, true), some (.lst (PR.map tp), false), some (.lst (X.map tp), true), some (.lst (Y.map tp), true), some (.lst (sf.map tp), false), some (.lst (sg.map tp), true), some (.lst (sm.map tp), true), some (.lst ((X.map tp).reverse ++ [tp q]), true), some (oD sf, true), some (oD sg, true), none, none, none, none, none, none, none, none]) (by simp [ib])]
    rw [cSeq_nx (ρ1 := [some (.scr ns, false), some (.lst R, true), some (.lst (PR.map tp), false), some (.lst (X.map tp), true), some (.lst (Y.map tp), true), some (.lst (sf.map tp), false), some (.lst (sg.map tp), true), some (.lst (sm.map tp), true), some (.lst ((X.map tp).reverse ++ [tp q]), true), some (oD sf, true), some (oD sg, true), some (oD [], true), none, none, none, none, none, none, none]) (by simp [i0])]
    rw [cSeq_nx (ρ1 := [some (.scr ns, false), some (.lst R, true), some (.lst (PR.map tp), false), some (.lst (X.map tp), true), some (.lst (Y.map tp), true), some (.lst (sf.map tp), false), some (.lst (sg.map tp), false), some (.lst (sm.map tp), true), some (.lst ((X.map tp).reverse ++ [tp q]), true), some (oD sf, false), some (oD sg, false), some (oD [], false), none, none, none, none, none, none, none]) (by simp [md, wl])]
    rw [cSeq_nx (ρ1 := [some (.scr ns, false), some (.lst R, true), some (.lst (PR.map tp), false), some (.lst (X.map tp), true), some (.lst (Y.map tp), true), some (.lst (sf.map tp), false), some (.lst (sg.map tp), false), some (.lst (sm.map tp), true), some (.lst ((X.map tp).reverse ++ [tp q]), true), some (oD sf, false), some (oD sg, false), some (oD [], false), some (.tup (U.map D.str), false), none, none, none, none, none, none]) (by simp [R, eu])]
    rw [cSeq_nx (ρ1 := [some (.scr ns, false), some (.lst R, true), some (.lst (PR.map tp), false), some (.lst (X.map tp), true), some (.lst (Y.map tp), true), some (.lst (sf.map tp), false), some (.lst (sg.map tp), false), some (.lst (sm.map tp), true), some (.lst ((X.map tp).reverse ++ [tp q]), true), some (oD sf, false), some (oD sg, false), some (oD [], false), some (.tup (U.map D.str), false), some (.tup (V.map D.str), false), none, none, none, none, none]) (by simp [R, ev])]
    rw [cSeq_nx (ρ1 := [some (.scr ns, false), some (.lst R, true), some (.lst (PR.map tp), false), some (.lst (X.map tp), true), some (.lst (Y.map tp), true), some (.lst (sf.map tp), false), some (.lst (sg.map tp), false), some (.lst (sm.map tp), true), some (.lst ((X.map tp).reverse ++ [tp q]), true), some (oD sf, false), some (oD sg, false), some (oD [], false), some (.tup (U.map D.str), false), some (.tup (V.map D.str), false), some (.lst (sd.map tp), true), none, none, none, none]) (by simp [l8])]
    rw [cSeq_nx (ρ1 := [some (.scr ns, false), some (.lst R, true), some (.lst (PR.map tp), false), some (.lst (X.map tp), true), some (.lst (Y.map tp), true), some (.lst (sf.map tp), false), some (.lst (sg.map tp), false), some (.lst (sm.map tp), true), some (.lst ((X.map tp).reverse ++ [tp q]), true), some (oD sf, false), some (oD sg, false), some (oD [], false), some (.tup (U.map D.str), false), some (.tup (V.map D.str), false), some (.lst (sd.map tp), true), none, none, none, none]) (by simp [bt, isD])]
    rw [cSeq_nx (ρ1 := [some (.scr ns, false), some (.lst R, true), some (.lst (PR.map tp), false), some (.lst (X.map tp), true), some (.lst (Y.map tp), true), some (.lst (sf.map tp), false), some (.lst (sg.map tp), false), some (.lst (sm.map tp), true), some (.lst ((X.map tp).reverse ++ [tp q]), true), some (oD sf, false), some (oD sg, false), some (oD [], false), some (.tup (U.map D.str), false), some (.tup (V.map D.str), false), some (.lst (sd.map tp), true), some (.lst es, true), none, none, none]) (by simp [R, ee])]
    rw [cSeq_nx (ρ1 := [some (.scr ns, false), some (.lst R, true), some (.lst (PR.map tp), false), some (.lst (X.map tp), true), some (.lst (Y.map tp), true), some (.lst (sf.map tp), false), some (.lst (sg.map tp), false), some (.lst (sm.map tp), true), some (.lst ((X.map tp).reverse ++ [tp q]), true), some (oD sf, false), some (oD sg, false), some (oD [], false), some (.tup (U.map D.str), false), some (.tup (V.map D.str), false), some (.lst (sd.map tp), true), some (.lst es, false), some (.lst (fbL es), true), none, none]) (by simp [hfb])]
    rw [cSeq_nx (ρ1 := [some (.scr ns, false), some (.lst R, true), some (.lst (PR.map tp), false), some (.lst (X.map tp), true), some (.lst (Y.map tp), true), some (.lst (sf.map tp), false), some (.lst (sg.map tp), false), some (.lst (sm.map tp), true), some (.lst ((X.map tp).reverse ++ [tp q]), true), some (oD sf, false), some (oD sg, false), some (oD [], false), some (.tup (U.map D.str), false), some (.tup (V.map D.str), false), some (.lst (sd.map tp), true), some (.lst es, false), some (.lst (fbL es), true), none, none]) (by simp [rl, rt, nfb])]
    exact ⟨_, by simp [ia2, isF]; rfl, rfl⟩
  obtain ⟨ρ, h1, h2⟩ := main
  have h3 : F_law [(.scr ns, false)] = match m_law [some (.scr ns, false), none, none, none, none, none, none, none, none, none, none, none, none, none, none, none, none, none, none] with
    | .ok .nx ρ' => .ok (.non, false) (outsF [0] ρ' 0 [(.scr ns, false)])
    | .ok (.rt s) ρ' => .ok s (outsF [0] ρ' 0 [(.scr ns, false)])
    | .exc c fs ρ' => .exc c fs (outsF [0] ρ' 0 [(.scr ns, false)])
    | _ => .stuck := rfl
  rw [h3, h1]
  simp [h2]
end K33

namespace K33
open PySem L2 PySem.Spec PyProof.Rows VS
theorem xt_1 : XTxt (inS (topS 2) 0) ["pair"] := ⟨⟨_, rfl, rfl⟩, .mk (.cons (by decide) .nil) rfl, fun _ _ _ _ _ _ _ _ us hl => match us, hl with | [_, _], _ => .of_eq rfl, by decide +kernel, rfl, rfl, rfl, rfl, rfl, by decide +kernel, by decide +kernel, by decide⟩
/-- what the top has left -/
theorem all_mk {l : PySem.W.OpenLaw} {w : World} {K : PySem.W.Frag} {h : Heap} {mg : Str → Option Value} {fa : Addr} (X : K.In h) (G : h.Ns mainGlobals mg) (hfa : mg "law" = some (.ref fa))
    {C0 : Addr}
    {C1 : Addr}
    {C2 : Addr}
    {C3 : Addr}
    {f0 : Addr} {od0 an0 : Option Addr} {sl0 : Array (Option Value)} {oc0 kV0 dc0 pm0 cd0 ct0 : Value}
    {f1 : Addr} {od1 an1 : Option Addr} {sl1 : Array (Option Value)} {oc1 kV1 dc1 pm1 cd1 ct1 : Value}
    {f2 : Addr} {od2 an2 : Option Addr} {sl2 : Array (Option Value)} {oc2 kV2 dc2 pm2 cd2 ct2 : Value}
    {f3 : Addr} {od3 an3 : Option Addr} {sl3 : Array (Option Value)} {oc3 kV3 dc3 pm3 cd3 ct3 : Value}
    {f4 : Addr} {od4 an4 : Option Addr} {sl4 : Array (Option Value)} {oc4 kV4 dc4 pm4 cd4 ct4 : Value}
    {ea1 : Addr} {eo1 : Option Addr} {en1 : Nat} {es1 : Array (Option Value)}
    {ea2 : Addr} {eo2 : Option Addr} {en2 : Nat} {es2 : Array (Option Value)}
    {f6 : Addr} {od6 an6 : Option Addr} {sl6 : Array (Option Value)} {oc6 kV6 dc6 pm6 cd6 ct6 : Value}
    {f7 : Addr} {od7 an7 : Option Addr} {sl7 : Array (Option Value)} {oc7 kV7 dc7 pm7 cd7 ct7 : Value}
    {f8 : Addr} {od8 an8 : Option Addr} {sl8 : Array (Option Value)} {oc8 kV8 dc8 pm8 cd8 ct8 : Value}
    {f9 : Addr} {od9 an9 : Option Addr} {sl9 : Array (Option Value)} {oc9 kV9 dc9 pm9 cd9 ct9 : Value}
    {f10 : Addr} {od10 an10 : Option Addr} {sl10 : Array (Option Value)} {oc10 kV10 dc10 pm10 cd10 ct10 : Value}
    {f11 : Addr} {od11 an11 : Option Addr} {sl11 : Array (Option Value)} {oc11 kV11 dc11 pm11 cd11 ct11 : Value}
    {f12 : Addr} {od12 an12 : Option Addr} {sl12 : Array (Option Value)} {oc12 kV12 dc12 pm12 cd12 ct12 : Value}
    {f13 : Addr} {od13 an13 : Option Addr} {sl13 : Array (Option Value)} {oc13 kV13 dc13 pm13 cd13 ct13 : Value}
    {f14 : Addr} {od14 an14 : Option Addr} {sl14 : Array (Option Value)} {oc14 kV14 dc14 pm14 cd14 ct14 : Value}
    {f15 : Addr} {od15 an15 : Option Addr} {sl15 : Array (Option Value)} {oc15 kV15 dc15 pm15 cd15 ct15 : Value}
    {f16 : Addr} {od16 an16 : Option Addr} {sl16 : Array (Option Value)} {oc16 kV16 dc16 pm16 cd16 ct16 : Value}
    {f17 : Addr} {od17 an17 : Option Addr} {sl17 : Array (Option Value)} {oc17 kV17 dc17 pm17 cd17 ct17 : Value}
    {f18 : Addr} {od18 an18 : Option Addr} {sl18 : Array (Option Value)} {oc18 kV18 dc18 pm18 cd18 ct18 : Value}
    {f19 : Addr} {od19 an19 : Option Addr} {sl19 : Array (Option Value)} {oc19 kV19 dc19 pm19 cd19 ct19 : Value}
    {sp19 : Addr} {sr19 : List Value}
    {f20 : Addr} {od20 an20 : Option Addr} {sl20 : Array (Option Value)} {oc20 kV20 dc20 pm20 cd20 ct20 : Value}
    {f21 : Addr} {od21 an21 : Option Addr} {sl21 : Array (Option Value)} {oc21 kV21 dc21 pm21 cd21 ct21 : Value}
    {f22 : Addr} {od22 an22 : Option Addr} {sl22 : Array (Option Value)} {oc22 kV22 dc22 pm22 cd22 ct22 : Value}
    {f23 : Addr} {od23 an23 : Option Addr} {sl23 : Array (Option Value)} {oc23 kV23 dc23 pm23 cd23 ct23 : Value}
    {f24 : Addr} {od24 an24 : Option Addr} {sl24 : Array (Option Value)} {oc24 kV24 dc24 pm24 cd24 ct24 : Value}
    {xnm1 xq1 : Str} {xN1 : Addr} {xbs1 xsub1 : List Value} {xsn1 : List Str} {xab1 : Bool} {xcol1 : Option Bool} {xdd1 : Option Addr} {xka1 xkb1 xkc1 xkd1 xke1 : Option Value}
    {xfi1 xcda1 xcc1 : Addr} {xod1 xan1 xcdd1 xcld1 : Option Addr} {xoc1 xdoc1 xpm1 xct1 xccl1 xcl1 : Value} {xosl1 xccs1 xcsl1 : Array (Option Value)} {xvs1 : Array Value} {xtf1 : Tok} {xfile1 xqn1 : Str}
    {ea3 : Addr} {eo3 : Option Addr} {en3 : Nat} {es3 : Array (Option Value)}
    {ek4 : Tok}
    {ek5 : Tok}
    {ek6 : Tok}
    {ek7 : Tok}
    {ek8 : Tok}
    {ea9 : Addr} {eo9 : Option Addr} {en9 : Nat} {es9 : Array (Option Value)}
    {ea10 : Addr} {eo10 : Option Addr} {en10 : Nat} {es10 : Array (Option Value)}
    {ek11 : Tok}
    {ek12 : Tok}
    {ea13 : Addr} {eo13 : Option Addr} {en13 : Nat} {es13 : Array (Option Value)}
    {ek14 : Tok}
    {ek15 : Tok}
    {ea16 : Addr} {eo16 : Option Addr} {en16 : Nat} {es16 : Array (Option Value)}
    {ek17 : Tok}
    {ek18 : Tok}
    {ea19 : Addr} {eo19 : Option Addr} {en19 : Nat} {es19 : Array (Option Value)}
    {ek20 : Tok}
    {ek21 : Tok}
    {ea22 : Addr} {eo22 : Option Addr} {en22 : Nat} {es22 : Array (Option Value)}
    {ek23 : Tok}
    {ek24 : Tok}
    {ea25 : Addr} {eo25 : Option Addr} {en25 : Nat} {es25 : Array (Option Value)}
    {ek26 : Tok}
    {ek27 : Tok}
    {ea28 : Addr} {eo28 : Option Addr} {en28 : Nat} {es28 : Array (Option Value)}
    {ek29 : Tok}
    {ek30 : Tok}
    {ea31 : Addr} {eo31 : Option Addr} {en31 : Nat} {es31 : Array (Option Value)}
    {ek32 : Tok}
    {ek33 : Tok}
    {ea34 : Addr} {eo34 : Option Addr} {en34 : Nat} {es34 : Array (Option Value)}
    {ek35 : Tok}
    {ek36 : Tok}
    {ea37 : Addr} {eo37 : Option Addr} {en37 : Nat} {es37 : Array (Option Value)}
    {ek38 : Tok}
    {ek39 : Tok}
    {ea40 : Addr} {eo40 : Option Addr} {en40 : Nat} {es40 : Array (Option Value)}
    {ek41 : Tok}
    {ek42 : Tok}
    {ea43 : Addr} {eo43 : Option Addr} {en43 : Nat} {es43 : Array (Option Value)}
    {ek44 : Tok}
    {ek45 : Tok}
    {ea46 : Addr} {eo46 : Option Addr} {en46 : Nat} {es46 : Array (Option Value)}
    {ek47 : Tok}
    {ek48 : Tok}
    {ea49 : Addr} {eo49 : Option Addr} {en49 : Nat} {es49 : Array (Option Value)}
    {ek50 : Tok}
    {ek51 : Tok}
    {ea52 : Addr} {eo52 : Option Addr} {en52 : Nat} {es52 : Array (Option Value)}
    {ek53 : Tok}
    {ek54 : Tok}
    {ea55 : Addr} {eo55 : Option Addr} {en55 : Nat} {es55 : Array (Option Value)}
    {ek56 : Tok}
    {ek57 : Tok}
    {ea58 : Addr} {eo58 : Option Addr} {en58 : Nat} {es58 : Array (Option Value)}
    {ek59 : Tok}
    {ek60 : Tok}
    {ea61 : Addr} {eo61 : Option Addr} {en61 : Nat} {es61 : Array (Option Value)}
    {ek62 : Tok}
    {ek63 : Tok}
    {ea64 : Addr} {eo64 : Option Addr} {en64 : Nat} {es64 : Array (Option Value)}
    {ek65 : Tok}
    {ek66 : Tok}
    {ea67 : Addr} {eo67 : Option Addr} {en67 : Nat} {es67 : Array (Option Value)}
    {ek68 : Tok}
    {ek69 : Tok}
    {ea70 : Addr} {eo70 : Option Addr} {en70 : Nat} {es70 : Array (Option Value)}
    {ek71 : Tok}
    {ek72 : Tok}
    {ea73 : Addr} {eo73 : Option Addr} {en73 : Nat} {es73 : Array (Option Value)}
    {ek74 : Tok}
    {ek75 : Tok}
    {ea76 : Addr} {eo76 : Option Addr} {en76 : Nat} {es76 : Array (Option Value)}
    {ek77 : Tok}
    {ek78 : Tok}
    {ea79 : Addr} {eo79 : Option Addr} {en79 : Nat} {es79 : Array (Option Value)}
    {ek80 : Tok}
    {ek81 : Tok}
    {ea82 : Addr} {eo82 : Option Addr} {en82 : Nat} {es82 : Array (Option Value)}
    {ek83 : Tok}
    {ek84 : Tok}
    {ea85 : Addr} {eo85 : Option Addr} {en85 : Nat} {es85 : Array (Option Value)}
    {ek86 : Tok}
    {ek87 : Tok}
    {ea88 : Addr} {eo88 : Option Addr} {en88 : Nat} {es88 : Array (Option Value)}
    {ek89 : Tok}
    {ek90 : Tok}
    {ea91 : Addr} {eo91 : Option Addr} {en91 : Nat} {es91 : Array (Option Value)}
    {ek92 : Tok}
    {ek93 : Tok}
    {ea94 : Addr} {eo94 : Option Addr} {en94 : Nat} {es94 : Array (Option Value)}
    {ek95 : Tok}
    {ek96 : Tok}
    (xm0 : PySem.W.nsIn K mainGlobals "CoreError" = some (some (.ref C0)))
    (xm1 : PySem.W.nsIn K mainGlobals "BadPair" = some (some (.ref C1)))
    (xm2 : PySem.W.nsIn K mainGlobals "BadFence" = some (some (.ref C2)))
    (xm3 : PySem.W.nsIn K mainGlobals "Pairs" = some (some (.ref C3)))
    (a0 : PySem.W.nsIn K mainGlobals "_law_great" = some (some (.ref f0)))
    (l0 : K.lookup f0 = some ⟨oc0, od0, .func (PySem.W.fnOf "_law_great" "_law_great" (defArgs s_l_great) (defBody s_l_great) (defScope s_l_great) .none kV0 dc0 pm0 an0 cd0 ct0), sl0⟩)
    (c0 : PySem.W.codeIn K cd0 "_law_great" = true)
    (k0 : PySem.W.keepIn K (.ref f0) = true)
    (a1 : PySem.W.nsIn K mainGlobals "_law_draw" = some (some (.ref f1)))
    (l1 : K.lookup f1 = some ⟨oc1, od1, .func (PySem.W.fnOf "_law_draw" "_law_draw" (defArgs s_l_draw) (defBody s_l_draw) (defScope s_l_draw) .none kV1 dc1 pm1 an1 cd1 ct1), sl1⟩)
    (c1 : PySem.W.codeIn K cd1 "_law_draw" = true)
    (k1 : PySem.W.keepIn K (.ref f1) = true)
    (a2 : PySem.W.nsIn K mainGlobals "_law_pairs" = some (some (.ref f2)))
    (l2 : K.lookup f2 = some ⟨oc2, od2, .func (PySem.W.fnOf "_law_pairs" "_law_pairs" (defArgs s_l_pairs) (defBody s_l_pairs) (defScope s_l_pairs) .none kV2 dc2 pm2 an2 cd2 ct2), sl2⟩)
    (c2 : PySem.W.codeIn K cd2 "_law_pairs" = true)
    (k2 : PySem.W.keepIn K (.ref f2) = true)
    (a3 : PySem.W.nsIn K mainGlobals "_law_items" = some (some (.ref f3)))
    (l3 : K.lookup f3 = some ⟨oc3, od3, .func (PySem.W.fnOf "_law_items" "_law_items" (defArgs s_l_items) (defBody s_l_items) (defScope s_l_items) .none kV3 dc3 pm3 an3 cd3 ct3), sl3⟩)
    (c3 : PySem.W.codeIn K cd3 "_law_items" = true)
    (k3 : PySem.W.keepIn K (.ref f3) = true)
    (a4 : PySem.W.findIn K (.ref C3) "__init__" = some (some (.ref f4)))
    (l4 : K.lookup f4 = some ⟨oc4, od4, .func (PySem.W.fnOf "__init__" "Pairs.__init__" (defArgs s_p_Pairs___init__) (defBody s_p_Pairs___init__) (defScope s_p_Pairs___init__) (.ref ea1) kV4 dc4 pm4 an4 cd4 ct4), sl4⟩)
    (el1 : K.lookup ea1 = some ⟨.type "tuple", eo1, .seq #[(.ref ea2)] en1, es1⟩)
    (el2 : K.lookup ea2 = some ⟨.type "tuple", eo2, .seq #[] en2, es2⟩)
    (c4 : PySem.W.codeIn K cd4 "Pairs.__init__" = true)
    (k4 : PySem.W.keepIn K (.ref f4) = true)
    (mk4 : PySem.W.makesIn K C3 = true)
    (n4 : PySem.W.isFn K (.ref f4) = true)
    (kc4 : PySem.W.keepIn K (.ref C3) = true)
    (a6 : PySem.W.findIn K (.ref C3) "__contains__" = some (some (.ref f6)))
    (l6 : K.lookup f6 = some ⟨oc6, od6, .func (PySem.W.fnOf "__contains__" "Pairs.__contains__" (defArgs s_p_Pairs___contains__) (defBody s_p_Pairs___contains__) (defScope s_p_Pairs___contains__) .none kV6 dc6 pm6 an6 cd6 ct6), sl6⟩)
    (c6 : PySem.W.codeIn K cd6 "Pairs.__contains__" = true)
    (k6 : PySem.W.keepIn K (.ref f6) = true)
    (n6 : PySem.W.isFn K (.ref f6) = true)
    (i6 : PySem.W.fnIn K f6 = true)
    (a7 : PySem.W.findIn K (.ref C3) "__and__" = some (some (.ref f7)))
    (l7 : K.lookup f7 = some ⟨oc7, od7, .func (PySem.W.fnOf "__and__" "Pairs.__and__" (defArgs s_p_Pairs___and__) (defBody s_p_Pairs___and__) (defScope s_p_Pairs___and__) .none kV7 dc7 pm7 an7 cd7 ct7), sl7⟩)
    (c7 : PySem.W.codeIn K cd7 "Pairs.__and__" = true)
    (k7 : PySem.W.keepIn K (.ref f7) = true)
    (n7 : PySem.W.isFn K (.ref f7) = true)
    (i7 : PySem.W.fnIn K f7 = true)
    (a8 : PySem.W.findIn K (.ref C3) "__or__" = some (some (.ref f8)))
    (l8 : K.lookup f8 = some ⟨oc8, od8, .func (PySem.W.fnOf "__or__" "Pairs.__or__" (defArgs s_p_Pairs___or__) (defBody s_p_Pairs___or__) (defScope s_p_Pairs___or__) .none kV8 dc8 pm8 an8 cd8 ct8), sl8⟩)
    (c8 : PySem.W.codeIn K cd8 "Pairs.__or__" = true)
    (k8 : PySem.W.keepIn K (.ref f8) = true)
    (n8 : PySem.W.isFn K (.ref f8) = true)
    (i8 : PySem.W.fnIn K f8 = true)
    (a9 : PySem.W.findIn K (.ref C3) "__sub__" = some (some (.ref f9)))
    (l9 : K.lookup f9 = some ⟨oc9, od9, .func (PySem.W.fnOf "__sub__" "Pairs.__sub__" (defArgs s_p_Pairs___sub__) (defBody s_p_Pairs___sub__) (defScope s_p_Pairs___sub__) .none kV9 dc9 pm9 an9 cd9 ct9), sl9⟩)
    (c9 : PySem.W.codeIn K cd9 "Pairs.__sub__" = true)
    (k9 : PySem.W.keepIn K (.ref f9) = true)
    (n9 : PySem.W.isFn K (.ref f9) = true)
    (i9 : PySem.W.fnIn K f9 = true)
    (a10 : PySem.W.findIn K (.ref C3) "__len__" = some (some (.ref f10)))
    (l10 : K.lookup f10 = some ⟨oc10, od10, .func (PySem.W.fnOf "__len__" "Pairs.__len__" (defArgs s_p_Pairs___len__) (defBody s_p_Pairs___len__) (defScope s_p_Pairs___len__) .none kV10 dc10 pm10 an10 cd10 ct10), sl10⟩)
    (c10 : PySem.W.codeIn K cd10 "Pairs.__len__" = true)
    (k10 : PySem.W.keepIn K (.ref f10) = true)
    (n10 : PySem.W.isFn K (.ref f10) = true)
    (i10 : PySem.W.fnIn K f10 = true)
    (a11 : PySem.W.findIn K (.ref C3) "__iter__" = some (some (.ref f11)))
    (l11 : K.lookup f11 = some ⟨oc11, od11, .func (PySem.W.fnOf "__iter__" "Pairs.__iter__" (defArgs s_iter_Pairs) (defBody s_iter_Pairs) (defScope s_iter_Pairs) .none kV11 dc11 pm11 an11 cd11 ct11), sl11⟩)
    (c11 : PySem.W.codeIn K cd11 "Pairs.__iter__" = true)
    (k11 : PySem.W.keepIn K (.ref f11) = true)
    (n11 : PySem.W.isFn K (.ref f11) = true)
    (a12 : PySem.W.findIn K (.ref C3) "__len__" = some (some (.ref f12)))
    (l12 : K.lookup f12 = some ⟨oc12, od12, .func (PySem.W.fnOf "__len__" "Pairs.__len__" (defArgs s_lnl_Pairs) (defBody s_lnl_Pairs) (defScope s_lnl_Pairs) .none kV12 dc12 pm12 an12 cd12 ct12), sl12⟩)
    (c12 : PySem.W.codeIn K cd12 "Pairs.__len__" = true)
    (k12 : PySem.W.keepIn K (.ref f12) = true)
    (n12 : PySem.W.isFn K (.ref f12) = true)
    (a13 : PySem.W.nsIn K mainGlobals "_law_is_set" = some (some (.ref f13)))
    (l13 : K.lookup f13 = some ⟨oc13, od13, .func (PySem.W.fnOf "_law_is_set" "_law_is_set" (defArgs s_l_is_set) (defBody s_l_is_set) (defScope s_l_is_set) .none kV13 dc13 pm13 an13 cd13 ct13), sl13⟩)
    (c13 : PySem.W.codeIn K cd13 "_law_is_set" = true)
    (k13 : PySem.W.keepIn K (.ref f13) = true)
    (a14 : PySem.W.nsIn K mainGlobals "_law_made" = some (some (.ref f14)))
    (l14 : K.lookup f14 = some ⟨oc14, od14, .func (PySem.W.fnOf "_law_made" "_law_made" (defArgs s_l_made) (defBody s_l_made) (defScope s_l_made) .none kV14 dc14 pm14 an14 cd14 ct14), sl14⟩)
    (c14 : PySem.W.codeIn K cd14 "_law_made" = true)
    (k14 : PySem.W.keepIn K (.ref f14) = true)
    (a15 : PySem.W.findIn K (.ref C3) "within" = some (some (.ref f15)))
    (l15 : K.lookup f15 = some ⟨oc15, od15, .func (PySem.W.fnOf "within" "Pairs.within" (defArgs s_p_Pairs_within) (defBody s_p_Pairs_within) (defScope s_p_Pairs_within) .none kV15 dc15 pm15 an15 cd15 ct15), sl15⟩)
    (c15 : PySem.W.codeIn K cd15 "Pairs.within" = true)
    (k15 : PySem.W.keepIn K (.ref f15) = true)
    (n15 : PySem.W.isFn K (.ref f15) = true)
    (i15 : PySem.W.fnIn K f15 = true)
    (a16 : PySem.W.nsIn K mainGlobals "_law_says" = some (some (.ref f16)))
    (l16 : K.lookup f16 = some ⟨oc16, od16, .func (PySem.W.fnOf "_law_says" "_law_says" (defArgs s_l_says) (defBody s_l_says) (defScope s_l_says) .none kV16 dc16 pm16 an16 cd16 ct16), sl16⟩)
    (c16 : PySem.W.codeIn K cd16 "_law_says" = true)
    (k16 : PySem.W.keepIn K (.ref f16) = true)
    (a17 : PySem.W.nsIn K mainGlobals "_law_within" = some (some (.ref f17)))
    (l17 : K.lookup f17 = some ⟨oc17, od17, .func (PySem.W.fnOf "_law_within" "_law_within" (defArgs s_l_within) (defBody s_l_within) (defScope s_l_within) .none kV17 dc17 pm17 an17 cd17 ct17), sl17⟩)
    (c17 : PySem.W.codeIn K cd17 "_law_within" = true)
    (k17 : PySem.W.keepIn K (.ref f17) = true)
    (a18 : PySem.W.nsIn K mainGlobals "_law_words" = some (some (.ref f18)))
    (l18 : K.lookup f18 = some ⟨oc18, od18, .func (PySem.W.fnOf "_law_words" "_law_words" (defArgs s_l_words) (defBody s_l_words) (defScope s_l_words) .none kV18 dc18 pm18 an18 cd18 ct18), sl18⟩)
    (c18 : PySem.W.codeIn K cd18 "_law_words" = true)
    (k18 : PySem.W.keepIn K (.ref f18) = true)
    (sa19 : PySem.W.findCls K (.ref C3) (.type "type") "between" = some (.get (.builtin "staticmethod.__get__") (.ref sp19) .none (.ref C3)))
    (sd19 : PySem.W.readsIn K C3 (.type "type") = true)
    (sg19 : PySem.W.specialIn K (.ref C3) "__getattribute__" = some (some (.builtin "type.__getattribute__")))
    (sc19 : PySem.W.recIn K sp19 "staticmethod" = some (.ref f19 :: sr19))
    (l19 : K.lookup f19 = some ⟨oc19, od19, .func (PySem.W.fnOf "between" "Pairs.between" (defArgs s_p_Pairs_between) (defBody s_p_Pairs_between) (defScope s_p_Pairs_between) .none kV19 dc19 pm19 an19 cd19 ct19), sl19⟩)
    (c19 : PySem.W.codeIn K cd19 "Pairs.between" = true)
    (k19 : PySem.W.keepIn K (.ref f19) = true)
    (a20 : PySem.W.nsIn K mainGlobals "_law_odd" = some (some (.ref f20)))
    (l20 : K.lookup f20 = some ⟨oc20, od20, .func (PySem.W.fnOf "_law_odd" "_law_odd" (defArgs s_l_odd) (defBody s_l_odd) (defScope s_l_odd) .none kV20 dc20 pm20 an20 cd20 ct20), sl20⟩)
    (c20 : PySem.W.codeIn K cd20 "_law_odd" = true)
    (k20 : PySem.W.keepIn K (.ref f20) = true)
    (a21 : PySem.W.nsIn K mainGlobals "_law_spoilt" = some (some (.ref f21)))
    (l21 : K.lookup f21 = some ⟨oc21, od21, .func (PySem.W.fnOf "_law_spoilt" "_law_spoilt" (defArgs s_l_spoilt) (defBody s_l_spoilt) (defScope s_l_spoilt) .none kV21 dc21 pm21 an21 cd21 ct21), sl21⟩)
    (c21 : PySem.W.codeIn K cd21 "_law_spoilt" = true)
    (k21 : PySem.W.keepIn K (.ref f21) = true)
    (a22 : PySem.W.nsIn K mainGlobals "_law_first_bad" = some (some (.ref f22)))
    (l22 : K.lookup f22 = some ⟨oc22, od22, .func (PySem.W.fnOf "_law_first_bad" "_law_first_bad" (defArgs s_l_first_bad) (defBody s_l_first_bad) (defScope s_l_first_bad) .none kV22 dc22 pm22 an22 cd22 ct22), sl22⟩)
    (c22 : PySem.W.codeIn K cd22 "_law_first_bad" = true)
    (k22 : PySem.W.keepIn K (.ref f22) = true)
    (a23 : PySem.W.nsIn K mainGlobals "_law_refusal" = some (some (.ref f23)))
    (l23 : K.lookup f23 = some ⟨oc23, od23, .func (PySem.W.fnOf "_law_refusal" "_law_refusal" (defArgs s_l_refusal) (defBody s_l_refusal) (defScope s_l_refusal) .none kV23 dc23 pm23 an23 cd23 ct23), sl23⟩)
    (c23 : PySem.W.codeIn K cd23 "_law_refusal" = true)
    (k23 : PySem.W.keepIn K (.ref f23) = true)
    (a24 : PySem.W.nsIn K mainGlobals "law" = some (some (.ref f24)))
    (l24 : K.lookup f24 = some ⟨oc24, od24, .func (PySem.W.fnOf "law" "law" (defArgs s_law) (defBody s_law) (defScope s_law) .none kV24 dc24 pm24 an24 cd24 ct24), sl24⟩)
    (c24 : PySem.W.codeIn K cd24 "law" = true)
    (k24 : PySem.W.keepIn K (.ref f24) = true)
    (opg3 : PySem.W.plainGet K C3 Str.empty = true)
    (ohd3 : PySem.W.hasDictIn K C3 = true)
    (opo3 : PySem.W.plainOver K C3 = true)
    (osa3 : PySem.W.findIn K (.ref C3) "__setattr__" = some (some (.builtin "object.__setattr__")))
    (osf3 : PySem.W.selfFirst K C3 = true)
    (onf3_own_rows : PySem.W.findIn K (.ref C3) "own_rows" = some none)
    (ocn3 : PySem.W.findIn K (.ref C3) "__class__" = some (some (.builtin "object.__class__")))
    (oob3 : PySem.W.mroIn K C3 (.type "object") = some true)
    (oki3_3 : PySem.W.kitOne K (.ref C3) (.ref C3) = some true)
    (z0 : PySem.W.nsIn K mainGlobals "ValueError" = some none)
    (z1 : PySem.W.nsIn K mainGlobals "int" = some none)
    (z2 : PySem.W.nsIn K mainGlobals "isinstance" = some none)
    (z3 : PySem.W.nsIn K mainGlobals "iter" = some none)
    (z4 : PySem.W.nsIn K mainGlobals "len" = some none)
    (z5 : PySem.W.nsIn K mainGlobals "list" = some none)
    (z6 : PySem.W.nsIn K mainGlobals "range" = some none)
    (z7 : PySem.W.nsIn K mainGlobals "tuple" = some none)
    (xsu : PySem.W.nsIn K mainGlobals "super" = some none)
    (xl1 : K.lookup C1 = some (PySem.excClassObj xnm1 xq1 C1 xN1 xbs1 (.ref C0 :: PySem.HandSPX.veTail) true xsn1 xsub1 xab1 xcol1 xdd1 xka1 xkb1 xkc1 xkd1 xke1 "ValueError.__new__"))
    (xex1 : PySem.W.subIn K (.ref C1) (.type "BaseException") = some true)
    (xsa1 : PySem.W.findIn K (.ref C1) "__setattr__" = some (some (.builtin "object.__setattr__")))
    (xic1 : PySem.W.findIn K (.ref C1) "__init__" = some (some (.ref xfi1)))
    (xtc1 : PySem.W.typeIn K (.ref xfi1) = some (.type "function"))
    (xkp1 : PySem.W.keepIn K (.ref C1) = true)
    (xty1 : PySem.W.typeIn K (.ref C1) = some (.type "type"))
    (xnf1_pair : PySem.W.findIn K (.ref C1) "pair" = some none)
    (xsp1 : PySem.W.ks_superIn K C1 C1 "__init__" = some (some (.builtin "ValueError.__init__")))
    (xow1 : PySem.W.mroIn K C1 (.ref C1) = some true)
    (xve1 : PySem.W.subIn K (.ref C1) (.type "ValueError") = some true)
    (xli1 : K.lookup xfi1 = some ⟨xoc1, xod1, .func (PySem.W.ksFn "__init__" xqn1 (defArgs (inS (topS 2) 0)) (defBody (inS (topS 2) 0)) (defScope (inS (topS 2) 0)) .none .none xdoc1 xpm1 xan1 (.ref xcda1) xct1 xcc1), xosl1⟩)
    (xci1 : PySem.W.codeIn K (.ref xcda1) xqn1 = true)
    (xdi1 : K.lookup xcda1 = some ⟨xccl1, xcdd1, .fields xvs1, xccs1⟩)
    (xvi1 : xvs1[2]? = some (.str xfile1 xtf1))
    (xgi1 : ((l.prog.main.file : Str) == xfile1) = true)
    (xei1 : K.lookup xcc1 = some ⟨xcl1, xcld1, .cell (some (.ref C1)), xcsl1⟩)
    (xop : PySem.W.nsIn K cStatics "thirdparty.any" = some none)
    (xtp : (l.prog.main.scope.names.lookup ("super" : Str)).isSome = false)
    (xgd : PySem.W.specialIn K (.builtin "object.__class__") "__get__" = some (some (.builtin "getset_descriptor.__get__")))
    (xtd : PySem.W.takesIn K (.builtin "object.__class__") = some true)
    (xga1 : PySem.W.findIn K (.ref C1) "__getattribute__" = some (some (.builtin "BaseException.__getattribute__")))
    (xgg1 : PySem.W.findIn K (.ref C1) "__getattr__" = some none)
    (xcn1 : PySem.W.findIn K (.ref C1) "__class__" = some (some (.builtin "object.__class__")))
    (xob1 : PySem.W.mroIn K C1 (.type "object") = some true)
    (xhd1 : PySem.W.hasDictIn K C1 = true)
    (xf1_pair : PySem.W.findIn K (.ref C1) "pair" = some none)
    (xe1_0 : PySem.W.exmOne K (.ref C1) (.ref C0) = some true)
    (xk1_ValueError : PySem.W.kitOne K (.ref C1) (.type "ValueError") = some true)
    (xk1_1 : PySem.W.kitOne K (.ref C1) (.ref C1) = some true)
    (xk1_2 : PySem.W.kitOne K (.ref C1) (.ref C2) = some false)
    (xc_KINDS : PySem.W.nsIn K mainGlobals "KINDS" = some (some (.ref ea3)))
    (el3 : K.lookup ea3 = some ⟨.type "tuple", eo3, .seq #[(.str "read" ek4), (.str "acquire" ek5), (.str "write" ek6), (.str "release" ek7), (.str "both" ek8)] en3, es3⟩)
    (xc_PAIRS : PySem.W.nsIn K mainGlobals "PAIRS" = some (some (.ref ea9)))
    (el9 : K.lookup ea9 = some ⟨.type "tuple", eo9, .seq #[(.ref ea10), (.ref ea13), (.ref ea16), (.ref ea19), (.ref ea22), (.ref ea25), (.ref ea28), (.ref ea31), (.ref ea34), (.ref ea37), (.ref ea40), (.ref ea43), (.ref ea46), (.ref ea49), (.ref ea52), (.ref ea55), (.ref ea58), (.ref ea61), (.ref ea64), (.ref ea67), (.ref ea70), (.ref ea73), (.ref ea76), (.ref ea79), (.ref ea82), (.ref ea85), (.ref ea88)] en9, es9⟩)
    (el10 : K.lookup ea10 = some ⟨.type "tuple", eo10, .seq #[(.str "read" ek11), (.str "read" ek12)] en10, es10⟩)
    (el13 : K.lookup ea13 = some ⟨.type "tuple", eo13, .seq #[(.str "read" ek14), (.str "acquire" ek15)] en13, es13⟩)
    (el16 : K.lookup ea16 = some ⟨.type "tuple", eo16, .seq #[(.str "read" ek17), (.str "write" ek18)] en16, es16⟩)
    (el19 : K.lookup ea19 = some ⟨.type "tuple", eo19, .seq #[(.str "read" ek20), (.str "release" ek21)] en19, es19⟩)
    (el22 : K.lookup ea22 = some ⟨.type "tuple", eo22, .seq #[(.str "read" ek23), (.str "both" ek24)] en22, es22⟩)
    (el25 : K.lookup ea25 = some ⟨.type "tuple", eo25, .seq #[(.str "acquire" ek26), (.str "read" ek27)] en25, es25⟩)
    (el28 : K.lookup ea28 = some ⟨.type "tuple", eo28, .seq #[(.str "acquire" ek29), (.str "acquire" ek30)] en28, es28⟩)
    (el31 : K.lookup ea31 = some ⟨.type "tuple", eo31, .seq #[(.str "acquire" ek32), (.str "write" ek33)] en31, es31⟩)
    (el34 : K.lookup ea34 = some ⟨.type "tuple", eo34, .seq #[(.str "acquire" ek35), (.str "release" ek36)] en34, es34⟩)
    (el37 : K.lookup ea37 = some ⟨.type "tuple", eo37, .seq #[(.str "acquire" ek38), (.str "both" ek39)] en37, es37⟩)
    (el40 : K.lookup ea40 = some ⟨.type "tuple", eo40, .seq #[(.str "write" ek41), (.str "read" ek42)] en40, es40⟩)
    (el43 : K.lookup ea43 = some ⟨.type "tuple", eo43, .seq #[(.str "write" ek44), (.str "acquire" ek45)] en43, es43⟩)
    (el46 : K.lookup ea46 = some ⟨.type "tuple", eo46, .seq #[(.str "write" ek47), (.str "write" ek48)] en46, es46⟩)
    (el49 : K.lookup ea49 = some ⟨.type "tuple", eo49, .seq #[(.str "write" ek50), (.str "release" ek51)] en49, es49⟩)
    (el52 : K.lookup ea52 = some ⟨.type "tuple", eo52, .seq #[(.str "write" ek53), (.str "both" ek54)] en52, es52⟩)
    (el55 : K.lookup ea55 = some ⟨.type "tuple", eo55, .seq #[(.str "write" ek56), (.str "return" ek57)] en55, es55⟩)
    (el58 : K.lookup ea58 = some ⟨.type "tuple", eo58, .seq #[(.str "release" ek59), (.str "read" ek60)] en58, es58⟩)
    (el61 : K.lookup ea61 = some ⟨.type "tuple", eo61, .seq #[(.str "release" ek62), (.str "acquire" ek63)] en61, es61⟩)
    (el64 : K.lookup ea64 = some ⟨.type "tuple", eo64, .seq #[(.str "release" ek65), (.str "write" ek66)] en64, es64⟩)
    (el67 : K.lookup ea67 = some ⟨.type "tuple", eo67, .seq #[(.str "release" ek68), (.str "release" ek69)] en67, es67⟩)
    (el70 : K.lookup ea70 = some ⟨.type "tuple", eo70, .seq #[(.str "release" ek71), (.str "both" ek72)] en70, es70⟩)
    (el73 : K.lookup ea73 = some ⟨.type "tuple", eo73, .seq #[(.str "release" ek74), (.str "return" ek75)] en73, es73⟩)
    (el76 : K.lookup ea76 = some ⟨.type "tuple", eo76, .seq #[(.str "both" ek77), (.str "read" ek78)] en76, es76⟩)
    (el79 : K.lookup ea79 = some ⟨.type "tuple", eo79, .seq #[(.str "both" ek80), (.str "acquire" ek81)] en79, es79⟩)
    (el82 : K.lookup ea82 = some ⟨.type "tuple", eo82, .seq #[(.str "both" ek83), (.str "write" ek84)] en82, es82⟩)
    (el85 : K.lookup ea85 = some ⟨.type "tuple", eo85, .seq #[(.str "both" ek86), (.str "release" ek87)] en85, es85⟩)
    (el88 : K.lookup ea88 = some ⟨.type "tuple", eo88, .seq #[(.str "both" ek89), (.str "both" ek90)] en88, es88⟩)
    (xc_READS : PySem.W.nsIn K mainGlobals "READS" = some (some (.ref ea91)))
    (el91 : K.lookup ea91 = some ⟨.type "tuple", eo91, .seq #[(.str "read" ek92), (.str "acquire" ek93)] en91, es91⟩)
    (xc_WRITES : PySem.W.nsIn K mainGlobals "WRITES" = some (some (.ref ea94)))
    (el94 : K.lookup ea94 = some ⟨.type "tuple", eo94, .seq #[(.str "write" ek95), (.str "release" ek96)] en94, es94⟩)
    : ∃ fd : FuncData, (∀ (s : Shared) (v : Value), BindsTo s fd ⟨[v], []⟩ [("_law_script", v)]) ∧ ∃ ct : Cn, ∀ base : Heap, K.In base → base.Ns mainGlobals mg → FnOk l.prog w K mg base (L2.CX l.prog w) 7 fa fd ["_law_script"] (spD ⟨K, ct⟩ F_law 1) := by
  have e := hfa.symm.trans (PySem.W.mg_of X G a24)
  cases e
  have T : Tx mg := ⟨PySem.W.mg_none_of X G z0, PySem.W.mg_none_of X G z1, PySem.W.mg_none_of X G z2, PySem.W.mg_none_of X G z3, PySem.W.mg_none_of X G z4, PySem.W.mg_none_of X G z5, PySem.W.mg_none_of X G z6, PySem.W.mg_none_of X G z7⟩
  have XC : Xc l.prog K mg (ctOf [C0, C1, C2, C3]) (ctOf [0, xfi1, 0, 0]) := { ok := True.intro, su := PySem.W.mg_none_of X G xsu, m_0 := PySem.W.mg_of X G xm0, m_1 := PySem.W.mg_of X G xm1, m_2 := PySem.W.mg_of X G xm2, m_3 := PySem.W.mg_of X G xm3, x_1 := xcls_mk xt_1 xl1 xsa1 xic1 xtc1 xkp1 xex1 xty1 (all_cons xnf1_pair all_nil) xsp1 xop xow1 xve1 xtp xli1 xci1 xdi1 xvi1 xgi1 xei1, e_1_0 := xe1_0, t_1 := xty_mk xl1 xga1 xgg1 xex1 xcn1 xgd xtd xob1 xhd1, f_1_pair := xf1_pair, k_1_ValueError := xk1_ValueError, k_1_1 := xk1_1, k_1_2 := xk1_2, c_KINDS := ⟨_, PySem.W.mg_of X G xc_KINDS, fun cn => (kr_tup (vs := [(.str "read"), (.str "acquire"), (.str "write"), (.str "release"), (.str "both")]) el3 rfl rfl (by rw [sizeLine_eq]; show 5 ≤ 16777216; decide) (.cons ⟨_, rfl⟩ (.cons ⟨_, rfl⟩ (.cons ⟨_, rfl⟩ (.cons ⟨_, rfl⟩ (.cons ⟨_, rfl⟩ .nil))))) (.cons (kr_str "read" (by decide +kernel)) (.cons (kr_str "acquire" (by decide +kernel)) (.cons (kr_str "write" (by decide +kernel)) (.cons (kr_str "release" (by decide +kernel)) (.cons (kr_str "both" (by decide +kernel)) .nil))))))⟩, c_PAIRS := ⟨_, PySem.W.mg_of X G xc_PAIRS, fun cn => (kr_tup (vs := [(.ref ea10), (.ref ea13), (.ref ea16), (.ref ea19), (.ref ea22), (.ref ea25), (.ref ea28), (.ref ea31), (.ref ea34), (.ref ea37), (.ref ea40), (.ref ea43), (.ref ea46), (.ref ea49), (.ref ea52), (.ref ea55), (.ref ea58), (.ref ea61), (.ref ea64), (.ref ea67), (.ref ea70), (.ref ea73), (.ref ea76), (.ref ea79), (.ref ea82), (.ref ea85), (.ref ea88)]) el9 rfl rfl (by rw [sizeLine_eq]; show 27 ≤ 16777216; decide) (.cons rfl (.cons rfl (.cons rfl (.cons rfl (.cons rfl (.cons rfl (.cons rfl (.cons rfl (.cons rfl (.cons rfl (.cons rfl (.cons rfl (.cons rfl (.cons rfl (.cons rfl (.cons rfl (.cons rfl (.cons rfl (.cons rfl (.cons rfl (.cons rfl (.cons rfl (.cons rfl (.cons rfl (.cons rfl (.cons rfl (.cons rfl .nil))))))))))))))))))))))))))) (.cons (kr_tup (vs := [(.str "read"), (.str "read")]) el10 rfl rfl (by rw [sizeLine_eq]; show 2 ≤ 16777216; decide) (.cons ⟨_, rfl⟩ (.cons ⟨_, rfl⟩ .nil)) (.cons (kr_str "read" (by decide +kernel)) (.cons (kr_str "read" (by decide +kernel)) .nil))) (.cons (kr_tup (vs := [(.str "read"), (.str "acquire")]) el13 rfl rfl (by rw [sizeLine_eq]; show 2 ≤ 16777216; decide) (.cons ⟨_, rfl⟩ (.cons ⟨_, rfl⟩ .nil)) (.cons (kr_str "read" (by decide +kernel)) (.cons (kr_str "acquire" (by decide +kernel)) .nil))) (.cons (kr_tup (vs := [(.str "read"), (.str "write")]) el16 rfl rfl (by rw [sizeLine_eq]; show 2 ≤ 16777216; decide) (.cons ⟨_, rfl⟩ (.cons ⟨_, rfl⟩ .nil)) (.cons (kr_str "read" (by decide +kernel)) (.cons (kr_str "write" (by decide +kernel)) .nil))) (.cons (kr_tup (vs := [(.str "read"), (.str "release")]) el19 rfl rfl (by rw [sizeLine_eq]; show 2 ≤ 16777216; decide) (.cons ⟨_, rfl⟩ (.cons ⟨_, rfl⟩ .nil)) (.cons (kr_str "read" (by decide +kernel)) (.cons (kr_str "release" (by decide +kernel)) .nil))) (.cons (kr_tup (vs := [(.str "read"), (.str "both")]) el22 rfl rfl (by rw [sizeLine_eq]; show 2 ≤ 16777216; decide) (.cons ⟨_, rfl⟩ (.cons ⟨_, rfl⟩ .nil)) (.cons (kr_str "read" (by decide +kernel)) (.cons (kr_str "both" (by decide +kernel)) .nil))) (.cons (kr_tup (vs := [(.str "acquire"), (.str "read")]) el25 rfl rfl (by rw [sizeLine_eq]; show 2 ≤ 16777216; decide) (.cons ⟨_, rfl⟩ (.cons ⟨_, rfl⟩ .nil)) (.cons (kr_str "acquire" (by decide +kernel)) (.cons (kr_str "read" (by decide +kernel)) .nil))) (.cons (kr_tup (vs := [(.str "acquire"), (.str "acquire")]) el28 rfl rfl (by rw [sizeLine_eq]; show 2 ≤ 16777216; decide) (.cons ⟨_, rfl⟩ (.cons ⟨_, rfl⟩ .nil)) (.cons (kr_str "acquire" (by decide +kernel)) (.cons (kr_str "acquire" (by decide +kernel)) .nil))) (.cons (kr_tup (vs := [(.str "acquire"), (.str "write")]) el31 rfl rfl (by rw [sizeLine_eq]; show 2 ≤ 16777216; decide) (.cons ⟨_, rfl⟩ (.cons ⟨_, rfl⟩ .nil)) (.cons (kr_str "acquire" (by decide +kernel)) (.cons (kr_str "write" (by decide +kernel)) .nil))) (.cons (kr_tup (vs := [(.str "acquire"), (.str "release")]) el34 rfl rfl (by rw [sizeLine_eq]; show 2 ≤ 16777216; decide) (.cons ⟨_, rfl⟩ (.cons ⟨_, rfl⟩ .nil)) (.cons (kr_str "acquire" (by decide +kernel)) (.cons (kr_str "release" (by decide +kernel)) .nil))) (.cons (kr_tup (vs := [(.str "acquire"), (.str "both")]) el37 rfl rfl (by rw [sizeLine_eq]; show 2 ≤ 16777216; decide) (.cons ⟨_, rfl⟩ (.cons ⟨_, rfl⟩ .nil)) (.cons (kr_str "acquire" (by decide +kernel)) (.cons (kr_str "both" (by decide +kernel)) .nil))) (.cons (kr_tup (vs := [(.str "write"), (.str "read")]) el40 rfl rfl (by rw [sizeLine_eq]; show 2 ≤ 16777216; decide) (.cons ⟨_, rfl⟩ (.cons ⟨_, rfl⟩ .nil)) (.cons (kr_str "write" (by decide +kernel)) (.cons (kr_str "read" (by decide +kernel)) .nil))) (.cons (kr_tup (vs := [(.str "write"), (.str "acquire")]) el43 rfl rfl (by rw [sizeLine_eq]; show 2 ≤ 16777216; decide) (.cons ⟨_, rfl⟩ (.cons ⟨_, rfl⟩ .nil)) (.cons (kr_str "write" (by decide +kernel)) (.cons (kr_str "acquire" (by decide +kernel)) .nil))) (.cons (kr_tup (vs := [(.str "write"), (.str "write")]) el46 rfl rfl (by rw [sizeLine_eq]; show 2 ≤ 16777216; decide) (.cons ⟨_, rfl⟩ (.cons ⟨_, rfl⟩ .nil)) (.cons (kr_str "write" (by decide +kernel)) (.cons (kr_str "write" (by decide +kernel)) .nil))) (.cons (kr_tup (vs := [(.str "write"), (.str "release")]) el49 rfl rfl (by rw [sizeLine_eq]; show 2 ≤ 16777216; decide) (.cons ⟨_, rfl⟩ (.cons ⟨_, rfl⟩ .nil)) (.cons (kr_str "write" (by decide +kernel)) (.cons (kr_str "release" (by decide +kernel)) .nil))) (.cons (kr_tup (vs := [(.str "write"), (.str "both")]) el52 rfl rfl (by rw [sizeLine_eq]; show 2 ≤ 16777216; decide) (.cons ⟨_, rfl⟩ (.cons ⟨_, rfl⟩ .nil)) (.cons (kr_str "write" (by decide +kernel)) (.cons (kr_str "both" (by decide +kernel)) .nil))) (.cons (kr_tup (vs := [(.str "write"), (.str "return")]) el55 rfl rfl (by rw [sizeLine_eq]; show 2 ≤ 16777216; decide) (.cons ⟨_, rfl⟩ (.cons ⟨_, rfl⟩ .nil)) (.cons (kr_str "write" (by decide +kernel)) (.cons (kr_str "return" (by decide +kernel)) .nil))) (.cons (kr_tup (vs := [(.str "release"), (.str "read")]) el58 rfl rfl (by rw [sizeLine_eq]; show 2 ≤ 16777216; decide) (.cons ⟨_, rfl⟩ (.cons ⟨_, rfl⟩ .nil)) (.cons (kr_str "release" (by decide +kernel)) (.cons (kr_str "read" (by decide +kernel)) .nil))) (.cons (kr_tup (vs := [(.str "release"), (.str "acquire")]) el61 rfl rfl (by rw [sizeLine_eq]; show 2 ≤ 16777216; decide) (.cons ⟨_, rfl⟩ (.cons ⟨_, rfl⟩ .nil)) (.cons (kr_str "release" (by decide +kernel)) (.cons (kr_str "acquire" (by decide +kernel)) .nil))) (.cons (kr_tup (vs := [(.str "release"), (.str "write")]) el64 rfl rfl (by rw [sizeLine_eq]; show 2 ≤ 16777216; decide) (.cons ⟨_, rfl⟩ (.cons ⟨_, rfl⟩ .nil)) (.cons (kr_str "release" (by decide +kernel)) (.cons (kr_str "write" (by decide +kernel)) .nil))) (.cons (kr_tup (vs := [(.str "release"), (.str "release")]) el67 rfl rfl (by rw [sizeLine_eq]; show 2 ≤ 16777216; decide) (.cons ⟨_, rfl⟩ (.cons ⟨_, rfl⟩ .nil)) (.cons (kr_str "release" (by decide +kernel)) (.cons (kr_str "release" (by decide +kernel)) .nil))) (.cons (kr_tup (vs := [(.str "release"), (.str "both")]) el70 rfl rfl (by rw [sizeLine_eq]; show 2 ≤ 16777216; decide) (.cons ⟨_, rfl⟩ (.cons ⟨_, rfl⟩ .nil)) (.cons (kr_str "release" (by decide +kernel)) (.cons (kr_str "both" (by decide +kernel)) .nil))) (.cons (kr_tup (vs := [(.str "release"), (.str "return")]) el73 rfl rfl (by rw [sizeLine_eq]; show 2 ≤ 16777216; decide) (.cons ⟨_, rfl⟩ (.cons ⟨_, rfl⟩ .nil)) (.cons (kr_str "release" (by decide +kernel)) (.cons (kr_str "return" (by decide +kernel)) .nil))) (.cons (kr_tup (vs := [(.str "both"), (.str "read")]) el76 rfl rfl (by rw [sizeLine_eq]; show 2 ≤ 16777216; decide) (.cons ⟨_, rfl⟩ (.cons ⟨_, rfl⟩ .nil)) (.cons (kr_str "both" (by decide +kernel)) (.cons (kr_str "read" (by decide +kernel)) .nil))) (.cons (kr_tup (vs := [(.str "both"), (.str "acquire")]) el79 rfl rfl (by rw [sizeLine_eq]; show 2 ≤ 16777216; decide) (.cons ⟨_, rfl⟩ (.cons ⟨_, rfl⟩ .nil)) (.cons (kr_str "both" (by decide +kernel)) (.cons (kr_str "acquire" (by decide +kernel)) .nil))) (.cons (kr_tup (vs := [(.str "both"), (.str "write")]) el82 rfl rfl (by rw [sizeLine_eq]; show 2 ≤ 16777216; decide) (.cons ⟨_, rfl⟩ (.cons ⟨_, rfl⟩ .nil)) (.cons (kr_str "both" (by decide +kernel)) (.cons (kr_str "write" (by decide +kernel)) .nil))) (.cons (kr_tup (vs := [(.str "both"), (.str "release")]) el85 rfl rfl (by rw [sizeLine_eq]; show 2 ≤ 16777216; decide) (.cons ⟨_, rfl⟩ (.cons ⟨_, rfl⟩ .nil)) (.cons (kr_str "both" (by decide +kernel)) (.cons (kr_str "release" (by decide +kernel)) .nil))) (.cons (kr_tup (vs := [(.str "both"), (.str "both")]) el88 rfl rfl (by rw [sizeLine_eq]; show 2 ≤ 16777216; decide) (.cons ⟨_, rfl⟩ (.cons ⟨_, rfl⟩ .nil)) (.cons (kr_str "both" (by decide +kernel)) (.cons (kr_str "both" (by decide +kernel)) .nil))) .nil))))))))))))))))))))))))))))⟩, c_READS := ⟨_, PySem.W.mg_of X G xc_READS, fun cn => (kr_tup (vs := [(.str "read"), (.str "acquire")]) el91 rfl rfl (by rw [sizeLine_eq]; show 2 ≤ 16777216; decide) (.cons ⟨_, rfl⟩ (.cons ⟨_, rfl⟩ .nil)) (.cons (kr_str "read" (by decide +kernel)) (.cons (kr_str "acquire" (by decide +kernel)) .nil)))⟩, c_WRITES := ⟨_, PySem.W.mg_of X G xc_WRITES, fun cn => (kr_tup (vs := [(.str "write"), (.str "release")]) el94 rfl rfl (by rw [sizeLine_eq]; show 2 ≤ 16777216; decide) (.cons ⟨_, rfl⟩ (.cons ⟨_, rfl⟩ .nil)) (.cons (kr_str "write" (by decide +kernel)) (.cons (kr_str "release" (by decide +kernel)) .nil)))⟩, cl_3 := ⟨opg3, ohd3, opo3, osa3⟩, sf_3 := osf3, nf_3_own_rows := onf3_own_rows, is_3 := fun _ => ⟨⟨opg3, ohd3, opo3, osa3⟩, ocn3, xgd, xtd, oob3⟩, ki_3_3 := oki3_3 }
  have F0 := fun_mk (st := s_l_great) l0 c0 k0
  have b0 := F0.binds (ps := ["_law_cell", "_law_k"]) fun _ _ _ _ _ _ us hl => match us, hl with | [_, _], _ => rfl
  have m0 := PySem.W.mg_of X G a0
  have F1 := fun_mk (st := s_l_draw) l1 c1 k1
  have b1 := F1.binds (ps := ["_law_script", "_law_k"]) fun _ _ _ _ _ _ us hl => match us, hl with | [_, _], _ => rfl
  have m1 := PySem.W.mg_of X G a1
  have F2 := fun_mk (st := s_l_pairs) l2 c2 k2
  have b2 := F2.binds (ps := []) fun _ _ _ _ _ _ us hl => match us, hl with | [], _ => rfl
  have m2 := PySem.W.mg_of X G a2
  have F3 := fun_mk (st := s_l_items) l3 c3 k3
  have b3 := F3.binds (ps := ["_law_number"]) fun _ _ _ _ _ _ us hl => match us, hl with | [_], _ => rfl
  have m3 := PySem.W.mg_of X G a3
  have F4 := funV_mk (st := s_p_Pairs___init__) l4 c4 k4
  have F6 := fun_mk (st := s_p_Pairs___contains__) l6 c6 k6
  have b6 := F6.binds (ps := ["self", "pair"]) fun _ _ _ _ _ _ us hl => match us, hl with | [_, _], _ => rfl
  have F7 := fun_mk (st := s_p_Pairs___and__) l7 c7 k7
  have b7 := F7.binds (ps := ["self", "other"]) fun _ _ _ _ _ _ us hl => match us, hl with | [_, _], _ => rfl
  have F8 := fun_mk (st := s_p_Pairs___or__) l8 c8 k8
  have b8 := F8.binds (ps := ["self", "other"]) fun _ _ _ _ _ _ us hl => match us, hl with | [_, _], _ => rfl
  have F9 := fun_mk (st := s_p_Pairs___sub__) l9 c9 k9
  have b9 := F9.binds (ps := ["self", "other"]) fun _ _ _ _ _ _ us hl => match us, hl with | [_, _], _ => rfl
  have F10 := fun_mk (st := s_p_Pairs___len__) l10 c10 k10
  have b10 := F10.binds (ps := ["self"]) fun _ _ _ _ _ _ us hl => match us, hl with | [_], _ => rfl
  have F11 := fun_mk (st := s_iter_Pairs) l11 c11 k11
  have b11 := F11.binds (ps := ["self"]) fun _ _ _ _ _ _ us hl => match us, hl with | [_], _ => rfl
  have F12 := fun_mk (st := s_lnl_Pairs) l12 c12 k12
  have b12 := F12.binds (ps := ["self"]) fun _ _ _ _ _ _ us hl => match us, hl with | [_], _ => rfl
  have F13 := fun_mk (st := s_l_is_set) l13 c13 k13
  have b13 := F13.binds (ps := ["_law_told", "_law_due"]) fun _ _ _ _ _ _ us hl => match us, hl with | [_, _], _ => rfl
  have m13 := PySem.W.mg_of X G a13
  have F14 := fun_mk (st := s_l_made) l14 c14 k14
  have b14 := F14.binds (ps := ["_law_a", "_law_b", "_law_none", "_law_one", "_law_two", "_law_rows"]) fun _ _ _ _ _ _ us hl => match us, hl with | [_, _, _, _, _, _], _ => rfl
  have m14 := PySem.W.mg_of X G a14
  have F15 := fun_mk (st := s_p_Pairs_within) l15 c15 k15
  have b15 := F15.binds (ps := ["self", "other"]) fun _ _ _ _ _ _ us hl => match us, hl with | [_, _], _ => rfl
  have F16 := fun_mk (st := s_l_says) l16 c16 k16
  have b16 := F16.binds (ps := ["_law_told", "_law_due"]) fun _ _ _ _ _ _ us hl => match us, hl with | [_, _], _ => rfl
  have m16 := PySem.W.mg_of X G a16
  have F17 := fun_mk (st := s_l_within) l17 c17 k17
  have b17 := F17.binds (ps := ["_law_a", "_law_b", "_law_none", "_law_one", "_law_two", "_law_same"]) fun _ _ _ _ _ _ us hl => match us, hl with | [_, _, _, _, _, _], _ => rfl
  have m17 := PySem.W.mg_of X G a17
  have F18 := fun_mk (st := s_l_words) l18 c18 k18
  have b18 := F18.binds (ps := ["_law_number"]) fun _ _ _ _ _ _ us hl => match us, hl with | [_], _ => rfl
  have m18 := PySem.W.mg_of X G a18
  have F19 := fun_mk (st := s_p_Pairs_between) l19 c19 k19
  have b19 := F19.binds (ps := ["firsts", "seconds"]) fun _ _ _ _ _ _ us hl => match us, hl with | [_, _], _ => rfl
  have F20 := fun_mk (st := s_l_odd) l20 c20 k20
  have b20 := F20.binds (ps := ["_law_number"]) fun _ _ _ _ _ _ us hl => match us, hl with | [_], _ => rfl
  have m20 := PySem.W.mg_of X G a20
  have F21 := fun_mk (st := s_l_spoilt) l21 c21 k21
  have b21 := F21.binds (ps := ["_law_items_here", "_law_number"]) fun _ _ _ _ _ _ us hl => match us, hl with | [_, _], _ => rfl
  have m21 := PySem.W.mg_of X G a21
  have F22 := fun_mk (st := s_l_first_bad) l22 c22 k22
  have b22 := F22.binds (ps := ["_law_items_here"]) fun _ _ _ _ _ _ us hl => match us, hl with | [_], _ => rfl
  have m22 := PySem.W.mg_of X G a22
  have F23 := fun_mk (st := s_l_refusal) l23 c23 k23
  have b23 := F23.binds (ps := ["_law_items_here"]) fun _ _ _ _ _ _ us hl => match us, hl with | [_], _ => rfl
  have m23 := PySem.W.mg_of X G a23
  have F24 := fun_mk (st := s_law) l24 c24 k24
  refine ⟨PySem.W.fnOf "law" "law" (defArgs s_law) (defBody s_law) (defScope s_law) .none kV24 dc24 pm24 an24 cd24 ct24, fun s v => .of_eq rfl, ⟨ctOf [C0, C1, C2, C3], none⟩, fun base _ _ => ?_⟩
  have h0 : Fn l.prog w K mg base ⟨ctOf [C0, C1, C2, C3], none⟩ 1 "_law_great" 2 F_l_great := ok_l_great T XC rfl F0 m0 b0 
  have h1 : Fn l.prog w K mg base ⟨ctOf [C0, C1, C2, C3], none⟩ 2 "_law_draw" 2 F_l_draw := ok_l_draw T XC rfl F1 m1 b1 h0
  have h2 : Fn l.prog w K mg base ⟨ctOf [C0, C1, C2, C3], none⟩ 1 "_law_pairs" 0 F_l_pairs := ok_l_pairs T XC rfl F2 m2 b2 
  have h3 : Fn l.prog w K mg base ⟨ctOf [C0, C1, C2, C3], none⟩ 2 "_law_items" 1 F_l_items := ok_l_items T XC rfl F3 m3 b3 h2
  have h4 : MkK l.prog w K mg base ⟨ctOf [C0, C1, C2, C3], none⟩ 2 "Pairs" 1 [] [none] 2 3 F_p_Pairs___init__ := ok_p_Pairs___init___1 (shU := [none]) (shV := [none]) T XC rfl F4 ⟨mk4, a4, n4, kc4⟩ (bnd_dfl el1 rfl (fun us ws h1 h2 => match us, ws, h1, h2 with | [_, _], [], _, _ => ⟨_, rfl, rfl⟩)) (ShU.arg ShU.nil) (ShR.arg ShR.nil) 
  have h5 : MkK l.prog w K mg base ⟨ctOf [C0, C1, C2, C3], none⟩ 2 "Pairs" 0 [] [some (.ktup [])] 2 3 F_p_Pairs___init__ := ok_p_Pairs___init___0_d (shU := [some (.ref ea2)]) (shV := [some (.ref ea2)]) T XC rfl F4 ⟨mk4, a4, n4, kc4⟩ (bnd_dfl el1 rfl (fun us ws h1 h2 => match us, ws, h1, h2 with | [_], [], _, _ => ⟨_, rfl, rfl⟩)) (ShU.con rfl ShU.nil) (ShR.con (kr_tup (vs := []) el2 rfl rfl (by rw [sizeLine_eq]; show 0 ≤ 16777216; decide) .nil .nil) ShR.nil) 
  have h6 : MOk l.prog w K mg base ⟨ctOf [C0, C1, C2, C3], none⟩ 1 "__contains__" 2 3 F_p_Pairs___contains__ := ok_p_Pairs___contains__ T XC rfl F6 b6 a6 n6 i6 
  have h7 : MOk l.prog w K mg base ⟨ctOf [C0, C1, C2, C3], none⟩ 4 "__and__" 2 3 F_p_Pairs___and__ := ok_p_Pairs___and__ T XC rfl F7 b7 a7 n7 i7 h4 h6
  have h8 : MOk l.prog w K mg base ⟨ctOf [C0, C1, C2, C3], none⟩ 4 "__or__" 2 3 F_p_Pairs___or__ := ok_p_Pairs___or__ T XC rfl F8 b8 a8 n8 i8 h4 h6
  have h9 : MOk l.prog w K mg base ⟨ctOf [C0, C1, C2, C3], none⟩ 4 "__sub__" 2 3 F_p_Pairs___sub__ := ok_p_Pairs___sub__ T XC rfl F9 b9 a9 n9 i9 h4 h6
  have h10 : MOk l.prog w K mg base ⟨ctOf [C0, C1, C2, C3], none⟩ 1 "__len__" 1 3 F_p_Pairs___len__ := ok_p_Pairs___len__ T XC rfl F10 b10 a10 n10 i10 
  have h11 : IOk l.prog w K mg base ⟨ctOf [C0, C1, C2, C3], none⟩ 1 3 "own_rows" := ok_iter_Pairs T XC F11 b11 a11 n11 
  have h12 : LOk l.prog w K mg base ⟨ctOf [C0, C1, C2, C3], none⟩ 1 3 "own_rows" := ok_lnl_Pairs T XC F12 b12 a12 n12 h11
  have h13 : Fn l.prog w K mg base ⟨ctOf [C0, C1, C2, C3], none⟩ 5 "_law_is_set" 2 F_l_is_set := ok_l_is_set T XC rfl F13 m13 b13 h10 h12 h2 h6
  have h14 : Fn l.prog w K mg base ⟨ctOf [C0, C1, C2, C3], none⟩ 6 "_law_made" 6 F_l_made := ok_l_made T XC rfl F14 m14 b14 h7 h8 h9 h13
  have h15 : MOk l.prog w K mg base ⟨ctOf [C0, C1, C2, C3], none⟩ 2 "within" 2 3 F_p_Pairs_within := ok_p_Pairs_within T XC rfl F15 b15 a15 n15 i15 h6
  have h16 : Fn l.prog w K mg base ⟨ctOf [C0, C1, C2, C3], none⟩ 1 "_law_says" 2 F_l_says := ok_l_says T XC rfl F16 m16 b16 
  have h17 : Fn l.prog w K mg base ⟨ctOf [C0, C1, C2, C3], none⟩ 5 "_law_within" 6 F_l_within := ok_l_within T XC rfl F17 m17 b17 h15 h7 h8 h16
  have h18 : Fn l.prog w K mg base ⟨ctOf [C0, C1, C2, C3], none⟩ 1 "_law_words" 1 F_l_words := ok_l_words T XC rfl F18 m18 b18 
  have h19 : SOk l.prog w K mg base ⟨ctOf [C0, C1, C2, C3], none⟩ 4 "Pairs" "between" 2 F_p_Pairs_between := ok_p_Pairs_between T XC rfl F19 b19 sd19 sg19 sa19 sc19 h4
  have h20 : Fn l.prog w K mg base ⟨ctOf [C0, C1, C2, C3], none⟩ 1 "_law_odd" 1 F_l_odd := ok_l_odd T XC rfl F20 m20 b20 
  have h21 : Fn l.prog w K mg base ⟨ctOf [C0, C1, C2, C3], none⟩ 2 "_law_spoilt" 2 F_l_spoilt := ok_l_spoilt T XC rfl F21 m21 b21 h20
  have h22 : Fn l.prog w K mg base ⟨ctOf [C0, C1, C2, C3], none⟩ 2 "_law_first_bad" 1 F_l_first_bad := ok_l_first_bad T XC rfl F22 m22 b22 h2
  have h23 : Fn l.prog w K mg base ⟨ctOf [C0, C1, C2, C3], none⟩ 4 "_law_refusal" 1 F_l_refusal := ok_l_refusal T XC rfl F23 m23 b23 h4
  exact ok_law T XC rfl F24 h1 h2 h3 h4 h5 h14 h17 h18 h13 h19 h21 h22 h23
end K33
open PySem PySem.W PyProof.Rows
set_option maxRecDepth 100000 in
set_option maxHeartbeats 0 in
theorem PySem.Challenge.cw_coretower_k33_pairs_as_sets_holds : PySem.Challenge.rw_coretower_k33_pairs_as_sets.Holds := by
  w_on; o_law; k_head; (case hw => w_witness2)
  k_fill
  refine VS.walkD (l := PySem.Challenge.rw_coretower_k33_pairs_as_sets) (F := K33.F_law) (k := 7) (x := "_law_script") (fun ns hn => ⟨_, K33.law_ok ns hn⟩) ⟨rfl, by decide, by decide⟩ rfl rfl (fun w h Y => PySem.W.kIn_of Y) ?F
  case F =>
    intro w mg fa h KX G hmg
    refine' K33.all_mk (l := PySem.Challenge.rw_coretower_k33_pairs_as_sets) KX G hmg ?xm0 ?xm1 ?xm2 ?xm3 ?a0 ?l0 ?c0 ?k0 ?a1 ?l1 ?c1 ?k1 ?a2 ?l2 ?c2 ?k2 ?a3 ?l3 ?c3 ?k3 ?a4 ?l4 ?el1 ?el2 ?c4 ?k4 ?mk4 ?n4 ?kc4 ?a6 ?l6 ?c6 ?k6 ?n6 ?i6 ?a7 ?l7 ?c7 ?k7 ?n7 ?i7 ?a8 ?l8 ?c8 ?k8 ?n8 ?i8 ?a9 ?l9 ?c9 ?k9 ?n9 ?i9 ?a10 ?l10 ?c10 ?k10 ?n10 ?i10 ?a11 ?l11 ?c11 ?k11 ?n11 ?a12 ?l12 ?c12 ?k12 ?n12 ?a13 ?l13 ?c13 ?k13 ?a14 ?l14 ?c14 ?k14 ?a15 ?l15 ?c15 ?k15 ?n15 ?i15 ?a16 ?l16 ?c16 ?k16 ?a17 ?l17 ?c17 ?k17 ?a18 ?l18 ?c18 ?k18 ?sa19 ?sd19 ?sg19 ?sc19 ?l19 ?c19 ?k19 ?a20 ?l20 ?c20 ?k20 ?a21 ?l21 ?c21 ?k21 ?a22 ?l22 ?c22 ?k22 ?a23 ?l23 ?c23 ?k23 ?a24 ?l24 ?c24 ?k24 ?opg3 ?ohd3 ?opo3 ?osa3 ?osf3 ?onf3_own_rows ?ocn3 ?oob3 ?oki3_3 ?z0 ?z1 ?z2 ?z3 ?z4 ?z5 ?z6 ?z7 ?xsu ?xl1 ?xex1 ?xsa1 ?xic1 ?xtc1 ?xkp1 ?xty1 ?xnf1_pair ?xsp1 ?xow1 ?xve1 ?xli1 ?xci1 ?xdi1 ?xvi1 ?xgi1 ?xei1 ?xop ?xtp ?xgd ?xtd ?xga1 ?xgg1 ?xcn1 ?xob1 ?xhd1 ?xf1_pair ?xe1_0 ?xk1_ValueError ?xk1_1 ?xk1_2 ?xc_KINDS ?el3 ?xc_PAIRS ?el9 ?el10 ?el13 ?el16 ?el19 ?el22 ?el25 ?el28 ?el31 ?el34 ?el37 ?el40 ?el43 ?el46 ?el49 ?el52 ?el55 ?el58 ?el61 ?el64 ?el67 ?el70 ?el73 ?el76 ?el79 ?el82 ?el85 ?el88 ?xc_READS ?el91 ?xc_WRITES ?el94
    (case xm0 => k_is)
    (case xm1 => k_is)
    (case xm2 => k_is)
    (case xm3 => k_is)
    (case a0 => k_is)
    (case l0 => k_is)
    (case c0 => k_is)
    (case k0 => k_is)
    (case a1 => k_is)
    (case l1 => k_is)
    (case c1 => k_is)
    (case k1 => k_is)
    (case a2 => k_is)
    (case l2 => k_is)
    (case c2 => k_is)
    (case k2 => k_is)
    (case a3 => k_is)
    (case l3 => k_is)
    (case c3 => k_is)
    (case k3 => k_is)
    (case a4 => k_is)
    (case l4 => k_is)
    (case el1 => k_is)
    (case el2 => k_is)
    (case c4 => k_is)
    (case k4 => k_is)
    (case mk4 => k_is)
    (case n4 => k_is)
    (case kc4 => k_is)
    (case a6 => k_is)
    (case l6 => k_is)
    (case c6 => k_is)
    (case k6 => k_is)
    (case n6 => k_is)
    (case i6 => k_is)
    (case a7 => k_is)
    (case l7 => k_is)
    (case c7 => k_is)
    (case k7 => k_is)
    (case n7 => k_is)
    (case i7 => k_is)
    (case a8 => k_is)
    (case l8 => k_is)
    (case c8 => k_is)
    (case k8 => k_is)
    (case n8 => k_is)
    (case i8 => k_is)
    (case a9 => k_is)
    (case l9 => k_is)
    (case c9 => k_is)
    (case k9 => k_is)
    (case n9 => k_is)
    (case i9 => k_is)
    (case a10 => k_is)
    (case l10 => k_is)
    (case c10 => k_is)
    (case k10 => k_is)
    (case n10 => k_is)
    (case i10 => k_is)
    (case a11 => k_is)
    (case l11 => k_is)
    (case c11 => k_is)
    (case k11 => k_is)
    (case n11 => k_is)
    (case a12 => k_is)
    (case l12 => k_is)
    (case c12 => k_is)
    (case k12 => k_is)
    (case n12 => k_is)
    (case a13 => k_is)
    (case l13 => k_is)
    (case c13 => k_is)
    (case k13 => k_is)
    (case a14 => k_is)
    (case l14 => k_is)
    (case c14 => k_is)
    (case k14 => k_is)
    (case a15 => k_is)
    (case l15 => k_is)
    (case c15 => k_is)
    (case k15 => k_is)
    (case n15 => k_is)
    (case i15 => k_is)
    (case a16 => k_is)
    (case l16 => k_is)
    (case c16 => k_is)
    (case k16 => k_is)
    (case a17 => k_is)
    (case l17 => k_is)
    (case c17 => k_is)
    (case k17 => k_is)
    (case a18 => k_is)
    (case l18 => k_is)
    (case c18 => k_is)
    (case k18 => k_is)
    (case sa19 => k_is)
    (case sd19 => k_is)
    (case sg19 => k_is)
    (case sc19 => k_is)
    (case l19 => k_is)
    (case c19 => k_is)
    (case k19 => k_is)
    (case a20 => k_is)
    (case l20 => k_is)
    (case c20 => k_is)
    (case k20 => k_is)
    (case a21 => k_is)
    (case l21 => k_is)
    (case c21 => k_is)
    (case k21 => k_is)
    (case a22 => k_is)
    (case l22 => k_is)
    (case c22 => k_is)
    (case k22 => k_is)
    (case a23 => k_is)
    (case l23 => k_is)
    (case c23 => k_is)
    (case k23 => k_is)
    (case a24 => k_is)
    (case l24 => k_is)
    (case c24 => k_is)
    (case k24 => k_is)
    (case opg3 => k_is)
    (case ohd3 => k_is)
    (case opo3 => k_is)
    (case osa3 => k_is)
    (case osf3 => k_is)
    (case onf3_own_rows => k_is)
    (case ocn3 => k_is)
    (case oob3 => k_is)
    (case oki3_3 => first | rfl | k_is)
    (case z0 => k_is)
    (case z1 => k_is)
    (case z2 => k_is)
    (case z3 => k_is)
    (case z4 => k_is)
    (case z5 => k_is)
    (case z6 => k_is)
    (case z7 => k_is)
    (case xsu => k_is)
    (case xl1 => k_is)
    (case xex1 => k_is)
    (case xsa1 => k_is)
    (case xic1 => k_is)
    (case xtc1 => k_is)
    (case xkp1 => k_is)
    (case xty1 => k_is)
    (case xnf1_pair => k_is)
    (case xsp1 => ks_is)
    (case xow1 => k_is)
    (case xve1 => k_is)
    (case xli1 => k_is)
    (case xci1 => k_is)
    (case xdi1 => k_is)
    (case xvi1 => rfl)
    (case xgi1 => decide +kernel)
    (case xei1 => k_is)
    (case xop => k_is)
    (case xtp => decide +kernel)
    (case xgd => k_is)
    (case xtd => k_is)
    (case xga1 => k_is)
    (case xgg1 => k_is)
    (case xcn1 => k_is)
    (case xob1 => k_is)
    (case xhd1 => k_is)
    (case xf1_pair => k_is)
    (case xe1_0 => first | rfl | k_is)
    (case xk1_ValueError => first | rfl | k_is)
    (case xk1_1 => first | rfl | k_is)
    (case xk1_2 => first | rfl | k_is)
    (case xc_KINDS => k_is)
    (case el3 => k_is)
    (case xc_PAIRS => k_is)
    (case el9 => k_is)
    (case el10 => k_is)
    (case el13 => k_is)
    (case el16 => k_is)
    (case el19 => k_is)
    (case el22 => k_is)
    (case el25 => k_is)
    (case el28 => k_is)
    (case el31 => k_is)
    (case el34 => k_is)
    (case el37 => k_is)
    (case el40 => k_is)
    (case el43 => k_is)
    (case el46 => k_is)
    (case el49 => k_is)
    (case el52 => k_is)
    (case el55 => k_is)
    (case el58 => k_is)
    (case el61 => k_is)
    (case el64 => k_is)
    (case el67 => k_is)
    (case el70 => k_is)
    (case el73 => k_is)
    (case el76 => k_is)
    (case el79 => k_is)
    (case el82 => k_is)
    (case el85 => k_is)
    (case el88 => k_is)
    (case xc_READS => k_is)
    (case el91 => k_is)
    (case xc_WRITES => k_is)
    (case el94 => k_is)
